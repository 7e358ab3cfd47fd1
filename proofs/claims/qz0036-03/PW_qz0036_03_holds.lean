import PyProof.Rows.All
import Wide.All
import OpenK.AllK
import Wide.FinOn
import PySem.Challenge.RW_qz0036_03
/- The walk of the law over abstract values (namespace MP), the plain law, and the join.
   The compiled file must stay under its lid. The head lays a twin (MP.whole.tw.., see Open/Fast.lean, stemIn) of each of its own constants, with a proof of some
   hundred thousand terms in all; where a constant of that name stands already it lays none and goes on without. The rows «theorem MP.whole.tw..» below,
   each of them just True, do only that: nothing reads them. -/
open PySem PySem.W PyProof.Rows
set_option Elab.async false
set_option maxRecDepth 100000
set_option linter.all false
namespace MP.whole
theorem tw16640420397587989959:True:=trivial
theorem tw18211412006086958186:True:=trivial
theorem tw5901866766156320498:True:=trivial
theorem tw8142485941256552511:True:=trivial
theorem tw7316284654644519805:True:=trivial
theorem tw10878789366451056887:True:=trivial
theorem tw11121433115929693812:True:=trivial
theorem tw11313384827383491997:True:=trivial
theorem tw7528107468884172026:True:=trivial
theorem tw7307790864599071519:True:=trivial
theorem tw7971860599773877407:True:=trivial
theorem tw835401325011668033:True:=trivial
theorem tw8604492322609618780:True:=trivial
theorem tw7954310946529262535:True:=trivial
theorem tw3019938944930241639:True:=trivial
theorem tw7369671966740971300:True:=trivial
theorem tw8202337758482868349:True:=trivial
theorem tw4056265096648929153:True:=trivial
theorem tw426356416607016052:True:=trivial
theorem tw1097706632511346507:True:=trivial
theorem tw8130581706888515550:True:=trivial
theorem tw2653031065752251628:True:=trivial
theorem tw9249200334042909262:True:=trivial
theorem tw8241208915816921390:True:=trivial
theorem tw9386054961299423651:True:=trivial
theorem tw11030163713025036655:True:=trivial
theorem tw7587844661009122920:True:=trivial
theorem tw454970742730620294:True:=trivial
theorem tw8990898086422219763:True:=trivial
theorem tw6363454539627726825:True:=trivial
theorem tw15906164836942295160:True:=trivial
theorem tw14705440679738192629:True:=trivial
theorem tw4430007001504169783:True:=trivial
theorem tw737047311165381619:True:=trivial
theorem tw18140841742318848192:True:=trivial
theorem tw7874553460320022126:True:=trivial
theorem tw3712254955869313881:True:=trivial
theorem tw7181536488172463639:True:=trivial
theorem tw14753929753834603021:True:=trivial
theorem tw15116639518276897657:True:=trivial
theorem tw15824186949199457727:True:=trivial
theorem tw14206323472967510632:True:=trivial
theorem tw5541123906206850703:True:=trivial
theorem tw3415265111047010512:True:=trivial
theorem tw535186039941493797:True:=trivial
theorem tw13622903137312005784:True:=trivial
theorem tw6288144715742039672:True:=trivial
theorem tw9201683338821919874:True:=trivial
theorem tw3246021206623981670:True:=trivial
theorem tw12640513314316417336:True:=trivial
theorem tw16772944100608733206:True:=trivial
theorem tw16060693184072599521:True:=trivial
theorem tw3351008532273575867:True:=trivial
theorem tw12996741291373104870:True:=trivial
theorem tw7041771105315432492:True:=trivial
theorem tw14976881091233267868:True:=trivial
theorem tw4121338251453146458:True:=trivial
theorem tw7097351209681713244:True:=trivial
theorem tw15863833586320707844:True:=trivial
theorem tw2083166756718778749:True:=trivial
theorem tw14660693123422308398:True:=trivial
theorem tw2033544891358847409:True:=trivial
theorem tw11191747126330900900:True:=trivial
theorem tw4960003301826749320:True:=trivial
theorem tw3618431470516682914:True:=trivial
theorem tw14481973992888471300:True:=trivial
theorem tw5015140852209118979:True:=trivial
theorem tw15553143450731748857:True:=trivial
theorem tw8751385807470164316:True:=trivial
theorem tw12477189165898781333:True:=trivial
theorem tw4329094147391818095:True:=trivial
theorem tw18332720618999382984:True:=trivial
theorem tw7103709657430467237:True:=trivial
theorem tw16527148945605344889:True:=trivial
theorem tw1348835374073080023:True:=trivial
theorem tw537925319123673101:True:=trivial
theorem tw14518360977276570008:True:=trivial
theorem tw3740285677087082224:True:=trivial
theorem tw12217422518708411034:True:=trivial
theorem tw10915913489987147213:True:=trivial
theorem tw14359310102389453828:True:=trivial
theorem tw1092272833010483217:True:=trivial
theorem tw11062904477533257325:True:=trivial
theorem tw12889677258728375912:True:=trivial
theorem tw4627122051276386199:True:=trivial
theorem tw13531333967109268835:True:=trivial
theorem tw11758566855407513415:True:=trivial
theorem tw6167672218037630073:True:=trivial
theorem tw39472726980520295:True:=trivial
theorem tw3580095323306782198:True:=trivial
theorem tw5774644114660685926:True:=trivial
theorem tw17106930267516549867:True:=trivial
theorem tw3075158137777475229:True:=trivial
theorem tw15525111230997845379:True:=trivial
theorem tw10003426738984821923:True:=trivial
theorem tw18203957950098374102:True:=trivial
theorem tw14106044737271394188:True:=trivial
theorem tw13366658189342808972:True:=trivial
theorem tw5545177201174618946:True:=trivial
theorem tw10694857226983677347:True:=trivial
theorem tw1122198877562931044:True:=trivial
theorem tw7997558661413782243:True:=trivial
theorem tw2217186071070090333:True:=trivial
theorem tw598456991234575589:True:=trivial
theorem tw12019168663517850557:True:=trivial
theorem tw9174089485330808981:True:=trivial
theorem tw16298811371578178689:True:=trivial
theorem tw6167746455413455414:True:=trivial
theorem tw12738031306225404929:True:=trivial
theorem tw2552305236805180056:True:=trivial
theorem tw15000692110580739790:True:=trivial
theorem tw10497121958535761038:True:=trivial
theorem tw18356998670121850388:True:=trivial
theorem tw7916738733002563974:True:=trivial
theorem tw13713799576146360964:True:=trivial
theorem tw23981007574090181:True:=trivial
theorem tw15275661299300725654:True:=trivial
theorem tw10634900237866036959:True:=trivial
theorem tw11651578186376368637:True:=trivial
theorem tw17265339400378182577:True:=trivial
theorem tw14370221275263502259:True:=trivial
theorem tw13942075926457134932:True:=trivial
theorem tw9323646453970906595:True:=trivial
theorem tw235758008504408970:True:=trivial
theorem tw14768890315695266139:True:=trivial
theorem tw13971228118035143973:True:=trivial
theorem tw6397653503283887783:True:=trivial
theorem tw13393821382719022970:True:=trivial
theorem tw7712641932525065653:True:=trivial
theorem tw10957893741109569925:True:=trivial
theorem tw1713428654884181128:True:=trivial
theorem tw13790894967859482944:True:=trivial
theorem tw904097594285195468:True:=trivial
theorem tw6668832958166482270:True:=trivial
theorem tw1415476475650733471:True:=trivial
theorem tw3920127822413846874:True:=trivial
theorem tw8911434909955891573:True:=trivial
theorem tw14815636774477485864:True:=trivial
theorem tw10229036734313710912:True:=trivial
theorem tw6946191952239097636:True:=trivial
theorem tw5680044790518847070:True:=trivial
theorem tw9406537908780017056:True:=trivial
theorem tw4517578426747934478:True:=trivial
theorem tw10110745684503776847:True:=trivial
theorem tw7867692689351063256:True:=trivial
theorem tw9794696419574402060:True:=trivial
theorem tw3964185425280230142:True:=trivial
theorem tw10735444298036744536:True:=trivial
theorem tw3728192558554617025:True:=trivial
theorem tw6907936773063244728:True:=trivial
theorem tw4974781081527286901:True:=trivial
theorem tw10162003482850966131:True:=trivial
theorem tw3499024026575464899:True:=trivial
theorem tw4941512411787796455:True:=trivial
theorem tw2199828957538247841:True:=trivial
theorem tw7396951777099876099:True:=trivial
theorem tw10590421695237868617:True:=trivial
theorem tw1436880327596580117:True:=trivial
theorem tw14065672333364701672:True:=trivial
theorem tw11010215511546098551:True:=trivial
theorem tw6745368760011224651:True:=trivial
theorem tw13280073920327288766:True:=trivial
theorem tw18132039373162399976:True:=trivial
theorem tw16954260573660057824:True:=trivial
theorem tw14395184440075973984:True:=trivial
theorem tw5112266337393507577:True:=trivial
theorem tw1087646895382494194:True:=trivial
theorem tw11086223563872664327:True:=trivial
theorem tw9565265742537680816:True:=trivial
theorem tw310086310783806689:True:=trivial
theorem tw5103962477176562671:True:=trivial
theorem tw11832855953852137095:True:=trivial
theorem tw4646353316851640394:True:=trivial
theorem tw16075115081377070891:True:=trivial
theorem tw6145924281490506904:True:=trivial
theorem tw9523470040077126392:True:=trivial
theorem tw12007319677734458322:True:=trivial
theorem tw11355277107485597560:True:=trivial
theorem tw292512228554612721:True:=trivial
theorem tw10830056267733846626:True:=trivial
theorem tw434605959337307796:True:=trivial
theorem tw1540672716983506405:True:=trivial
theorem tw15408275205313157333:True:=trivial
theorem tw2245820836641905438:True:=trivial
theorem tw15592001757702876907:True:=trivial
theorem tw6614103591225490185:True:=trivial
theorem tw14434123778000293288:True:=trivial
theorem tw1644476984196018944:True:=trivial
theorem tw5922325713313563040:True:=trivial
theorem tw2787552083588598299:True:=trivial
theorem tw10317074559512629011:True:=trivial
theorem tw3168249483337716292:True:=trivial
theorem tw5132545031430791077:True:=trivial
theorem tw11658895938223484200:True:=trivial
theorem tw6947582008772946259:True:=trivial
theorem tw18263056447181583387:True:=trivial
theorem tw5019426082538068770:True:=trivial
theorem tw8737468312361833446:True:=trivial
theorem tw3763678094368100444:True:=trivial
theorem tw4771364705392527873:True:=trivial
theorem tw13087241791222440732:True:=trivial
theorem tw10929225541294975585:True:=trivial
theorem tw13262227846130503141:True:=trivial
theorem tw3068480805400059445:True:=trivial
theorem tw2176990687544212131:True:=trivial
theorem tw6580026455041444081:True:=trivial
theorem tw4895139696997182198:True:=trivial
theorem tw7967654656276853213:True:=trivial
theorem tw1517804747604210927:True:=trivial
theorem tw14809537725001968604:True:=trivial
theorem tw11718200425412636813:True:=trivial
theorem tw7936296982626573834:True:=trivial
theorem tw10362016924048952969:True:=trivial
theorem tw2822803690531288474:True:=trivial
theorem tw8086528557134723681:True:=trivial
theorem tw18087214644366939587:True:=trivial
theorem tw12549024871495109215:True:=trivial
theorem tw15539693093386262939:True:=trivial
theorem tw639882199738262332:True:=trivial
theorem tw15375857414812739913:True:=trivial
theorem tw12257063348667498842:True:=trivial
theorem tw7790333329934797849:True:=trivial
theorem tw3934282566411484291:True:=trivial
theorem tw4368231194107563510:True:=trivial
theorem tw4911028445102538797:True:=trivial
theorem tw10477908619810547373:True:=trivial
theorem tw6860832503505419919:True:=trivial
theorem tw16915690938627530014:True:=trivial
theorem tw8144291344484043844:True:=trivial
theorem tw1875618652428842692:True:=trivial
theorem tw9909074011504368002:True:=trivial
theorem tw11842772934983543022:True:=trivial
theorem tw14776326056809437551:True:=trivial
theorem tw4292195030943378913:True:=trivial
theorem tw6345160264057693560:True:=trivial
theorem tw7095070450813458245:True:=trivial
theorem tw7826108053178127896:True:=trivial
theorem tw4039016319079359227:True:=trivial
theorem tw1990816635172562355:True:=trivial
theorem tw9416123173500728336:True:=trivial
theorem tw1475504600008747078:True:=trivial
theorem tw17699115071223931993:True:=trivial
theorem tw1529582237242202620:True:=trivial
theorem tw11960625635597474712:True:=trivial
theorem tw18263305037239849993:True:=trivial
theorem tw9378756817720711147:True:=trivial
theorem tw6006002691326822393:True:=trivial
theorem tw3601137773307823367:True:=trivial
theorem tw3864134590872725640:True:=trivial
theorem tw4944119256902501804:True:=trivial
theorem tw14877030553836682475:True:=trivial
theorem tw16944161800704778268:True:=trivial
theorem tw8202922855655859700:True:=trivial
theorem tw10488314531893026150:True:=trivial
theorem tw15300064857871334565:True:=trivial
theorem tw10170980485231615866:True:=trivial
theorem tw10458113741993573761:True:=trivial
theorem tw5182807878609814410:True:=trivial
theorem tw3477682625617528739:True:=trivial
theorem tw18002787920338989142:True:=trivial
theorem tw13098678191502804371:True:=trivial
theorem tw2182223734648548355:True:=trivial
theorem tw15594423050595359043:True:=trivial
theorem tw4419642549590744072:True:=trivial
theorem tw11764550548207338794:True:=trivial
theorem tw7267539632891432825:True:=trivial
theorem tw1556723699308119052:True:=trivial
theorem tw11536237278636989059:True:=trivial
theorem tw7256006190797093634:True:=trivial
theorem tw2094825621216228877:True:=trivial
theorem tw5137714408855250728:True:=trivial
theorem tw10892696715393626159:True:=trivial
theorem tw235986750459918076:True:=trivial
theorem tw136460315029098760:True:=trivial
theorem tw9577319273757345770:True:=trivial
theorem tw1143465365569875291:True:=trivial
theorem tw12927174266454497697:True:=trivial
theorem tw13857569645109433777:True:=trivial
theorem tw10854123191386390484:True:=trivial
theorem tw10491034923813957067:True:=trivial
theorem tw5312948980588386387:True:=trivial
theorem tw10303544791682316814:True:=trivial
theorem tw1363291059684332932:True:=trivial
theorem tw4341922436916403923:True:=trivial
theorem tw15309133504709120879:True:=trivial
theorem tw7461323100911961095:True:=trivial
theorem tw9914639592683038413:True:=trivial
theorem tw10268494659599807341:True:=trivial
theorem tw3630309415892990086:True:=trivial
theorem tw5113288521360122128:True:=trivial
theorem tw16005975109848300791:True:=trivial
theorem tw12443038540209525210:True:=trivial
theorem tw1360997912282859692:True:=trivial
theorem tw6038055959593901794:True:=trivial
theorem tw11661785789870378504:True:=trivial
theorem tw9266809181514043037:True:=trivial
theorem tw3595034861294263293:True:=trivial
theorem tw10775813569607849305:True:=trivial
theorem tw4886345071490966516:True:=trivial
theorem tw10149798422269134646:True:=trivial
theorem tw15073441306425046799:True:=trivial
theorem tw1633646174563387934:True:=trivial
theorem tw4207869259613826461:True:=trivial
theorem tw11754478736651859321:True:=trivial
theorem tw10196344384077321007:True:=trivial
theorem tw18027535006251317534:True:=trivial
theorem tw4387844125363269850:True:=trivial
theorem tw9095246302229928319:True:=trivial
theorem tw210077916963051789:True:=trivial
theorem tw11580954230609273747:True:=trivial
theorem tw1385053184692205648:True:=trivial
theorem tw17871335023973137921:True:=trivial
theorem tw9739326749312249428:True:=trivial
theorem tw15885339858179862419:True:=trivial
theorem tw12456994776279509947:True:=trivial
theorem tw16943521326209646096:True:=trivial
theorem tw11892988650487920249:True:=trivial
theorem tw710120537524592052:True:=trivial
theorem tw9429754798954896423:True:=trivial
theorem tw100874273006489034:True:=trivial
theorem tw6615510103776227857:True:=trivial
theorem tw15838876083912577294:True:=trivial
theorem tw13360995322548531635:True:=trivial
theorem tw17870516371003285571:True:=trivial
theorem tw4359419459999709247:True:=trivial
theorem tw15565695558868882866:True:=trivial
theorem tw2548838403000521382:True:=trivial
theorem tw18280280092699936561:True:=trivial
theorem tw4602247169121470968:True:=trivial
theorem tw3989883728580053302:True:=trivial
theorem tw8596287707416057273:True:=trivial
theorem tw7550912642839189725:True:=trivial
theorem tw10468146560526547841:True:=trivial
theorem tw17857308348872166551:True:=trivial
theorem tw17109538668256847569:True:=trivial
theorem tw13431132124988562847:True:=trivial
theorem tw17634335711937993649:True:=trivial
theorem tw11838758933074138862:True:=trivial
theorem tw9439075766726335059:True:=trivial
theorem tw15921969038936081846:True:=trivial
theorem tw9761435547533716795:True:=trivial
theorem tw6597098483207404208:True:=trivial
theorem tw6999518854865712040:True:=trivial
theorem tw15597781014645147802:True:=trivial
theorem tw10500478589417737765:True:=trivial
theorem tw7206423064296170819:True:=trivial
theorem tw7014019678472423596:True:=trivial
theorem tw730836134981973028:True:=trivial
theorem tw1631413612859563793:True:=trivial
theorem tw8023401063059814117:True:=trivial
theorem tw2479591111603319483:True:=trivial
theorem tw6241194518319618493:True:=trivial
theorem tw1518233558622591771:True:=trivial
theorem tw4108535887834191457:True:=trivial
theorem tw295007210791152232:True:=trivial
theorem tw2732649793894733786:True:=trivial
theorem tw8507070384691743903:True:=trivial
theorem tw8545280044309886424:True:=trivial
theorem tw17051050753674984653:True:=trivial
theorem tw10950649113598626769:True:=trivial
theorem tw9775132352605721324:True:=trivial
theorem tw14488457695620515006:True:=trivial
theorem tw12899298690896034082:True:=trivial
theorem tw8349549550121309256:True:=trivial
theorem tw4420784026298501273:True:=trivial
theorem tw17885164013428339599:True:=trivial
theorem tw1403095553516746196:True:=trivial
theorem tw1590721937413279882:True:=trivial
theorem tw15580494764442203506:True:=trivial
theorem tw14257542716404260859:True:=trivial
theorem tw8069063814193569524:True:=trivial
theorem tw8643610774876203032:True:=trivial
theorem tw16453537557661972632:True:=trivial
theorem tw7076260260835058286:True:=trivial
theorem tw6262943963471144030:True:=trivial
theorem tw17190433494037108853:True:=trivial
theorem tw14701427341252904098:True:=trivial
theorem tw7121246350568566:True:=trivial
theorem tw17505082164283854283:True:=trivial
theorem tw4129479263623233749:True:=trivial
theorem tw5756280908094652357:True:=trivial
theorem tw14912126529193317397:True:=trivial
theorem tw7604876408706043134:True:=trivial
theorem tw10164701422916640666:True:=trivial
theorem tw16884329414550179876:True:=trivial
theorem tw9893338113704469750:True:=trivial
theorem tw5509845582129084480:True:=trivial
theorem tw4361722693661165723:True:=trivial
theorem tw2940673317727757974:True:=trivial
theorem tw2569500176192568872:True:=trivial
theorem tw13736617010049676221:True:=trivial
theorem tw2179839737860561846:True:=trivial
theorem tw11860950160310254512:True:=trivial
theorem tw8819870542630791916:True:=trivial
theorem tw7838178176789425405:True:=trivial
theorem tw6912438041819810435:True:=trivial
theorem tw11366213974661094195:True:=trivial
theorem tw13881403361909018007:True:=trivial
theorem tw5152509717052050022:True:=trivial
theorem tw15434186634650044839:True:=trivial
theorem tw3113107849394438955:True:=trivial
theorem tw3664487331805154729:True:=trivial
theorem tw1131116134544541387:True:=trivial
theorem tw8712728196159949512:True:=trivial
theorem tw866662445945355810:True:=trivial
theorem tw282552903025547556:True:=trivial
theorem tw11839380154274159118:True:=trivial
theorem tw15811576567478203847:True:=trivial
theorem tw2165501128871309391:True:=trivial
theorem tw8911020606088511727:True:=trivial
theorem tw5378693876611605669:True:=trivial
theorem tw1472204857396396548:True:=trivial
theorem tw882109658586706225:True:=trivial
theorem tw1268259593986019756:True:=trivial
theorem tw10904206868816305142:True:=trivial
theorem tw16351463978682138810:True:=trivial
theorem tw2364367802934831998:True:=trivial
theorem tw9771710130038002055:True:=trivial
theorem tw15601314550308028259:True:=trivial
theorem tw10679686690252066875:True:=trivial
theorem tw6277018566354102131:True:=trivial
theorem tw14609469896769689703:True:=trivial
theorem tw12365183185452341165:True:=trivial
theorem tw16038876416214525218:True:=trivial
theorem tw2242666700263382285:True:=trivial
theorem tw9045089639756947392:True:=trivial
theorem tw9342584823550549837:True:=trivial
theorem tw5932563111146491315:True:=trivial
theorem tw3873729647683719468:True:=trivial
theorem tw9478349542320188321:True:=trivial
theorem tw14140392966441884750:True:=trivial
theorem tw14639030628582159218:True:=trivial
theorem tw9802907670320347263:True:=trivial
theorem tw12367064295531467791:True:=trivial
theorem tw13315381540372122978:True:=trivial
theorem tw14674641698983902983:True:=trivial
theorem tw6864123413064674201:True:=trivial
theorem tw13563936401347325546:True:=trivial
theorem tw12693442580774316143:True:=trivial
theorem tw4926899278232336947:True:=trivial
theorem tw6119870277234665186:True:=trivial
theorem tw9779408281047520070:True:=trivial
theorem tw13300927197681524472:True:=trivial
theorem tw16984998574669010434:True:=trivial
theorem tw24745948233286731:True:=trivial
theorem tw11765021856241816762:True:=trivial
theorem tw12749807960614800728:True:=trivial
theorem tw17024941473641613701:True:=trivial
theorem tw10367877892361123402:True:=trivial
theorem tw18061286060578504602:True:=trivial
theorem tw15006370420774144620:True:=trivial
theorem tw11295436792713968594:True:=trivial
theorem tw12901847047908420727:True:=trivial
theorem tw14696751187743003349:True:=trivial
theorem tw6122707247507118987:True:=trivial
theorem tw537649161087087360:True:=trivial
theorem tw1134618147935148685:True:=trivial
theorem tw3040030039349454488:True:=trivial
theorem tw4261295174875720418:True:=trivial
theorem tw10410879787795056400:True:=trivial
theorem tw5726070181727060219:True:=trivial
theorem tw10665235003916766379:True:=trivial
theorem tw6390745294528853136:True:=trivial
theorem tw12293711875997208986:True:=trivial
theorem tw7154325337621528926:True:=trivial
theorem tw17970601416503601936:True:=trivial
theorem tw12249952628730286122:True:=trivial
theorem tw15871298910545363471:True:=trivial
theorem tw11131139017894626667:True:=trivial
theorem tw3406323889948957014:True:=trivial
theorem tw5326666448276331589:True:=trivial
theorem tw283800746570821906:True:=trivial
theorem tw8257527056892129424:True:=trivial
theorem tw7543696965891956079:True:=trivial
theorem tw3201377506433341316:True:=trivial
theorem tw18305489240268368982:True:=trivial
theorem tw1021458828437222458:True:=trivial
theorem tw1737141533691062943:True:=trivial
theorem tw14570540316704017727:True:=trivial
theorem tw15037222947875657868:True:=trivial
theorem tw6831736845677386144:True:=trivial
theorem tw11851284442456765241:True:=trivial
theorem tw5119228100487319160:True:=trivial
theorem tw3258698282225220291:True:=trivial
theorem tw15783095737028483363:True:=trivial
theorem tw11272360431115433378:True:=trivial
theorem tw5377815141324968687:True:=trivial
theorem tw18127677749588830648:True:=trivial
theorem tw9745383892156638093:True:=trivial
theorem tw1059416500053668109:True:=trivial
theorem tw1077394142803502447:True:=trivial
theorem tw11770256437834124435:True:=trivial
theorem tw14816288406120790079:True:=trivial
theorem tw13624143987387489506:True:=trivial
theorem tw5834521465228123778:True:=trivial
theorem tw8446410344521310637:True:=trivial
theorem tw966865955781532884:True:=trivial
theorem tw2063328090553996597:True:=trivial
theorem tw15107661342640901340:True:=trivial
theorem tw15793827592672132058:True:=trivial
theorem tw8897313951475470765:True:=trivial
theorem tw5016035280190888860:True:=trivial
theorem tw2244844951368459115:True:=trivial
theorem tw10139866750323734441:True:=trivial
theorem tw5204236765933005085:True:=trivial
theorem tw6061230556355950757:True:=trivial
theorem tw3905063104899921719:True:=trivial
theorem tw1088294424547949088:True:=trivial
theorem tw4089356749981490956:True:=trivial
theorem tw15462600107603647132:True:=trivial
theorem tw8710938831698318580:True:=trivial
theorem tw8116170944613148255:True:=trivial
theorem tw11369238766716066785:True:=trivial
theorem tw17492543184564668967:True:=trivial
theorem tw69579177952598707:True:=trivial
theorem tw8294443872277221760:True:=trivial
theorem tw7845801273442411297:True:=trivial
theorem tw15174847658020754464:True:=trivial
theorem tw14260099777979290529:True:=trivial
theorem tw11127684664239452459:True:=trivial
theorem tw1014257516988483941:True:=trivial
theorem tw16980068157574671840:True:=trivial
theorem tw10018910800957553200:True:=trivial
theorem tw7946544368856036735:True:=trivial
theorem tw3846615659391949974:True:=trivial
theorem tw5789451819199143789:True:=trivial
theorem tw9283296251993623018:True:=trivial
theorem tw4447670460276656666:True:=trivial
theorem tw12419042221605260545:True:=trivial
theorem tw10572571962745646641:True:=trivial
theorem tw15603749961723448101:True:=trivial
theorem tw10578742326921015726:True:=trivial
theorem tw16387737324213061444:True:=trivial
theorem tw13772031043101785759:True:=trivial
theorem tw2710612418043816393:True:=trivial
theorem tw2764261138198120079:True:=trivial
theorem tw4026162347487518915:True:=trivial
theorem tw17379226930871255744:True:=trivial
theorem tw16585158429978599331:True:=trivial
theorem tw17014370455804259096:True:=trivial
theorem tw17440463544606546173:True:=trivial
theorem tw11392712122228431095:True:=trivial
theorem tw246874795302524818:True:=trivial
theorem tw12526705723494169032:True:=trivial
theorem tw13331921463534961009:True:=trivial
theorem tw11836807683461266559:True:=trivial
theorem tw5094403910630414448:True:=trivial
theorem tw16350423834730642510:True:=trivial
theorem tw9598787166059583489:True:=trivial
theorem tw18050383441886796951:True:=trivial
theorem tw7993896760541933770:True:=trivial
theorem tw8932536509958305497:True:=trivial
theorem tw5498418387781166214:True:=trivial
theorem tw8888685585918584938:True:=trivial
theorem tw59580408587836482:True:=trivial
theorem tw3326340702713616093:True:=trivial
theorem tw17248538820747367689:True:=trivial
theorem tw14364121023391649478:True:=trivial
theorem tw8883809070380239559:True:=trivial
theorem tw2687814709035156651:True:=trivial
theorem tw17779125865137580003:True:=trivial
theorem tw12627722327297378147:True:=trivial
theorem tw17512621011150562457:True:=trivial
theorem tw14290659787764236301:True:=trivial
theorem tw3895459910022571887:True:=trivial
theorem tw9211355348580777155:True:=trivial
theorem tw15903174344737870044:True:=trivial
theorem tw9256130121130987874:True:=trivial
theorem tw6479253586119296863:True:=trivial
theorem tw14949014592268875531:True:=trivial
theorem tw274002627286569506:True:=trivial
theorem tw2165548780360451347:True:=trivial
theorem tw8391195663223511305:True:=trivial
theorem tw1114529334029488106:True:=trivial
theorem tw13439392482706006833:True:=trivial
theorem tw6172855627539151938:True:=trivial
theorem tw16100423912675825076:True:=trivial
theorem tw12268776276178349056:True:=trivial
theorem tw5353650001130756754:True:=trivial
theorem tw8352633516243658120:True:=trivial
theorem tw2854035070447711041:True:=trivial
theorem tw14689417958596029786:True:=trivial
theorem tw6378340237370235204:True:=trivial
theorem tw9159446170914273937:True:=trivial
theorem tw4044842074024772564:True:=trivial
theorem tw2797528823634428501:True:=trivial
theorem tw8248817727805769104:True:=trivial
theorem tw17056877570469996491:True:=trivial
theorem tw3056407155880376314:True:=trivial
theorem tw6719776382308543190:True:=trivial
theorem tw2440160540813824690:True:=trivial
theorem tw10888757566994568482:True:=trivial
theorem tw8354567293141202275:True:=trivial
theorem tw3514897923990496382:True:=trivial
theorem tw17051533579205307213:True:=trivial
theorem tw3320566229878870399:True:=trivial
theorem tw11298587082991417007:True:=trivial
theorem tw16862451670214688375:True:=trivial
theorem tw17753603620678653331:True:=trivial
theorem tw6852373358338490559:True:=trivial
theorem tw1826179867051157521:True:=trivial
theorem tw2252180981993552698:True:=trivial
theorem tw9922821859143355765:True:=trivial
theorem tw15153043117147143395:True:=trivial
theorem tw5691417418362961359:True:=trivial
theorem tw5027061180008114217:True:=trivial
theorem tw6002211833766105328:True:=trivial
theorem tw239349732626457162:True:=trivial
theorem tw13360671708911622789:True:=trivial
theorem tw11205617672539014710:True:=trivial
theorem tw4539525725025614521:True:=trivial
theorem tw13844511288638033656:True:=trivial
theorem tw18138467013686245424:True:=trivial
theorem tw12239281326335936067:True:=trivial
theorem tw2074474742383119881:True:=trivial
theorem tw9674171378893159163:True:=trivial
theorem tw4802868199624975209:True:=trivial
theorem tw8604919353540967792:True:=trivial
theorem tw933660512276110581:True:=trivial
theorem tw7488230962559622467:True:=trivial
theorem tw8598805851070397642:True:=trivial
theorem tw13182527076455574913:True:=trivial
theorem tw762864591098114323:True:=trivial
theorem tw7861793755519602968:True:=trivial
theorem tw2483470593019472555:True:=trivial
theorem tw14522706548217642447:True:=trivial
theorem tw13670063368934647283:True:=trivial
theorem tw5191341529944076385:True:=trivial
theorem tw11606073670960365847:True:=trivial
theorem tw14723095522331959650:True:=trivial
theorem tw10136006390539358181:True:=trivial
theorem tw11230743517326220246:True:=trivial
theorem tw7067144941349985256:True:=trivial
theorem tw13918986262427367322:True:=trivial
theorem tw5529841201861726245:True:=trivial
theorem tw4923694010237287044:True:=trivial
theorem tw5704828286932305025:True:=trivial
theorem tw7662075667445942996:True:=trivial
theorem tw7370266084198635363:True:=trivial
theorem tw10316780419739668886:True:=trivial
theorem tw4267893065977734962:True:=trivial
theorem tw10742525508343016375:True:=trivial
theorem tw13945603622188503177:True:=trivial
theorem tw8004108929076342816:True:=trivial
theorem tw1033306038098355994:True:=trivial
theorem tw1716359512102610189:True:=trivial
theorem tw10858830239273095082:True:=trivial
theorem tw16265676149585654183:True:=trivial
theorem tw15256907919201820052:True:=trivial
theorem tw13748110044990413774:True:=trivial
theorem tw9048693051864761163:True:=trivial
theorem tw6692549244875652957:True:=trivial
theorem tw17523880798112600411:True:=trivial
theorem tw9859922400205251671:True:=trivial
theorem tw3572781506012012067:True:=trivial
theorem tw13466312381603912889:True:=trivial
theorem tw17206871657064980487:True:=trivial
theorem tw4610095285912782515:True:=trivial
theorem tw16324247830594213446:True:=trivial
theorem tw16701449462541050402:True:=trivial
theorem tw13387840489828389557:True:=trivial
theorem tw9036812502628978168:True:=trivial
theorem tw412565365456929076:True:=trivial
theorem tw7049923985300151963:True:=trivial
theorem tw9311916111225766609:True:=trivial
theorem tw11504124707927178758:True:=trivial
theorem tw1620592512054189320:True:=trivial
theorem tw2456310330539236759:True:=trivial
theorem tw5780886637716907618:True:=trivial
theorem tw15837677181420324961:True:=trivial
theorem tw6555362662841376376:True:=trivial
theorem tw13060238820781095113:True:=trivial
theorem tw15217128738630543312:True:=trivial
theorem tw11087120342421805542:True:=trivial
theorem tw2847430611412322379:True:=trivial
theorem tw16372520872061807101:True:=trivial
theorem tw13190694504033469276:True:=trivial
theorem tw12966759270213811127:True:=trivial
theorem tw4775529078281481016:True:=trivial
theorem tw16853975107050274302:True:=trivial
theorem tw6225821670934493337:True:=trivial
theorem tw11784679345078051912:True:=trivial
theorem tw2490120052689019444:True:=trivial
theorem tw15502854565935298183:True:=trivial
theorem tw330889558400724892:True:=trivial
theorem tw14952342933300113524:True:=trivial
theorem tw16501078349610305179:True:=trivial
theorem tw11515103096100370739:True:=trivial
theorem tw7339528923026100628:True:=trivial
theorem tw18158719498973428734:True:=trivial
theorem tw6161948829336851268:True:=trivial
theorem tw551553939825552336:True:=trivial
theorem tw9378671036444491188:True:=trivial
theorem tw4026530399035151658:True:=trivial
theorem tw2903419488097106071:True:=trivial
theorem tw18015147321570822778:True:=trivial
theorem tw9955972387280114901:True:=trivial
theorem tw10730521669927180262:True:=trivial
theorem tw7121600863024754974:True:=trivial
theorem tw7698736871275262683:True:=trivial
theorem tw18409587984731484554:True:=trivial
theorem tw14601349892595425809:True:=trivial
theorem tw5775066186124413193:True:=trivial
theorem tw3050313157638565346:True:=trivial
theorem tw6194921048012117196:True:=trivial
theorem tw18347330114582018161:True:=trivial
theorem tw4212999878661359444:True:=trivial
theorem tw14499191812270313968:True:=trivial
theorem tw1096553873374058553:True:=trivial
theorem tw7835753324458295230:True:=trivial
theorem tw1258339720357918022:True:=trivial
theorem tw7654736311733865990:True:=trivial
theorem tw12419815106124945084:True:=trivial
theorem tw8883304082727963717:True:=trivial
theorem tw8473231799035715336:True:=trivial
theorem tw15331905247248505655:True:=trivial
theorem tw4865723655064773391:True:=trivial
theorem tw1379542136162688857:True:=trivial
theorem tw7739660165227270908:True:=trivial
theorem tw9262895383036294185:True:=trivial
theorem tw13669288529829541142:True:=trivial
theorem tw7849576247447202983:True:=trivial
theorem tw3219718452442609805:True:=trivial
theorem tw10608807211328906189:True:=trivial
theorem tw14278214191747070609:True:=trivial
theorem tw2821039115427881023:True:=trivial
theorem tw4426383103181558775:True:=trivial
theorem tw8074518209718470194:True:=trivial
theorem tw9081162070876734849:True:=trivial
theorem tw944903812097186073:True:=trivial
theorem tw17638703444134116285:True:=trivial
theorem tw17606522200150632866:True:=trivial
theorem tw489705536577068129:True:=trivial
theorem tw2161925809939611285:True:=trivial
theorem tw3334296976497853245:True:=trivial
theorem tw7534062359868931530:True:=trivial
theorem tw4501353065983993701:True:=trivial
theorem tw5383783689126208522:True:=trivial
theorem tw9832683722665589271:True:=trivial
theorem tw10436861876314247346:True:=trivial
theorem tw4918949981731421868:True:=trivial
theorem tw5427442930632312678:True:=trivial
theorem tw11516564639674243091:True:=trivial
theorem tw12224641202527915042:True:=trivial
theorem tw12127870979380725428:True:=trivial
theorem tw1271440862833273293:True:=trivial
theorem tw5421858541736484686:True:=trivial
theorem tw16933758732597157555:True:=trivial
theorem tw13800220033915501589:True:=trivial
theorem tw3281753052280834534:True:=trivial
theorem tw16524885534699477933:True:=trivial
theorem tw18098796947066647423:True:=trivial
theorem tw8560150977288514739:True:=trivial
theorem tw17877457270742503888:True:=trivial
theorem tw7686155053927692519:True:=trivial
theorem tw17543692718118968508:True:=trivial
theorem tw16391323225649457891:True:=trivial
theorem tw10197365465062337340:True:=trivial
theorem tw7396813501205984095:True:=trivial
theorem tw13237282062760116008:True:=trivial
theorem tw617865382575495038:True:=trivial
theorem tw11135958470435261283:True:=trivial
theorem tw12696506351951492351:True:=trivial
theorem tw14494260925935059171:True:=trivial
theorem tw14915878619516355232:True:=trivial
theorem tw14630910277276594295:True:=trivial
theorem tw8956239227248389528:True:=trivial
theorem tw4428541016214262855:True:=trivial
theorem tw1058074241764537386:True:=trivial
theorem tw15673705597066300626:True:=trivial
theorem tw11067311904187049499:True:=trivial
theorem tw8784273895243972829:True:=trivial
theorem tw14024872751880614527:True:=trivial
theorem tw7670895389082915032:True:=trivial
theorem tw1394762798098521677:True:=trivial
theorem tw7506000009230385897:True:=trivial
theorem tw9550119299872896225:True:=trivial
theorem tw8704490174771146958:True:=trivial
theorem tw1346683535329822626:True:=trivial
theorem tw8232217128142409780:True:=trivial
theorem tw612724636884984559:True:=trivial
theorem tw10062213512985976250:True:=trivial
theorem tw6959788449748837470:True:=trivial
theorem tw6173151653382077054:True:=trivial
theorem tw10540994830868950421:True:=trivial
theorem tw15770612699467687015:True:=trivial
theorem tw8915785561739348076:True:=trivial
theorem tw13817104550917891392:True:=trivial
theorem tw14661054994896030650:True:=trivial
theorem tw13506302209953791339:True:=trivial
theorem tw4918961498734219054:True:=trivial
theorem tw10632819044967617134:True:=trivial
theorem tw5217649196009907349:True:=trivial
theorem tw14750908233178329264:True:=trivial
theorem tw5946087358838170361:True:=trivial
theorem tw4624872650141986274:True:=trivial
theorem tw14305143319226141593:True:=trivial
theorem tw17424478839877098211:True:=trivial
theorem tw13697486473785639841:True:=trivial
theorem tw10121377161835686316:True:=trivial
theorem tw6727808831136303292:True:=trivial
theorem tw1962596969435379568:True:=trivial
theorem tw11760526429363170737:True:=trivial
theorem tw14734239008814398934:True:=trivial
theorem tw14171472328443043444:True:=trivial
theorem tw7690187456168028742:True:=trivial
theorem tw3869751077358388753:True:=trivial
theorem tw5497473200097017327:True:=trivial
theorem tw17454223582377205346:True:=trivial
theorem tw15102994231935478523:True:=trivial
theorem tw8389989213603745863:True:=trivial
theorem tw6646199561437503171:True:=trivial
theorem tw15816004500566925825:True:=trivial
theorem tw16402452722222435313:True:=trivial
theorem tw10789622535286032697:True:=trivial
theorem tw7334044608755558108:True:=trivial
theorem tw4938687530881592902:True:=trivial
theorem tw9254563399798081222:True:=trivial
theorem tw17663834726748397133:True:=trivial
theorem tw8167142331431546910:True:=trivial
theorem tw5371291945766603130:True:=trivial
theorem tw745783253404374660:True:=trivial
theorem tw12939002289586669696:True:=trivial
theorem tw5383892074499476170:True:=trivial
theorem tw15205623602074881057:True:=trivial
theorem tw9146916493480370621:True:=trivial
theorem tw15158237536499078330:True:=trivial
theorem tw14141980267878352532:True:=trivial
theorem tw4068246227322642317:True:=trivial
theorem tw6742885887784769336:True:=trivial
theorem tw17256154683780615258:True:=trivial
theorem tw5211484579207417350:True:=trivial
theorem tw8027400620706873971:True:=trivial
theorem tw8186416732526952258:True:=trivial
theorem tw16600965795151865934:True:=trivial
theorem tw8136025322671364015:True:=trivial
theorem tw1488235511063747712:True:=trivial
theorem tw18391980991622649749:True:=trivial
theorem tw16908566989216811714:True:=trivial
theorem tw18434240720315052848:True:=trivial
theorem tw9556438995163216398:True:=trivial
theorem tw7400935726590705628:True:=trivial
theorem tw16211425922563020432:True:=trivial
theorem tw9933542773194459387:True:=trivial
theorem tw8304705536514645034:True:=trivial
theorem tw14998356775502463716:True:=trivial
theorem tw12487603006982396172:True:=trivial
theorem tw17981603609529422124:True:=trivial
theorem tw18152793395773918140:True:=trivial
theorem tw16357950044083447368:True:=trivial
theorem tw513589106807206758:True:=trivial
theorem tw8468860561323590274:True:=trivial
theorem tw6545738647378860469:True:=trivial
theorem tw2106697822509723433:True:=trivial
theorem tw4332669701200525475:True:=trivial
theorem tw8868264492359988864:True:=trivial
theorem tw1813039608927049270:True:=trivial
theorem tw16472792552412695786:True:=trivial
theorem tw8624715171973094907:True:=trivial
theorem tw4311763148414175236:True:=trivial
theorem tw7983591243963184027:True:=trivial
theorem tw3941062587425825168:True:=trivial
theorem tw17382561333692172764:True:=trivial
theorem tw15339452961966826918:True:=trivial
theorem tw2129162779255191678:True:=trivial
theorem tw644137320983503246:True:=trivial
theorem tw15907029519720989095:True:=trivial
theorem tw8692605778022615677:True:=trivial
theorem tw6373714969737148737:True:=trivial
theorem tw2107031350822301166:True:=trivial
theorem tw14194130364522930544:True:=trivial
theorem tw8721711528511044376:True:=trivial
theorem tw7593037279730466072:True:=trivial
theorem tw8434462879479715285:True:=trivial
theorem tw5475608391532142224:True:=trivial
theorem tw11384752974074596510:True:=trivial
theorem tw9496974257285458097:True:=trivial
theorem tw4184657329161063113:True:=trivial
theorem tw15815225344243589660:True:=trivial
theorem tw15690961462185848056:True:=trivial
theorem tw4085085521734445468:True:=trivial
theorem tw6896942394572739409:True:=trivial
theorem tw4509722928127218809:True:=trivial
theorem tw211875811383172512:True:=trivial
theorem tw169108059856016516:True:=trivial
theorem tw8091605093954784094:True:=trivial
theorem tw1327498006284892281:True:=trivial
theorem tw4949093134871837705:True:=trivial
theorem tw3778710158957558141:True:=trivial
theorem tw6350764063962138437:True:=trivial
theorem tw18187966720588493263:True:=trivial
theorem tw2052048693115794393:True:=trivial
theorem tw15929491797275849835:True:=trivial
theorem tw10097961521042822879:True:=trivial
theorem tw14940279552151059377:True:=trivial
theorem tw14260413102602555817:True:=trivial
theorem tw3444144805405759795:True:=trivial
theorem tw3930631524604169772:True:=trivial
theorem tw4874525553328090975:True:=trivial
theorem tw5729056497303523640:True:=trivial
theorem tw4979336573424115136:True:=trivial
theorem tw6066108129204666165:True:=trivial
theorem tw1268986345317801627:True:=trivial
theorem tw3382340685868638559:True:=trivial
theorem tw9254199226820092773:True:=trivial
theorem tw7078880217497753854:True:=trivial
theorem tw8887412419399157952:True:=trivial
theorem tw16965203124569902160:True:=trivial
theorem tw11423391280384981812:True:=trivial
theorem tw6027110360665189508:True:=trivial
theorem tw8933628092621944510:True:=trivial
theorem tw18077919358213743220:True:=trivial
theorem tw739858012407030826:True:=trivial
theorem tw3193523783555556450:True:=trivial
theorem tw2104500234038150573:True:=trivial
theorem tw16479139400640516393:True:=trivial
theorem tw16727024113890704479:True:=trivial
theorem tw7844045273991600552:True:=trivial
theorem tw14749638314029418532:True:=trivial
theorem tw16396168851686822261:True:=trivial
theorem tw18251518110712463214:True:=trivial
theorem tw16101039042853385948:True:=trivial
theorem tw16956107320671259687:True:=trivial
theorem tw8559352689092242403:True:=trivial
theorem tw3194878592374346485:True:=trivial
theorem tw5653011740435028033:True:=trivial
theorem tw15516469635851234095:True:=trivial
theorem tw9531797365653613742:True:=trivial
theorem tw4036036337973411293:True:=trivial
theorem tw16802887506295491202:True:=trivial
theorem tw5725465611435216378:True:=trivial
theorem tw15305655815742757684:True:=trivial
theorem tw16227140396679044952:True:=trivial
theorem tw1420934495730981486:True:=trivial
theorem tw16539556501945515222:True:=trivial
theorem tw16107962524879666580:True:=trivial
theorem tw3429368325464728903:True:=trivial
theorem tw9037043429299654015:True:=trivial
theorem tw941401216712864297:True:=trivial
theorem tw17811627233884978400:True:=trivial
theorem tw2968392000997548023:True:=trivial
theorem tw9026303332920900425:True:=trivial
theorem tw4683718942782962923:True:=trivial
theorem tw6286239622297086162:True:=trivial
theorem tw4928426240423714477:True:=trivial
theorem tw15179379936816860590:True:=trivial
theorem tw15582936081055298747:True:=trivial
theorem tw15650280425247468195:True:=trivial
theorem tw4806858311247501482:True:=trivial
theorem tw16869332183378918513:True:=trivial
theorem tw3506549860032863437:True:=trivial
theorem tw7096590522614534285:True:=trivial
theorem tw15899361447249876291:True:=trivial
theorem tw4930574793014884541:True:=trivial
theorem tw14112279448427401161:True:=trivial
theorem tw9259412361252550892:True:=trivial
theorem tw5957743290148033095:True:=trivial
theorem tw10988402347488876786:True:=trivial
theorem tw1985662536847222141:True:=trivial
theorem tw18075288309313888774:True:=trivial
theorem tw3645431884193629959:True:=trivial
theorem tw774424767959002662:True:=trivial
theorem tw13403319738742948699:True:=trivial
theorem tw18059119242199965263:True:=trivial
theorem tw2961595070798079227:True:=trivial
theorem tw344832967357864725:True:=trivial
theorem tw1660403679364332815:True:=trivial
theorem tw516716592459428009:True:=trivial
theorem tw17834951897796209378:True:=trivial
theorem tw8189554375156952098:True:=trivial
theorem tw396519461463301144:True:=trivial
theorem tw6308959069904357092:True:=trivial
theorem tw1375732204423677993:True:=trivial
theorem tw12917149648757750113:True:=trivial
theorem tw7186954751788073942:True:=trivial
theorem tw18148517361371173513:True:=trivial
theorem tw5430382879114159410:True:=trivial
theorem tw3472036301274911476:True:=trivial
theorem tw11729478533527643100:True:=trivial
theorem tw12872707452118415513:True:=trivial
theorem tw4632554591228982786:True:=trivial
theorem tw4302164609331052456:True:=trivial
theorem tw12838121296140480439:True:=trivial
theorem tw13458774944300502198:True:=trivial
theorem tw2443647770654456502:True:=trivial
theorem tw4358588838675741850:True:=trivial
theorem tw157974735062063736:True:=trivial
theorem tw7952738743420856527:True:=trivial
theorem tw14684958957409024231:True:=trivial
theorem tw18363785839744358444:True:=trivial
theorem tw4270536760853642978:True:=trivial
theorem tw3981517800020352653:True:=trivial
theorem tw18206390658054644202:True:=trivial
theorem tw4939912212996765514:True:=trivial
theorem tw14461038344251278400:True:=trivial
theorem tw5801034833711820240:True:=trivial
theorem tw3102847909898857460:True:=trivial
theorem tw10648724822886599243:True:=trivial
theorem tw18077754675126812253:True:=trivial
theorem tw4337422169801217722:True:=trivial
theorem tw219096690266504547:True:=trivial
theorem tw11935630035745771922:True:=trivial
theorem tw13874575174243002598:True:=trivial
theorem tw3995195117579520007:True:=trivial
theorem tw7994817327402451921:True:=trivial
theorem tw5810635347850117628:True:=trivial
theorem tw13050527804839730776:True:=trivial
theorem tw3371120674940113883:True:=trivial
theorem tw13701658190912115485:True:=trivial
theorem tw16138761708906636303:True:=trivial
theorem tw13284927660817161738:True:=trivial
theorem tw11572809014621756983:True:=trivial
theorem tw11778995572208203115:True:=trivial
theorem tw3763236397452603861:True:=trivial
theorem tw15530447901289099533:True:=trivial
theorem tw3619249241157864313:True:=trivial
theorem tw11564580900613251469:True:=trivial
theorem tw7460177615792596723:True:=trivial
theorem tw7540488488321112264:True:=trivial
theorem tw26895047805245402:True:=trivial
theorem tw18049679724118889280:True:=trivial
theorem tw15315375812374870362:True:=trivial
theorem tw5488173781367762447:True:=trivial
theorem tw16184173475764210379:True:=trivial
theorem tw8320054790193573119:True:=trivial
theorem tw15693506308506572788:True:=trivial
theorem tw4042549389768607074:True:=trivial
theorem tw9056055631290123018:True:=trivial
theorem tw15658602634449774995:True:=trivial
theorem tw11140075565460494742:True:=trivial
theorem tw17905348854602704712:True:=trivial
theorem tw10790866828804642744:True:=trivial
theorem tw13142115217889057863:True:=trivial
theorem tw18198586329084502739:True:=trivial
theorem tw3247894503332081493:True:=trivial
theorem tw7462291670854095613:True:=trivial
theorem tw592145353473950948:True:=trivial
theorem tw14979858465202265600:True:=trivial
theorem tw6310476576917854258:True:=trivial
theorem tw8460511396581969895:True:=trivial
theorem tw3669619264751820945:True:=trivial
theorem tw14869902444879117856:True:=trivial
theorem tw13678986468875199615:True:=trivial
theorem tw11990680582376457973:True:=trivial
theorem tw9742420318796776252:True:=trivial
theorem tw8335407633611653142:True:=trivial
theorem tw11332980756659712571:True:=trivial
theorem tw5077810006952739428:True:=trivial
theorem tw8742935010507818104:True:=trivial
theorem tw961887491408057313:True:=trivial
theorem tw640037774594116992:True:=trivial
theorem tw10549059371901872351:True:=trivial
theorem tw14005809947477663806:True:=trivial
theorem tw13260195073965858645:True:=trivial
theorem tw13330783485787222260:True:=trivial
theorem tw15687855491617526471:True:=trivial
theorem tw8925486447652695264:True:=trivial
theorem tw7160022319357528402:True:=trivial
theorem tw11668918819345830442:True:=trivial
theorem tw14675993498629232141:True:=trivial
theorem tw3524206300144201001:True:=trivial
theorem tw18387247225501830840:True:=trivial
theorem tw14562785216151956979:True:=trivial
theorem tw15892934010429369075:True:=trivial
theorem tw12616359843595663488:True:=trivial
theorem tw16415081350138173006:True:=trivial
theorem tw3111911013829798496:True:=trivial
theorem tw9240502220215599233:True:=trivial
theorem tw5213526395334075641:True:=trivial
theorem tw15753210790757284952:True:=trivial
theorem tw9749497501988612028:True:=trivial
theorem tw5656811219333847253:True:=trivial
theorem tw14395924415146879660:True:=trivial
theorem tw2810871320960860202:True:=trivial
theorem tw8316235940176483469:True:=trivial
theorem tw16237179758811604136:True:=trivial
theorem tw2918271452300019573:True:=trivial
theorem tw2895351663566835954:True:=trivial
theorem tw2389917075174220977:True:=trivial
theorem tw5652508659760437024:True:=trivial
theorem tw14777415507328460323:True:=trivial
theorem tw11344890974007546625:True:=trivial
theorem tw3388427331092280258:True:=trivial
theorem tw3740480609071011336:True:=trivial
theorem tw9510026951540968635:True:=trivial
theorem tw17238489491474677793:True:=trivial
theorem tw6215864748379594011:True:=trivial
theorem tw3518167370796350762:True:=trivial
theorem tw17595539948261126650:True:=trivial
theorem tw5563146954606134823:True:=trivial
theorem tw14206156565451328266:True:=trivial
theorem tw6982381336405501840:True:=trivial
theorem tw16264315968304248332:True:=trivial
theorem tw11874593183904102952:True:=trivial
theorem tw10924344538715808845:True:=trivial
theorem tw5101067445412296593:True:=trivial
theorem tw15298360062578714199:True:=trivial
theorem tw7234622372444233621:True:=trivial
theorem tw12269985361911971040:True:=trivial
theorem tw5233131469080835280:True:=trivial
theorem tw10723930957429668114:True:=trivial
theorem tw15750017216306527979:True:=trivial
theorem tw11855621151918772870:True:=trivial
theorem tw3221729655806623695:True:=trivial
theorem tw7327076432060419762:True:=trivial
theorem tw11615912250444970353:True:=trivial
theorem tw8457713776873265231:True:=trivial
theorem tw13276680880042546332:True:=trivial
theorem tw16031610982645219311:True:=trivial
theorem tw15231371248072774453:True:=trivial
theorem tw14847834594342099763:True:=trivial
theorem tw13317999358732800799:True:=trivial
theorem tw94559334001775468:True:=trivial
theorem tw13246051417141651280:True:=trivial
theorem tw15264287806895717263:True:=trivial
theorem tw3942087536144043694:True:=trivial
theorem tw3382907420970119740:True:=trivial
theorem tw12033152473689740927:True:=trivial
theorem tw7383129431886640568:True:=trivial
theorem tw916574656478871912:True:=trivial
theorem tw17045818943711452508:True:=trivial
theorem tw8366093527506371949:True:=trivial
theorem tw11599484877869228064:True:=trivial
theorem tw3982764435818277645:True:=trivial
theorem tw13196607207831331845:True:=trivial
theorem tw644540646442008793:True:=trivial
theorem tw17465883766131711851:True:=trivial
theorem tw680480694409927110:True:=trivial
theorem tw14279852019905696370:True:=trivial
theorem tw18333090295880074045:True:=trivial
theorem tw15152747475650065254:True:=trivial
theorem tw2583825693770452519:True:=trivial
theorem tw2977406701040049413:True:=trivial
theorem tw17414001158740737393:True:=trivial
theorem tw3772832591762757666:True:=trivial
theorem tw536315183380537844:True:=trivial
theorem tw4106893072513677661:True:=trivial
theorem tw6030632819682362580:True:=trivial
theorem tw3024654248628421614:True:=trivial
theorem tw5368027922659548460:True:=trivial
theorem tw10361374805759801967:True:=trivial
theorem tw9471606414599304660:True:=trivial
theorem tw9543766128438123712:True:=trivial
theorem tw12250972742799349713:True:=trivial
theorem tw3496433836905729407:True:=trivial
theorem tw13906168358144351751:True:=trivial
theorem tw8956742449203534782:True:=trivial
theorem tw12208059595830375301:True:=trivial
theorem tw11304051456970035364:True:=trivial
theorem tw13893105100957150550:True:=trivial
theorem tw6198299291911011011:True:=trivial
theorem tw10387393339196622709:True:=trivial
theorem tw1364212425921017465:True:=trivial
theorem tw8141862242046077623:True:=trivial
theorem tw8420137011113987575:True:=trivial
theorem tw12234248755271818161:True:=trivial
theorem tw3584054608543210541:True:=trivial
theorem tw6703930180215635301:True:=trivial
theorem tw12468871165087719977:True:=trivial
theorem tw1883560369337641763:True:=trivial
theorem tw10597122993359903143:True:=trivial
theorem tw9231479519757875725:True:=trivial
theorem tw8621528927897798814:True:=trivial
theorem tw3978778291215290901:True:=trivial
theorem tw14280795577071019241:True:=trivial
theorem tw14405408782020089284:True:=trivial
theorem tw13450422639646953252:True:=trivial
theorem tw6200406894621912352:True:=trivial
theorem tw3106080300601753083:True:=trivial
theorem tw11499063666435051503:True:=trivial
theorem tw660688076528564634:True:=trivial
theorem tw2588257514115907347:True:=trivial
theorem tw4925417955354132977:True:=trivial
theorem tw11093049206356289237:True:=trivial
theorem tw1319561660322321011:True:=trivial
theorem tw12958890882534415817:True:=trivial
theorem tw14708341899070305667:True:=trivial
theorem tw845730448816763285:True:=trivial
theorem tw7600889636088949779:True:=trivial
theorem tw2356639476888012744:True:=trivial
theorem tw6443956550856388795:True:=trivial
theorem tw14898199784610307657:True:=trivial
theorem tw2008805676680645789:True:=trivial
theorem tw9035020256211771015:True:=trivial
theorem tw1727708894898578400:True:=trivial
theorem tw13686983132405606751:True:=trivial
theorem tw14910617437770753205:True:=trivial
theorem tw17838654531797478104:True:=trivial
theorem tw724945106444225692:True:=trivial
theorem tw11584162592564362010:True:=trivial
theorem tw1910192376913287777:True:=trivial
theorem tw6633225434761394973:True:=trivial
theorem tw2273185430189504268:True:=trivial
theorem tw6843316544333663157:True:=trivial
theorem tw8928544116516950833:True:=trivial
theorem tw7737570357390674810:True:=trivial
theorem tw2735373205220856035:True:=trivial
theorem tw10783459486126147838:True:=trivial
theorem tw3693035561048344961:True:=trivial
theorem tw7417334264412295281:True:=trivial
theorem tw7594761945877848204:True:=trivial
theorem tw15743819551751980064:True:=trivial
theorem tw14763574288224315366:True:=trivial
end MP.whole
set_option tactic.hygienic false
set_option backward.eqns.nonrecursive false
open _root_.PySem.Str renaming ofString → CW
open _root_.Nat renaming le_trans → CX
open _root_.List renaming mem_cons_self → CY
open _root_.List renaming mem_cons_of_mem → CZ
open _root_.List renaming getElem?_eq_getElem → C0
open _root_.List renaming length_append → C1
open _root_.List renaming length_map → C4
open _root_.Nat renaming le_add_right → C9
open _root_.Nat renaming add_le_add_left → Da
open _root_.Nat renaming add_le_add_right → Db
open _root_.Nat renaming lt_of_le_of_lt → Dc
open _root_.Nat renaming lt_of_lt_of_le → Dd
open _root_.List renaming map_append → De
open _root_.List renaming length_cons → Df
open _root_.Nat renaming add_assoc → Dh
open _root_.Int renaming toNat_natCast → Di
open _root_.Int renaming natCast_nonneg → Dj
noncomputable section
set_option maxHeartbeats 4000000
namespace MP
theorem byC{p:Prop}(h:¬p→False):p:=Classical.byContradiction h

inductive V where
 | none|bool (b:Bool)|int (i:Int)|str (s:Str)|tup (vs:List V)|ref (l:Nat)

noncomputable abbrev TK:=Str × List Int × Int × Int

inductive AObj where
 | list (xs:List V)
 | dictS (kvs:List (Str × V))
 | dictI (kvs:List (Int × V))
 | dictT (kvs:List (TK × V))
 | inst (C:Addr) (fs:List (Str × V))
 | opq
 | frz (o:Obj) (xs:List V)
noncomputable abbrev Hp:=List AObj

inductive Out (α:Type) where
 | ok (a:α) (H:Hp)
 | exc (H:Hp)
 | bad
noncomputable def Out.bind{α β:Type}(o:Out α) (k:α→Hp→Out β):Out β:=match o with
 | .ok a H=>k a H
 | .exc H=>.exc H
 | .bad=>.bad
noncomputable abbrev Fm:=List (Str × V)
noncomputable abbrev FE:=Fm→Hp→Out V
inductive Fl where
 | next|ret (v:V)|cont|brk
inductive OutS where
 | ok (f:Fl) (m:Fm) (H:Hp)
 | exc (m:Fm) (H:Hp)
 | bad
noncomputable def Out.bindS{α:Type}(m:Fm) (o:Out α) (k:α→Hp→OutS):OutS:=match o with
 | .ok a H=>k a H
 | .exc H=>.exc m H
 | .bad=>.bad
noncomputable def OutS.bind(o:OutS) (k:Fl→Fm→Hp→OutS):OutS:=match o with
 | .ok a m H=>k a m H
 | .exc m H=>.exc m H
 | .bad=>.bad
noncomputable abbrev FS:=Fm→Hp→OutS

noncomputable abbrev Rho:=List (Addr × Addr)
noncomputable def bG(ρ:Rho) (b:Addr):Prop:=∃ p∈ρ,b=p.1∨b=p.2

mutual
inductive RepV (ρ:Rho) (h:Heap):V→Value→Prop
 | none:RepV ρ h .none .none
 | bool (b):RepV ρ h (.bool b) (.bool b)
 | int (i t):RepV ρ h (.int i) (.int i t)
 | str (x t):RepV ρ h (.str x) (.str x t)
 | tup {vs a o items n}:¬bG ρ a→h.get? a=some o→o.cls=.type "tuple"→o.data=.seq items n→RepVs ρ h vs items.toList→RepV ρ h (.tup vs) (.ref a)
 | ref {l a d}:ρ[l]? = some (a,d)→RepV ρ h (.ref l) (.ref a)
inductive RepVs (ρ:Rho) (h:Heap):List V→List Value→Prop
 | nil:RepVs ρ h [] []
 | cons {v x vs xs}:RepV ρ h v x→RepVs ρ h vs xs→RepVs ρ h (v::vs) (x::xs)
end

noncomputable def dA(l:List Env) (b:Addr):Prop:=∃ env∈l,env.frame=some b

noncomputable def bt(W X:Addr→Prop) (h h':Heap):Prop:=
 h.objs.size≤h'.objs.size∧∀ b o,h.get? b=some o→¬W b→∃ sl,h'.get? b=some { o with slots:=sl }∧(¬X b→sl=o.slots)

theorem iY{n:Nat}(h:n≤1000000):n≤sizeLine:=by rw[sizeLine_eq];exact CX h (by decide)
theorem bt.refl(W X:Addr→Prop) (h:Heap):bt W X h h:=⟨Nat.le_refl _,fun _ o e _=>⟨o.slots,e,fun _=>rfl⟩⟩
theorem bt.exact{W X:Addr→Prop}{h h':Heap}(k:bt W X h h') {b:Addr}{o:Obj}(e:h.get? b=some o) (hw:¬W b) (hx:¬X b):h'.get? b=some o:=by
 refine byC fun kq=>?_
 obtain⟨sl,e',q⟩:=k.2 b o e hw
 refine kq ?_;try clear kq
 rw[q hx]at e'
 exact e'
theorem bt.trans{W W' W'' X:Addr→Prop}{h₁ h₂ h₃:Heap}(x:bt W X h₁ h₂) (y:bt W' X h₂ h₃) (hw:∀ b,b < h₁.objs.size→W' b→W'' b) (hw':∀ b,W b→W'' b):bt W'' X h₁ h₃:=by
 refine⟨CX x.1 y.1,fun b o e n=>?_⟩
 refine byC fun kq=>?_
 obtain⟨sl,e1,q1⟩:=x.2 b o e (fun z=>n (hw' b z))
 obtain⟨sl2,e2,q2⟩:=y.2 b _ e1 (fun z=>n (hw b (Heap.lt_size e) z))
 refine kq ?_;try clear kq
 exact⟨sl2,e2,fun z=>(q2 z).trans (q1 z)⟩
theorem bt.mono{W W' X:Addr→Prop}{h₁ h₂:Heap}(x:bt W X h₁ h₂) (hw:∀ b,W b→W' b):bt W' X h₁ h₂:=
 ⟨x.1,fun b o e n=>x.2 b o e fun z=>n (hw b z)⟩

noncomputable def NT(h:Heap) (b:Addr):Prop:=∀ o,h.get? b=some o→o.cls=.type "tuple"→∀ xs n,o.data=.seq xs n→False

theorem RepVs.ind{ρ:Rho}{h:Heap}{P:List V→List Value→Prop}(n:P [] []) (c:∀ {v x vs xs},RepV ρ h v x→RepVs ρ h vs xs→P vs xs→P (v::vs) (x::xs)) {vs xs} (r:RepVs ρ h vs xs):P vs xs:=
 RepVs.rec (motive_1:=fun _ _ _=>True) (motive_2:=fun vs xs _=>P vs xs) trivial (fun _=>trivial) (fun _ _=>trivial) (fun _ _=>trivial) (fun _ _ _ _ _ _=>trivial) (fun _=>trivial) n (fun r rs _ ih=>c r rs ih) r
theorem RepV.keep{ρ ρ':Rho}{h h':Heap}{W X:Addr→Prop}(k:bt W X h h') (nt:∀ b,W b→¬bG ρ b→NT h b) (pre:∀ (l:Nat) (p:Addr × Addr),ρ[l]? = some p→ρ'[l]? = some p)
  (nm:∀ b,b < h.objs.size→¬bG ρ b→¬bG ρ' b) {v x} (r:RepV ρ h v x):RepV ρ' h' v x:=by
 refine RepV.rec (motive_1:=fun v x _=>RepV ρ' h' v x) (motive_2:=fun vs xs _=>RepVs ρ' h' vs xs) .none .bool .int .str ?_ (fun q=>.ref (pre _ _ q)) .nil (fun _ _ r rs=>.cons r rs) r
 intro _ _ _ _ _ m e c d _ ih
 refine byC fun kq=>?_
 obtain⟨sl,e',_⟩:=k.2 _ _ e fun w=>nt _ w m _ e c _ _ d
 refine kq ?_;try clear kq
 exact .tup (nm _ (Heap.lt_size e) m) e' c d ih
theorem RepVs.keep{ρ ρ':Rho}{h h':Heap}{W X:Addr→Prop}(k:bt W X h h') (nt:∀ b,W b→¬bG ρ b→NT h b) (pre:∀ (l:Nat) (p:Addr × Addr),ρ[l]? = some p→ρ'[l]? = some p)
  (nm:∀ b,b < h.objs.size→¬bG ρ b→¬bG ρ' b) {vs xs} (r:RepVs ρ h vs xs):RepVs ρ' h' vs xs:=
 r.ind .nil fun r _ ih=>.cons (r.keep k nt pre nm) ih
theorem RepVs.invN{ρ h xs} (r:RepVs ρ h [] xs):xs=[]:=by cases r;rfl
theorem RepVs.inv{ρ h v vs xs} (r:RepVs ρ h (v::vs) xs):∃ y ys,xs=y::ys∧RepV ρ h v y∧RepVs ρ h vs ys:=by
 cases r with
 | cons a b=>exact⟨_,_,rfl,a,b⟩
theorem RepVs.length{ρ h vs xs} (r:RepVs ρ h vs xs):vs.length=xs.length:=r.ind (P:=fun vs xs=>vs.length=xs.length) rfl fun _ _ ih=>congrArg (· + 1) ih
theorem RepVs.append{ρ h vs xs ws ys} (r:RepVs ρ h vs xs) (q:RepVs ρ h ws ys):RepVs ρ h (vs++ws) (xs++ys):=
 r.ind (P:=fun vs xs=>RepVs ρ h (vs++ws) (xs++ys)) q fun r _ ih=>.cons r ih
theorem RepVs.get{ρ h} {vs:List V}{xs:List Value}(r:RepVs ρ h vs xs):∀ {i:Nat}{v:V},vs[i]? = some v→∃ x:Value,xs[i]? = some x∧RepV ρ h v x:=by
 refine r.ind (P:=fun vs xs=>∀ {i:Nat}{v:V},vs[i]? = some v→∃ x:Value,xs[i]? = some x∧RepV ρ h v x) (fun e=>by cases e) ?_
 intro v x vs xs r rs ih i w e
 cases i with
 | zero=>cases e;exact⟨_,rfl,r⟩
 | succ i=>exact ih (i:=i) e
theorem RepVs.take{ρ h vs xs} (r:RepVs ρ h vs xs):∀ n,RepVs ρ h (vs.take n) (xs.take n):=by
 refine r.ind (P:=fun vs xs=>∀ n,RepVs ρ h (vs.take n) (xs.take n)) (fun n=>by cases n<;>exact .nil) fun r _ ih n=>?_
 cases n with
 | zero=>exact .nil
 | succ n=>exact .cons r (ih n)
theorem RepVs.drop{ρ h vs xs} (r:RepVs ρ h vs xs):∀ n,RepVs ρ h (vs.drop n) (xs.drop n):=by
 refine r.ind (P:=fun vs xs=>∀ n,RepVs ρ h (vs.drop n) (xs.drop n)) (fun n=>by cases n<;>exact .nil) fun r rs ih n=>?_
 cases n with
 | zero=>exact .cons r rs
 | succ n=>exact ih n
theorem RepVs.reverse{ρ h vs xs} (r:RepVs ρ h vs xs):RepVs ρ h vs.reverse xs.reverse:=
 r.ind (P:=fun vs xs=>RepVs ρ h vs.reverse xs.reverse) .nil fun r _ ih=>by rw[List.reverse_cons,List.reverse_cons];exact ih.append (.cons r .nil)
theorem RepVs.set{ρ h vs xs} (r:RepVs ρ h vs xs) {v x} (q:RepV ρ h v x):∀ i,RepVs ρ h (vs.set i v) (xs.set i x):=by
 refine r.ind (P:=fun vs xs=>∀ i,RepVs ρ h (vs.set i v) (xs.set i x)) (fun _=>.nil) fun r rs ih i=>?_
 cases i with
 | zero=>exact .cons q rs
 | succ i=>exact .cons r (ih i)
theorem Cr{n:Nat}(h:n < 1000000000):(n:Int) < 2 ^ 63:=Int.lt_trans (Int.ofNat_lt.mpr h) (by decide)
@[elab_as_elim] theorem fP{ρ h i x} {G:Value→Prop}(r:RepV ρ h (.int i) x) (k:∀ t,G (.int i t)):G x:=by cases r;exact k _
@[elab_as_elim] theorem uX{ρ h i x} {G:Value→Prop}(r:RepV ρ h (.str i) x) (k:∀ t,G (.str i t)):G x:=by cases r;exact k _
@[elab_as_elim] theorem CA{ρ h i x} {G:Value→Prop}(r:RepV ρ h (.bool i) x) (k:G (.bool i)):G x:=by cases r;exact k
@[elab_as_elim] theorem CB{ρ h x} {G:Value→Prop}(r:RepV ρ h .none x) (k:G .none):G x:=by cases r;exact k
@[elab_as_elim] theorem mU{ρ h i x} {G:Value→Prop}(r:RepV ρ h (.ref i) x) (k:∀ a d,ρ[i]? = some (a,d)→G (.ref a)):G x:=by cases r with|ref hp=>exact k _ _ hp
@[elab_as_elim] theorem mV{ρ h vs x} {G:Value→Prop}(r:RepV ρ h (.tup vs) x) (k:∀ a o items n,¬bG ρ a→h.get? a=some o→o.cls=.type "tuple"→o.data=.seq items n→RepVs ρ h vs items.toList→G (.ref a)):G x:=by cases r with|tup a b c d e=>exact k _ _ _ _ a b c d e
@[elab_as_elim] theorem rs0{ρ h xs} {G:List Value→Prop}(r:RepVs ρ h [] xs) (k:G []):G xs:=by cases r;exact k
@[elab_as_elim] theorem rsC{ρ h v vs xs} {G:List Value→Prop}(r:RepVs ρ h (v::vs) xs) (k:∀ x ys,RepV ρ h v x→RepVs ρ h vs ys→G (x::ys)):G xs:=by cases r with|cons a b=>exact k _ _ a b
@[elab_as_elim] theorem rs1{ρ h v xs} {G:List Value→Prop}(r:RepVs ρ h [v] xs) (k:∀ x,RepV ρ h v x→G [x]):G xs:=rsC r fun x _ a b=>rs0 b (G:=fun ys=>G (x::ys)) (k x a)
@[elab_as_elim] theorem rs2{ρ h v w xs} {G:List Value→Prop}(r:RepVs ρ h [v,w] xs) (k:∀ x y,RepV ρ h v x→RepV ρ h w y→G [x,y]):G xs:=rsC r fun x _ a b=>rs1 b (G:=fun ys=>G (x::ys)) fun y c=>k x y a c
@[elab_as_elim] theorem rs3{ρ h v w u xs} {G:List Value→Prop}(r:RepVs ρ h [v,w,u] xs) (k:∀ x y z,RepV ρ h v x→RepV ρ h w y→RepV ρ h u z→G [x,y,z]):G xs:=rsC r fun x _ a b=>rs2 b (G:=fun ys=>G (x::ys)) fun y z c d=>k x y z a c d
noncomputable def onL{α:Type}(o:Option AObj) (k:List V→α) (d:α):α:=match o with
 | some (.list xs)=>k xs
 | _=>d
theorem iV{α:Type}{xs:List V}{k:List V→α}{d:α}:onL (some (.list xs)) k d=k xs:=rfl
theorem cX{α:Type}{P:α→Prop}{o:Option AObj}{k:List V→α}{d:α}(nb:¬P d) (p:P (onL o k d)):∃ xs,o=some (.list xs)∧P (k xs):=by
 rcases o with _|o
 ·exact absurd p nb
 ·cases o<;>first|exact⟨_,rfl,p⟩|exact absurd p nb
theorem br{α:Type}{P:α→Prop}{c:Prop} [Decidable c] {a d:α}(nb:¬P d) (p:P (if c then a else d)):c∧P a:=by
 by_cases h:c
 ·rw[if_pos h]at p;exact⟨h,p⟩
 ·rw[if_neg h]at p;exact absurd p nb
noncomputable def onO{α β:Type}(o:Option α) (k:α→β) (d:β):β:=match o with
 | some a=>k a
 | none=>d
theorem bP{α β:Type}{a:α}{k:α→β}{d:β}:onO (some a) k d=k a:=rfl
theorem bE{α β:Type}{P:β→Prop}{o:Option α}{k:α→β}{d:β}(nb:¬P d) (p:P (onO o k d)):∃ a,o=some a∧P (k a):=by
 cases o with
 | none=>exact absurd p nb
 | some a=>exact⟨a,rfl,p⟩
noncomputable def qR{α:Type}(k:Int→Int→α) (d:α):V→V→α:=fun v w=>match v with
 | .int a=>(match w with
  | .int b=>k a b
  | _=>d)
 | _=>d
@[elab_as_elim] theorem uU{α:Type}{P:α→Prop}{k:Int→Int→α}{d:α}{G:V→V→Prop}(v w:V) (nb:¬P d) (p:P (qR k d v w)) (h:∀ a b,P (k a b)→G (.int a) (.int b)):G v w:=by
 cases v<;>try exact absurd p nb
 cases w<;>try exact absurd p nb
 exact h _ _ p
noncomputable def fQ(H:Hp):V→Option (List V)
 | .ref j=>onL H[j]? some none
 | .tup vs=>some vs
 | _=>none
set_option tactic.hygienic true in
@[elab_as_elim] theorem pB{H:Hp}{xs:List V}{G:V→Prop}(w:V) (h:fQ H w=some xs) (k1:G (.tup xs)) (k2:∀ i,H[i]? = some (.list xs)→G (.ref i)):G w:=by
 cases w<;>try cases h
 ·exact k1
 ·rename_i i
  refine byC fun kq=>?_
  obtain⟨ys,ho,p⟩:=cX (P:=fun o=>o=some xs) (fun z=>by cases z) h
  refine kq ?_;try clear kq
  cases p
  exact k2 i ho
theorem wW{α:Type}{P:α→Prop}{o:Option AObj}{k:List V→α}{d:α}(p:P (onL o k d)):(∃ xs,o=some (.list xs)∧P (k xs))∨P d:=by
 rcases o with _|o
 ·exact .inr p
 ·cases o<;>first|exact .inl ⟨_,rfl,p⟩|exact .inr p
noncomputable def Bb{α:Type}(o:Option AObj) (k:List (Int × V)→α) (d:α):α:=match o with
 | some (.dictI kvs)=>k kvs
 | _=>d
noncomputable def zj{α:Type}(o:Option AObj) (k:List (Str × V)→α) (d:α):α:=match o with
 | some (.dictS kvs)=>k kvs
 | _=>d
noncomputable def Bc{α:Type}(o:Option AObj) (k:List (TK × V)→α) (d:α):α:=match o with
 | some (.dictT kvs)=>k kvs
 | _=>d
theorem nU{α:Type}{P:α→Prop}{o:Option AObj}{k:List (Int × V)→α}{d:α}(nb:¬P d) (p:P (Bb o k d)):∃ kvs,o=some (.dictI kvs)∧P (k kvs):=by
 rcases o with _|o
 ·exact absurd p nb
 ·cases o<;>first|exact⟨_,rfl,p⟩|exact absurd p nb
theorem nV{α:Type}{P:α→Prop}{o:Option AObj}{k:List (Str × V)→α}{d:α}(nb:¬P d) (p:P (zj o k d)):∃ kvs,o=some (.dictS kvs)∧P (k kvs):=by
 rcases o with _|o
 ·exact absurd p nb
 ·cases o<;>first|exact⟨_,rfl,p⟩|exact absurd p nb
theorem nX{α:Type}{P:α→Prop}{o:Option AObj}{k:List (TK × V)→α}{d:α}(nb:¬P d) (p:P (Bc o k d)):∃ kvs,o=some (.dictT kvs)∧P (k kvs):=by
 rcases o with _|o
 ·exact absurd p nb
 ·cases o<;>first|exact⟨_,rfl,p⟩|exact absurd p nb
theorem nns{α:Type}{a:α}{p:Prop}(e:Option.none=some a):p:=by cases e
theorem RepVs.cc{ρ h v vs x xs} (r:RepVs ρ h (v::vs) (x::xs)):RepV ρ h v x∧RepVs ρ h vs xs:=by cases r with|cons a b=>exact⟨a,b⟩
section
variable {prog:Program}{w:World}{A:Around}{E:Value→Shared→Prop}{s:Shared}

inductive IsTK (prog:Program) (w:World) (h:Heap) (k:TK) (a:Addr):Prop where
 | mk (o:Obj) (items:Array Value) (n:Nat) (t:Tok) (b:Addr) (t2 t3:Tok) (g:h.get? a=some o) (c:o.cls=.type "tuple") (d:o.data=.seq items n) (e:items.toList=[.str k.1 t,.ref b,.int k.2.2.1 t2,.int k.2.2.2 t3]) (i:IsTupleKey (intKind prog w) h k.2.1 b):IsTK prog w h k a
theorem IsTK.inj{h:Heap}{a:Addr}{x y:TK}(hx:IsTK prog w h x a) (hy:IsTK prog w h y a):x=y:=by
 refine byC fun kq=>?_
 obtain⟨o,it,n,t,b,t2,t3,g,c,d,e,i⟩:=hx
 obtain⟨o',it',n',t',b',t2',t3',g',c',d',e',i'⟩:=hy
 refine kq ?_;try clear kq
 rw[g]at g';cases g'
 rw[d]at d';cases d'
 rw[e]at e'
 simp only[List.cons.injEq,Value.str.injEq,Value.ref.injEq,Value.int.injEq,and_true]at e'
 refine byC fun kq=>?_
 obtain⟨⟨e1,_⟩,e2,⟨e3,_⟩,e4,_⟩:=e'
 refine kq ?_;try clear kq
 subst e2
 have:=i.inj i'
 refine byC fun kq=>?_
 obtain⟨x1,x2,x3,x4⟩:=x
 obtain⟨y1,y2,y3,y4⟩:=y
 refine kq ?_;try clear kq
 simp only at e1 e3 e4 this
 rw[e1,e3,e4,this]
theorem IsTK.keeps{h h':Heap}{k:TK}{a d:Addr}{o:Obj}{es ep} (x:IsTK prog w h k a) (ho:h.get? d=some o) (hd:o.data=.dict es ep) (hs:Heap.SameBut d h h'):IsTK prog w h' k a:=by
 refine byC fun kq=>?_
 obtain⟨o',it,n,t,b,t2,t3,g,c,dd,e,i⟩:=x
 refine kq ?_;try clear kq
 have hne:a ≠ d:=by
  rintro rfl
  rw[g]at ho;cases ho
  rw[dd]at hd;cases hd
 exact⟨o',it,n,t,b,t2,t3,(hs.2 a hne).trans g,c,dd,e,i.keeps ho hd hs⟩
noncomputable def tg(prog:Program) (w:World) (k:TK):Int:=reduceHash (Builtin.Tuple.tupleHashOf [hashStr w k.1,tupleKeyHash (intKind prog w) k.2.1,hashInt k.2.2.1,hashInt k.2.2.2])

theorem zP{k:TK}{a:Addr}{Q:Int→Shared→Prop}(hu:A.units + 1 < cLine) (hk:IsTK prog w s.heap k a) (h:Q (tg prog w k) { s with toks:=s.toks + (k.2.1.length + 5) }):
  wpAny (model prog w) A (pyHash (.ref a)) Q E s:=by
 refine byC fun kq=>?_
 obtain⟨o,it,n,t,b,t2,t3,ho,hc,hd,e,hi⟩:=hk
 refine kq ?_;try clear kq
 have hT:s.TypeIs (.ref a) "tuple":=⟨o,ho,hc⟩
 unfold pyHash
 first|unfold pyHashByItsType|skip
 first|refine wpAny_bind (wpAny_cRoomFor_or (.inr (by omega)) ?_)|skip
 refine wpAny_bind (wpAny_specialOf hT F.slot_tuple_hash.lookup ?_)
 show wpAny _ _ (if (some (Value.builtin "tuple.__hash__") == some Value.none)=true then _ else _) Q E s
 rw[if_neg (by rw[beq_builtin_none];exact Bool.false_ne_true)]
 refine wpAny_bind (wpAny_specialOf hT F.slot_tuple_hash.lookup ?_)
 show wpAny _ _ (callSpecialIfBoundUnlessNone? (.ref a) "__hash__" _ >>= _) Q E s
 refine wpAny_bind (wpAny_callSpecialIfBoundUnlessNone?_slot hT F.slot_tuple_hash (wpAny_call_entry F.slot_tuple_hash hT F.entry_tuple_hash ?_ (F.args_tuple_hash_1 _)))
 show wpAny _ _ (Builtin.Tuple.tupleItemsOf (.ref a) >>= _) _ _ s
 refine wpAny_bind (wpAny_tupleItemsOf ho hd ?_)
 refine wpAny_bind ?_
 rw[← Array.forIn_toList,e]
 simp only[List.forIn_cons,List.forIn_nil]
 refine wpAny_bind (wpAny_bind (wpAny_pyHash_str ?_))
 refine wpAny_pure (wpAny_bind (wpAny_bind (wpAny_pyHash_tuple (by show A.units + 1 < _;exact hu) hi ?_)))
 refine wpAny_pure (wpAny_bind (wpAny_bind (wpAny_pyHash_int ?_)))
 refine wpAny_pure (wpAny_bind (wpAny_bind (wpAny_pyHash_int ?_)))
 refine wpAny_pure (wpAny_pure ?_)
 show wpAny _ _ (retInt (Builtin.Tuple.tupleHashOf [hashStr w k.1,tupleKeyHash (intKind prog w) k.2.1,hashInt k.2.2.1,hashInt k.2.2.2])) _ _ _
 refine wpAny_ret_mkInt ?_
 show wpAny _ _ (if (decide (-(2:Int) ^ 63≤Builtin.Tuple.tupleHashOf [hashStr w k.1,tupleKeyHash (intKind prog w) k.2.1,hashInt k.2.2.1,hashInt k.2.2.2]) && decide (Builtin.Tuple.tupleHashOf [hashStr w k.1,tupleKeyHash (intKind prog w) k.2.1,hashInt k.2.2.1,hashInt k.2.2.2] < 2 ^ 63))=true then _ else _) Q E _
 have et:s.toks + 1 + (k.2.1.length + 1) + 1 + 1 + 1=s.toks + (k.2.1.length + 5):=by omega
 unfold tg reduceHash at h
 rw[← et]at h
 by_cases hr:(decide (-(2:Int) ^ 63≤Builtin.Tuple.tupleHashOf [hashStr w k.1,tupleKeyHash (intKind prog w) k.2.1,hashInt k.2.2.1,hashInt k.2.2.2]) && decide (Builtin.Tuple.tupleHashOf [hashStr w k.1,tupleKeyHash (intKind prog w) k.2.1,hashInt k.2.2.1,hashInt k.2.2.2] < 2 ^ 63))=true
 ·rw[if_pos hr]
  rw[if_pos hr]at h
  exact wpAny_pure h
 ·rw[if_neg hr]
  rw[if_neg hr]at h
  exact wpAny_bind (wpAny_rule (wpAny_pure h))

theorem zQ{x y:TK}{a b:Addr}{P:Fin→Shared→Prop}(hu:A.units < cLine) (hx:IsTK prog w s.heap x a) (hy:IsTK prog w s.heap y b) (h:P (.done (.ret (.bool (decide (x=y))))) s):
  wpAny (model prog w) A (Builtin.«tuple.__eq__» ⟨[.ref a,.ref b],[]⟩) P E s:=by
 refine byC fun kq=>?_
 obtain⟨o,it,n,t,c,t2,t3,ho,hc,hd,e,hi⟩:=hx
 obtain⟨o',it',n',t',c',t2',t3',ho',hc',hd',e',hi'⟩:=hy
 obtain⟨x1,x2,x3,x4⟩:=x
 obtain⟨y1,y2,y3,y4⟩:=y
 refine kq ?_;try clear kq
 dsimp only at e e' hi hi'
 show wpAny _ _ (isInstance (.ref b) (.type "tuple") >>= _) _ _ s
 refine wpAny_bind (wpAny_isInstance (T:="tuple") ⟨o',ho',hc'⟩ isSubtype_tuple_tuple ?_)
 simp only[Bool.not_true,Bool.false_eq_true,if_false]
 refine wpAny_bind (wpAny_tupleItemsOf ho hd ?_)
 refine wpAny_bind (wpAny_tupleItemsOf ho' hd' ?_)
 refine wpAny_bind ?_
 have hsz:(it.size == it'.size)=true:=by
  rw[← Array.length_toList,← Array.length_toList,e,e'];rfl
 show wpAny _ _ (forIn (List.zip it.toList it'.toList) _ _) _ _ _
 rw[e,e']
 simp only[List.zip_cons_cons,List.zip_nil_left,List.forIn_cons,List.forIn_nil]
 refine wpAny_bind (wpAny_bind (wpAny_eqBool_str ?_))
 by_cases h1:x1=y1
 ·rw[decide_eq_true h1]
  simp only[Bool.not_true,Bool.false_eq_true,if_false]
  refine wpAny_pure (wpAny_bind (wpAny_bind (wpAny_eqBool_tuple hu hi hi' ?_)))
  by_cases h2:x2=y2
  ·rw[decide_eq_true h2]
   simp only[Bool.not_true,Bool.false_eq_true,if_false]
   refine wpAny_pure (wpAny_bind (wpAny_bind ((intKind prog w).eqBool (a:=x3) (b:=y3) (by simp[intKind,Value.isInt]) (by simp[intKind,Value.isInt]) ?_)))
   by_cases h3:x3=y3
   ·rw[decide_eq_true h3]
    simp only[Bool.not_true,Bool.false_eq_true,if_false]
    refine wpAny_pure (wpAny_bind (wpAny_bind ((intKind prog w).eqBool (a:=x4) (b:=y4) (by simp[intKind,Value.isInt]) (by simp[intKind,Value.isInt]) ?_)))
    by_cases h4:x4=y4
    ·rw[decide_eq_true h4]
     simp only[Bool.not_true,Bool.false_eq_true,if_false]
     refine wpAny_pure (wpAny_pure (wpAny_pure ?_))
     show P (.done (.ret (.bool (it.size == it'.size)))) s
     rw[hsz]
     rw[decide_eq_true (by rw[h1,h2,h3,h4])]at h
     exact h
    ·rw[decide_eq_false h4]
     simp only[Bool.not_false,if_true]
     rw[decide_eq_false (fun q=>h4 (by injection q with _ q;injection q with _ q;injection q with _ q))]at h
     exact wpAny_bind (wpAny_pure (wpAny_pure (wpAny_pure (wpAny_pure h))))
   ·rw[decide_eq_false h3]
    simp only[Bool.not_false,if_true]
    rw[decide_eq_false (fun q=>h3 (by injection q with _ q;injection q with _ q;injection q with q _))]at h
    exact wpAny_bind (wpAny_pure (wpAny_pure (wpAny_pure (wpAny_pure h))))
  ·rw[decide_eq_false h2]
   simp only[Bool.not_false,if_true]
   rw[decide_eq_false (fun q=>h2 (by injection q with _ q;injection q with q _))]at h
   exact wpAny_bind (wpAny_pure (wpAny_pure (wpAny_pure (wpAny_pure h))))
 ·rw[decide_eq_false h1]
  simp only[Bool.not_false,if_true]
  rw[decide_eq_false (fun q=>h1 (by injection q with q _))]at h
  exact wpAny_bind (wpAny_pure (wpAny_pure (wpAny_pure (wpAny_pure h))))

theorem CE{x y:TK}{a b:Addr}{Q:Bool→Shared→Prop}(hu:A.units + 1 < cLine) (hx:IsTK prog w s.heap x a) (hy:IsTK prog w s.heap y b) (h:Q (decide (x=y)) s):
  wpAny (model prog w) A (eqBool (.ref a) (.ref b)) Q E s:=by
 have hTx:s.TypeIs (.ref a) "tuple":=by obtain⟨o,_,_,_,_,_,_,g,c,_⟩:=hx;exact⟨o,g,c⟩
 have hTy:s.TypeIs (.ref b) "tuple":=by obtain⟨o,_,_,_,_,_,_,g,c,_⟩:=hy;exact⟨o,g,c⟩
 unfold eqBool
 try with_reducible refine wpAny_holding ?_
 show wpAny _ _ (if (Value.ref a == Value.ref b)=true then _ else _) Q E s
 by_cases hab:(Value.ref a == Value.ref b)=true
 ·rw[if_pos hab]
  have e:a=b:=by have:=eq_of_beq hab;injection this
  subst e
  refine byC fun kq=>?_
  obtain rfl:=hx.inj hy
  refine kq ?_;try clear kq
  exact wpAny_bind (wpAny_rule (wpAny_pure (by simpa using h)))
 ·rw[if_neg hab]
  exact wpAny_bind (wpAny_richCompare_same_room (op:=.Eq) hTx hTy F.slot_tuple_eq
   (wpAny_call_entry F.slot_tuple_eq hTx F.entry_tuple_eq (zQ (by show A.units + 1 < _;exact hu) hx hy ⟨_,rfl,(fun e=>nomatch e),wpAny_truthy_bool h⟩) (F.args_tuple_eq_2 _ _)) (by omega))

theorem qU(n:Nat) {K:Type} [DecidableEq K] {knd:PySem.KeyKind prog w K}{ks:List K}{a:Addr}{Q:Bool→Shared→Prop}(hk:IsTupleKey knd s.heap ks a) (h:Q true s):wpAny (model prog w) A (eqIsQuiet (n + 1) (.ref a)) Q E s:=by
 have hT:=hk.typeIs
 refine byC fun kq=>?_
 obtain⟨o,items,n',ho,_,hd,hi⟩:=hk
 refine kq ?_;try clear kq
 unfold eqIsQuiet
 refine wpAny_bind (wpAny_specialOf hT F.slot_tuple_eq.lookup ?_)
 show wpAny _ _ (isInstance (.ref a) (.type "tuple") >>= _) _ _ s
 refine wpAny_bind (wpAny_isInstance hT isSubtype_tuple_tuple ?_)
 simp only[Bool.not_true,Bool.false_eq_true,if_false]
 refine wpAny_bind (wpAny_seqItems ho hd ?_)
 refine wpAny_bind ?_
 show wpAny _ _ (forIn items _ _) _ _ s
 rw[← Array.forIn_toList]
 refine wpAny_forIn_list _ (fun rest r s'=>r.1=none∧s'=s∧∀ v∈rest,carriedByValue v=true) _ ?_ ?_ _ _ ⟨rfl,rfl,hi.byValue⟩
 ·rintro v rest r s' ⟨hr,rfl,hall⟩
  rw[eqIsQuiet_byValue _ (hall v CY)]
  refine wpAny_bind (wpAny_pure ?_)
  simp only[Bool.not_true,Bool.false_eq_true,if_false]
  exact wpAny_pure ⟨rfl,rfl,fun u hu'=>hall u (CZ _ hu')⟩
 ·rintro ⟨r1,r2⟩ s' ⟨hr,rfl,_⟩
  simp only at hr
  subst hr
  exact wpAny_pure h
theorem xW{k:TK}{a:Addr}{Q:Bool→Shared→Prop}(hk:IsTK prog w s.heap k a) (h:Q true s):wpAny (model prog w) A (eqIsQuiet 8 (.ref a)) Q E s:=by
 refine byC fun kq=>?_
 obtain⟨o,it,n,t,b,t2,t3,ho,hc,hd,e,hi⟩:=hk
 refine kq ?_;try clear kq
 have hT:s.TypeIs (.ref a) "tuple":=⟨o,ho,hc⟩
 unfold eqIsQuiet
 refine wpAny_bind (wpAny_specialOf hT F.slot_tuple_eq.lookup ?_)
 show wpAny _ _ (isInstance (.ref a) (.type "tuple") >>= _) _ _ s
 refine wpAny_bind (wpAny_isInstance hT isSubtype_tuple_tuple ?_)
 simp only[Bool.not_true,Bool.false_eq_true,if_false]
 refine wpAny_bind (wpAny_seqItems ho hd ?_)
 refine wpAny_bind ?_
 show wpAny _ _ (forIn it _ _) _ _ s
 rw[← Array.forIn_toList,e]
 simp only[List.forIn_cons,List.forIn_nil]
 rw[eqIsQuiet_byValue _ (v:=.str k.1 t) rfl,eqIsQuiet_byValue _ (v:=.int k.2.2.1 t2) rfl,eqIsQuiet_byValue _ (v:=.int k.2.2.2 t3) rfl]
 refine wpAny_bind (wpAny_bind (wpAny_pure ?_))
 simp only[Bool.not_true,Bool.false_eq_true,if_false]
 refine wpAny_pure (wpAny_bind (wpAny_bind (qU 6 hi ?_)))
 simp only[Bool.not_true,Bool.false_eq_true,if_false]
 refine wpAny_pure (wpAny_bind (wpAny_bind (wpAny_pure ?_)))
 simp only[Bool.not_true,Bool.false_eq_true,if_false]
 refine wpAny_pure (wpAny_bind (wpAny_bind (wpAny_pure ?_)))
 simp only[Bool.not_true,Bool.false_eq_true,if_false]
 refine wpAny_pure (wpAny_pure ?_)
 exact wpAny_pure h

noncomputable def pC(prog:Program) (w:World):HeapKind prog w TK where
 is:=IsTK prog w
 hash:=tg prog w
 draws:=fun k=>k.2.1.length + 5
 room:=fun A=>A.units + 1 < cLine
 inj:=fun hx hy=>hx.inj hy
 keeps:=fun x ho hd hs=>x.keeps ho hd hs
 pyHash:=fun hu hk h=>zP hu hk h
 eqBool:=fun hu hx hy h=>CE hu hx hy h
 quiet:=fun hk h=>xW hk h
end

structure Cx where
 prog:Program
 w:World
 K:Frag
 mg:Str→Option Value
 mb:Str→Option Value
 h0:Heap
 gens:Array GenState
 drawn:Drawn
 os:OsState
 sf:Addr
structure Cx.Ok (C:Cx):Prop where
 kin:C.K.In C.h0
 g:C.h0.Ns mainGlobals C.mg
 b:C.h0.Ns builtinsNs C.mb
 nolimit:C.h0.NoLimit
 sys:sysModules < C.h0.objs.size

noncomputable def pO(ρ:Rho) (h:Heap) (fs:List (Str × V)) (mm:Str→Option Value):Prop:=
 ∀ x,(∀ v,fs.lookup x=some v→∃ y,mm x=some y∧RepV ρ h v y)∧(fs.lookup x=none→mm x=none)

noncomputable def tkV(k:TK):V:=.tup [.str k.1,.tup (k.2.1.map .int),.int k.2.2.1,.int k.2.2.2]
noncomputable def im(C:Cx) (ρ:Rho) (h:Heap):AObj→Addr→Addr→Prop
 | .list xs,a,d=>a=d∧∃ n items sl,h.get? a=some ⟨.type "list",none,.seq items n,sl⟩∧RepVs ρ h xs items.toList
 | .dictS kvs,a,d=>a=d∧∃ vs,h.DictOf (strKind C.prog C.w) a ((kvs.map (·.1)).zip vs)∧RepVs ρ h (kvs.map (·.2)) vs
 | .dictI kvs,a,d=>a=d∧∃ vs,h.DictOf (intKind C.prog C.w) a ((kvs.map (·.1)).zip vs)∧RepVs ρ h (kvs.map (·.2)) vs
 | .dictT kvs,a,d=>a=d∧∃ (o:Obj) (es:Array DictEntry) (ep:Nat) (xs:List (TK × Addr × Value)),h.get? a=some o∧(o.ExactDict∧o.data=.dict es ep∧es.toList=xs.map (entryOfKey (pC C.prog C.w))∧(xs.map (·.1)).Nodup∧kvs.map (·.1)=xs.map (·.1))∧(∀ x∈xs,RepV ρ h (tkV x.1) (.ref x.2.1))∧RepVs ρ h (kvs.map (·.2)) (xs.map (·.2.2))
 | .frz o xs,a,d=>a=d∧h.get? a=some o∧∃ items n,o.cls=.type "list"∧o.data=.seq items n∧RepVs ρ h xs items.toList
 | .opq,a,d=>a=d∧∃ o,h.get? a=some o∧∃ x y:Value,o={ cls:=.type "tuple",data:=.seq #[x,y] }
 | .inst K fs,a,d=>(∃ sl,h.get? a=some ⟨.ref K,some d,.plain,sl⟩)∧∃ o es n,h.get? d=some o∧o.data=.dict es n∧StrKeys es∧es.size≤fs.length∧pO ρ h fs (nsFind es)

structure Rep (C:Cx) (ρ:Rho) (H:Hp) (h:Heap):Prop where
 len:ρ.length=H.length
 obj:∀ (l:Nat) (o:AObj) (p:Addr × Addr),H[l]? = some o→ρ[l]? = some p→im C ρ h o p.1 p.2
 apart:∀ (l l':Nat) (p p':Addr × Addr),l ≠ l'→ρ[l]? = some p→ρ[l']? = some p'→p.1 ≠ p'.1∧p.1 ≠ p'.2∧p.2 ≠ p'.1∧p.2 ≠ p'.2

noncomputable def ow(h0:Heap) (a:Addr):Prop:=h0.get? a=none∧(a=sysModules→h0.objs.size≤sysModules)
theorem ow.ge{h0:Heap}{a:Addr}(h:h0.objs.size≤a):ow h0 a:=⟨by
 cases q:h0.get? a with
 | none=>rfl
 | some o=>exact absurd (Heap.lt_size q) (Nat.not_lt.mpr h),fun e=>e ▸ h⟩
theorem ow.no{h0:Heap}{a:Addr}{o:Obj}(x:ow h0 a) (e:h0.get? a=some o):False:=by rw[x.1]at e;cases e

structure St (C:Cx) (l:List Env) (ρ:Rho) (H:Hp) (s:Shared):Prop where
 old:∀ b o,C.h0.get? b=some o→s.heap.get? b=some o
 hi:∀ p∈ρ,ow C.h0 p.1∧ow C.h0 p.2
 lo:C.h0.objs.size≤s.heap.objs.size
 rest:s.gens=C.gens∧s.drawn=C.drawn∧s.os=C.os
 rep:Rep C ρ H s.heap
 frs:s.heap.FunFrames C.h0 l
 frm:∀ b,dA l b→¬bG ρ b

structure Ev (C:Cx) (l:List Env) (W:Addr→Prop) (ρ:Rho) (s:Shared) (ρ':Rho) (H':Hp) (s':Shared):Prop where
 st:St C l ρ' H' s'
 pre:∃ t,ρ'=ρ++t∧∀ p∈t,s.heap.objs.size≤p.1∧s.heap.objs.size≤p.2
 keep:bt (fun b=>bG ρ b∨W b) (dA l) s.heap s'.heap

noncomputable def No:Addr→Prop:=fun _=>False

theorem Ev.refl{C l ρ H s} {W:Addr→Prop}(x:St C l ρ H s):Ev C l W ρ s ρ H s:=⟨x,⟨[],by simp,fun _ h=>nomatch h⟩,bt.refl ..⟩
theorem dc{ρ t:Rho}{b:Addr}:bG (ρ++t) b↔bG ρ b∨bG t b:=by
 simp only[bG,List.mem_append]
 constructor
 ·rintro ⟨p,hp|hp,e⟩
  ·exact .inl ⟨p,hp,e⟩
  ·exact .inr ⟨p,hp,e⟩
 ·rintro (⟨p,hp,e⟩|⟨p,hp,e⟩)
  ·exact⟨p,.inl hp,e⟩
  ·exact⟨p,.inr hp,e⟩
theorem Ev.trans{C l W ρ s ρ₁ H₁ s₁ ρ₂ H₂ s₂} (x:Ev C l W ρ s ρ₁ H₁ s₁) (y:Ev C l W ρ₁ s₁ ρ₂ H₂ s₂):Ev C l W ρ s ρ₂ H₂ s₂:=by
 refine byC fun kq=>?_
 obtain⟨t,rfl,ht⟩:=x.pre
 obtain⟨t2,rfl,ht2⟩:=y.pre
 refine kq ?_;try clear kq
 refine⟨y.st,⟨t++t2,by rw[List.append_assoc],fun p hp=>?_⟩,x.keep.trans y.keep (fun b hb=>?_) fun b hb=>hb⟩
 ·rcases List.mem_append.mp hp with hp|hp
  ·exact ht p hp
  ·exact⟨CX x.keep.1 (ht2 p hp).1,CX x.keep.1 (ht2 p hp).2⟩
 ·rintro (h|h)
  ·rcases dc.mp h with h|⟨p,hp,e⟩
   ·exact .inl h
   ·have:=ht p hp
    rcases e with rfl|rfl
    ·exact absurd hb (Nat.not_lt.mpr this.1)
    ·exact absurd hb (Nat.not_lt.mpr this.2)
  ·exact .inr h
theorem Ev.mono{C l W W' ρ s ρ₁ H₁ s₁} (x:Ev C l W ρ s ρ₁ H₁ s₁) (h:∀ b,W b→W' b):Ev C l W' ρ s ρ₁ H₁ s₁:=
 ⟨x.st,x.pre,x.keep.mono fun b hb=>hb.imp id (h b)⟩
theorem Ev.no{C l W ρ s ρ₁ H₁ s₁} (x:Ev C l No ρ s ρ₁ H₁ s₁):Ev C l W ρ s ρ₁ H₁ s₁:=x.mono fun _ h=>h.elim
theorem Ev.look{C l W ρ s ρ₁ H₁ s₁} (x:Ev C l W ρ s ρ₁ H₁ s₁) (i:Nat) (p:Addr × Addr) (e:ρ[i]? = some p):ρ₁[i]? = some p:=by
 refine byC fun kq=>?_
 obtain⟨t,rfl,_⟩:=x.pre
 refine kq ?_;try clear kq
 rw[List.getElem?_append_left (List.getElem?_eq_some_iff.mp e).1];exact e
theorem Ev.nm{C l W ρ s ρ₁ H₁ s₁} (x:Ev C l W ρ s ρ₁ H₁ s₁) (b:Addr) (hb:b < s.heap.objs.size) (n:¬bG ρ b):¬bG ρ₁ b:=fun q=>by
 refine byC fun kq=>?_
 obtain⟨t,rfl,ht⟩:=x.pre
 refine kq ?_;try clear kq
 rcases dc.mp q with q|⟨p,hp,z⟩
 ·exact n q
 ·have:=ht p hp
  rcases z with rfl|rfl
  ·exact absurd hb (Nat.not_lt.mpr this.1)
  ·exact absurd hb (Nat.not_lt.mpr this.2)
theorem RepV.ev{C l W ρ s ρ₁ H H₁ s₁ v y} (r:RepV ρ s.heap v y) (st:St C l ρ H s) (x:Ev C l W ρ s ρ₁ H₁ s₁) (hw:∀ b,W b→NT s.heap b):RepV ρ₁ s₁.heap v y:=
 let _:=st
 RepV.keep x.keep (fun b hb m=>hb.elim (fun z=>absurd z m) (hw b)) x.look x.nm r
theorem RepVs.ev{C l W ρ s ρ₁ H H₁ s₁ v y} (r:RepVs ρ s.heap v y) (st:St C l ρ H s) (x:Ev C l W ρ s ρ₁ H₁ s₁) (hw:∀ b,W b→NT s.heap b):RepVs ρ₁ s₁.heap v y:=
 let _:=st
 RepVs.keep x.keep (fun b hb m=>hb.elim (fun z=>absurd z m) (hw b)) x.look x.nm r
theorem RepV.ev0{C l ρ s ρ₁ H H₁ s₁ v y} (r:RepV ρ s.heap v y) (st:St C l ρ H s) (x:Ev C l No ρ s ρ₁ H₁ s₁):RepV ρ₁ s₁.heap v y:=r.ev st x fun _ h=>h.elim
theorem RepVs.ev0{C l ρ s ρ₁ H H₁ s₁ v y} (r:RepVs ρ s.heap v y) (st:St C l ρ H s) (x:Ev C l No ρ s ρ₁ H₁ s₁):RepVs ρ₁ s₁.heap v y:=r.ev st x fun _ h=>h.elim

inductive FlyAt (C:Cx) (n:Nat) (e:Addr) (fl:Value) (h:Heap):Prop where
 | mk (hn:n≤e) (oe:Obj) (vs:Array Value) (T:Addr) (oT:Obj) (ts:Array Value) (hT:n≤T) (ge:h.get? e=some oe) (ce:oe.cls=.ref C.sf) (de:oe.data=.fields vs) (v1:vs[1]? = some (.ref T)) (ne:T ≠ e) (gT:h.get? T=some oT) (dT:oT.data=.fields ts) (t3:ts[3]? = some fl):FlyAt C n e fl h
noncomputable def AA(C:Cx) (n:Nat) (e:Addr) (h:Heap):Prop:=
 n≤e∧∃ oe vs,h.get? e=some oe∧oe.cls=.ref C.sf∧oe.data=.fields vs∧vs[1]? = some .none
noncomputable def Fly(C:Cx) (fr:Option Addr) (n:Nat) (e:Addr) (h:Heap):Prop:=
 AA C n e h∨FlyAt C n e .none h∨∃ L,fr=some L∧FlyAt C n e (rawInt L) h
theorem FlyAt.mono{C:Cx}{n n':Nat}{e:Addr}{fl:Value}{h:Heap}(x:FlyAt C n e fl h) (hn:n'≤n):FlyAt C n' e fl h:=by
 refine byC fun kq=>?_
 obtain⟨a,oe,vs,T,oT,ts,b,r1,r2,r3,r4,r5,r6,r7,r8⟩:=x
 refine kq ?_;try clear kq
 exact⟨CX hn a,oe,vs,T,oT,ts,CX hn b,r1,r2,r3,r4,r5,r6,r7,r8⟩
theorem Fly.mono{C:Cx}{fr:Option Addr}{n n':Nat}{e:Addr}{h:Heap}(x:Fly C fr n e h) (hn:n'≤n):Fly C fr n' e h:=by
 rcases x with⟨a,r⟩|x|⟨L,q,x⟩
 ·exact .inl ⟨CX hn a,r⟩
 ·exact .inr (.inl (x.mono hn))
 ·exact .inr (.inr ⟨L,q,x.mono hn⟩)
theorem Fly.any{C:Cx}{fr:Option Addr}{n:Nat}{e:Addr}{h:Heap}(x:Fly C none n e h):Fly C fr n e h:=by
 rcases x with x|x|⟨L,q,x⟩
 ·exact .inl x
 ·exact .inr (.inl x)
 ·cases q

noncomputable def Bud(d:Nat) (A:Around):Prop:=A.depth + 2 * d < 900∧A.units + 20 * d < 9800∧A.handled=none
theorem Bud.room{d:Nat}{A:Around}(b:Bud d A):A.depth < recursionLimit:=Dc (C9 _ _) (Dd b.1 (by decide))
theorem Bud.units{d:Nat}{A:Around}(b:Bud d A):A.units < cLine:=Dc (C9 _ _) (Dd b.2.1 (by decide))

noncomputable def c0(env:Env) (b:Addr):Prop:=b=env.locals∨∃ x,env.cells.lookup x=some b

structure FrOk (C:Cx) (env:Env) (l:List Env) (m:Fm) (ρ:Rho) (h:Heap):Prop where
 kind:env.scope.kind=.function
 glob:env.globals=mainGlobals
 bui:env.builtins=builtinsNs
 top:∃ e0 r,l=e0::r∧e0.frame=env.frame
 loc:∃ mm,h.Ns env.locals mm∧∀ x v,m.lookup x=some v→env.kindOf x=some .local→∃ y,mm x=some y∧RepV ρ h v y
 cel:∀ x v,m.lookup x=some v→(env.kindOf x=some .cell∨env.kindOf x=some .free)→∃ c y,env.cells.lookup x=some c∧h.IsCell c (some y)∧RepV ρ h v y
 celX:∀ x c,env.cells.lookup x=some c→∃ ov,h.IsCell c ov
 celI:∀ x x' c,env.cells.lookup x=some c→env.cells.lookup x'=some c→x=x'
 hiL:C.h0.objs.size≤env.locals∧¬bG ρ env.locals
 hiC:∀ x c,env.cells.lookup x=some c→C.h0.objs.size≤c∧¬bG ρ c
 celE:∀ x,env.kindOf x=some .cell→(env.cells.lookup x).isSome=true

noncomputable def aJ(C:Cx) (l:List Env) (fr:Option Addr) (ρ:Rho) (s:Shared) (Q:Value→Shared→Prop) (E:Value→Shared→Prop):Out V→Prop
 | .ok v H'=>∀ ρ' y s',Ev C l No ρ s ρ' H' s'→RepV ρ' s'.heap v y→Q y s'
 | .exc H'=>∀ ρ' e s',Ev C l No ρ s ρ' H' s'→Fly C fr s.heap.objs.size e s'.heap→E (.ref e) s'
 | .bad=>False
noncomputable def dW(C:Cx) (l:List Env) (fr:Option Addr) (ρ:Rho) (s:Shared) (Q:List Value→Shared→Prop) (E:Value→Shared→Prop):Out (List V)→Prop
 | .ok v H'=>∀ ρ' y s',Ev C l No ρ s ρ' H' s'→RepVs ρ' s'.heap v y→Q y s'
 | .exc H'=>∀ ρ' e s',Ev C l No ρ s ρ' H' s'→Fly C fr s.heap.objs.size e s'.heap→E (.ref e) s'
 | .bad=>False
inductive RepF (ρ:Rho) (h:Heap):Fl→Flow→Prop
 | next:RepF ρ h .next .next
 | cont:RepF ρ h .cont .cont
 | brk:RepF ρ h .brk .brk
 | ret {v y}:RepV ρ h v y→RepF ρ h (.ret v) (.ret y)
noncomputable def bJ(C:Cx) (env:Env) (l:List Env) (ρ:Rho) (s:Shared) (Q:Flow→Shared→Prop) (E:Value→Shared→Prop):OutS→Prop
 | .ok f m' H'=>∀ ρ' F s',Ev C l (c0 env) ρ s ρ' H' s'→FrOk C env l m' ρ' s'.heap→RepF ρ' s'.heap f F→Q F s'
 | .exc m' H'=>∀ ρ' e s',Ev C l (c0 env) ρ s ρ' H' s'→FrOk C env l m' ρ' s'.heap→Fly C env.frame s.heap.objs.size e s'.heap→E (.ref e) s'
 | .bad=>False

theorem aJ.shift{C l fr ρ s Q E o ρ₁ H₁ s₁} (p:aJ C l fr ρ s Q E o) (x:Ev C l No ρ s ρ₁ H₁ s₁):aJ C l fr ρ₁ s₁ Q E o:=by
 cases o with
 | ok v H=>exact fun ρ' y s' e r=>p ρ' y s' (x.trans e) r
 | exc H=>exact fun ρ' y s' e r=>p ρ' y s' (x.trans e) (r.mono x.keep.1)
 | bad=>exact p
theorem dW.shift{C l fr ρ s Q E o ρ₁ H₁ s₁} (p:dW C l fr ρ s Q E o) (x:Ev C l No ρ s ρ₁ H₁ s₁):dW C l fr ρ₁ s₁ Q E o:=by
 cases o with
 | ok v H=>exact fun ρ' y s' e r=>p ρ' y s' (x.trans e) r
 | exc H=>exact fun ρ' y s' e r=>p ρ' y s' (x.trans e) (r.mono x.keep.1)
 | bad=>exact p
theorem bJ.shift{C env l ρ s Q E o ρ₁ H₁ s₁} (p:bJ C env l ρ s Q E o) (x:Ev C l (c0 env) ρ s ρ₁ H₁ s₁):bJ C env l ρ₁ s₁ Q E o:=by
 cases o with
 | ok f m H=>exact fun ρ' y s' e fr r=>p ρ' y s' (x.trans e) fr r
 | exc m H=>exact fun ρ' y s' e fr r=>p ρ' y s' (x.trans e) fr (r.mono x.keep.1)
 | bad=>exact p

theorem aJ.bind{C l fr ρ s Q E} {o:Out V}{k:V→Hp→Out V}{Q1:Value→Shared→Prop}(p:aJ C l fr ρ s Q E (o.bind k))
  (h:∀ v H1 ρ1 y s1,o=.ok v H1→Ev C l No ρ s ρ1 H1 s1→RepV ρ1 s1.heap v y→aJ C l fr ρ1 s1 Q E (k v H1)→Q1 y s1):aJ C l fr ρ s Q1 E o:=by
 cases o with
 | ok v H=>exact fun ρ' y s' e r=>h v H ρ' y s' rfl e r (p.shift e)
 | exc H=>exact p
 | bad=>exact p
theorem aJ.bindL{C l fr ρ s Q E} {o:Out (List V)}{k:List V→Hp→Out V}{Q1:List Value→Shared→Prop}(p:aJ C l fr ρ s Q E (o.bind k))
  (h:∀ v H1 ρ1 y s1,o=.ok v H1→Ev C l No ρ s ρ1 H1 s1→RepVs ρ1 s1.heap v y→aJ C l fr ρ1 s1 Q E (k v H1)→Q1 y s1):dW C l fr ρ s Q1 E o:=by
 cases o with
 | ok v H=>exact fun ρ' y s' e r=>h v H ρ' y s' rfl e r (p.shift e)
 | exc H=>exact p
 | bad=>exact p
theorem dW.bind{C l fr ρ s Q E} {o:Out V}{k:V→Hp→Out (List V)}{Q1:Value→Shared→Prop}(p:dW C l fr ρ s Q E (o.bind k))
  (h:∀ v H1 ρ1 y s1,o=.ok v H1→Ev C l No ρ s ρ1 H1 s1→RepV ρ1 s1.heap v y→dW C l fr ρ1 s1 Q E (k v H1)→Q1 y s1):aJ C l fr ρ s Q1 E o:=by
 cases o with
 | ok v H=>exact fun ρ' y s' e r=>h v H ρ' y s' rfl e r (p.shift e)
 | exc H=>exact p
 | bad=>exact p
theorem dW.bindL{C l fr ρ s Q E} {o:Out (List V)}{k:List V→Hp→Out (List V)}{Q1:List Value→Shared→Prop}(p:dW C l fr ρ s Q E (o.bind k))
  (h:∀ v H1 ρ1 y s1,o=.ok v H1→Ev C l No ρ s ρ1 H1 s1→RepVs ρ1 s1.heap v y→dW C l fr ρ1 s1 Q E (k v H1)→Q1 y s1):dW C l fr ρ s Q1 E o:=by
 cases o with
 | ok v H=>exact fun ρ' y s' e r=>h v H ρ' y s' rfl e r (p.shift e)
 | exc H=>exact p
 | bad=>exact p
theorem FrOk.ev{C env l m ρ s ρ₁ H H₁ s₁} (x:FrOk C env l m ρ s.heap) (st:St C l ρ H s) (e:Ev C l No ρ s ρ₁ H₁ s₁):FrOk C env l m ρ₁ s₁.heap:=by
 have nm:∀ b o,s.heap.get? b=some o→¬bG ρ b→¬bG ρ₁ b:=fun b o g n=>e.nm b (Heap.lt_size g) n
 have cellK:∀ c ov,s.heap.IsCell c ov→¬bG ρ c→s₁.heap.IsCell c ov:=by
  rintro c ov ⟨o,g,d⟩ n
  refine byC fun kq=>?_
  obtain⟨sl,g',_⟩:=e.keep.2 c o g (fun z=>z.elim n id)
  refine kq ?_;try clear kq
  exact⟨_,g',d⟩
 refine⟨x.kind,x.glob,x.bui,x.top,?_,?_,?_,x.celI,⟨x.hiL.1,?_⟩,?_,x.celE⟩
 ·refine byC fun kq=>?_
  obtain⟨mm,⟨o,es,ep,g,d,k,f⟩,hm⟩:=x.loc
  obtain⟨sl,g',_⟩:=e.keep.2 _ o g (fun z=>z.elim x.hiL.2 id)
  refine kq ?_;try clear kq
  refine⟨mm,⟨_,es,ep,g',d,k,f⟩,fun y v hv hk=>?_⟩
  refine byC fun kq=>?_
  obtain⟨z,hz,r⟩:=hm y v hv hk
  refine kq ?_;try clear kq
  exact⟨z,hz,r.ev0 st e⟩
 ·intro y v hv hk
  refine byC fun kq=>?_
  obtain⟨c,z,hc,ic,r⟩:=x.cel y v hv hk
  refine kq ?_;try clear kq
  exact⟨c,z,hc,cellK c _ ic (x.hiC y c hc).2,r.ev0 st e⟩
 ·intro y c hc
  refine byC fun kq=>?_
  obtain⟨ov,ic⟩:=x.celX y c hc
  refine kq ?_;try clear kq
  exact⟨ov,cellK c _ ic (x.hiC y c hc).2⟩
 ·refine byC fun kq=>?_
  obtain⟨mm,⟨o,es,ep,g,_⟩,_⟩:=x.loc
  refine kq ?_;try clear kq
  exact nm _ o g x.hiL.2
 ·intro y c hc
  refine byC fun kq=>?_
  obtain⟨ov,o,g,d⟩:=x.celX y c hc
  refine kq ?_;try clear kq
  exact⟨(x.hiC y c hc).1,nm _ o g (x.hiC y c hc).2⟩

theorem bJ.bindE{C env l ρ s Q E H} {m:Fm}{o:Out V}{k:V→Hp→OutS}{Q1:Value→Shared→Prop}(p:bJ C env l ρ s Q E (o.bindS m k)) (st:St C l ρ H s) (fr:FrOk C env l m ρ s.heap)
  (h:∀ v H1 ρ1 y s1,o=.ok v H1→Ev C l No ρ s ρ1 H1 s1→FrOk C env l m ρ1 s1.heap→RepV ρ1 s1.heap v y→bJ C env l ρ1 s1 Q E (k v H1)→Q1 y s1):aJ C l env.frame ρ s Q1 E o:=by
 cases o with
 | ok v H=>exact fun ρ' y s' e r=>h v H ρ' y s' rfl e (fr.ev st e) r (p.shift e.no)
 | exc H=>exact fun ρ' y s' e r=>p ρ' y s' e.no (fr.ev st e) r
 | bad=>exact p
theorem bJ.bind{C env l ρ s Q E} {o:OutS}{k:Fl→Fm→Hp→OutS}{Q1:Flow→Shared→Prop}(p:bJ C env l ρ s Q E (o.bind k))
  (h:∀ f m H1 ρ1 F s1,o=.ok f m H1→Ev C l (c0 env) ρ s ρ1 H1 s1→FrOk C env l m ρ1 s1.heap→RepF ρ1 s1.heap f F→bJ C env l ρ1 s1 Q E (k f m H1)→Q1 F s1):bJ C env l ρ s Q1 E o:=by
 cases o with
 | ok v m H=>exact fun ρ' y s' e fr r=>h v m H ρ' y s' rfl e fr r (p.shift e)
 | exc m H=>exact p
 | bad=>exact p

theorem aJ.any{C l fr ρ s Q E o} (p:aJ C l fr ρ s Q E o):aJ C l none ρ s Q E o:=by
 cases o with
 | ok v H=>exact p
 | exc H=>exact fun ρ' y s' e r=>p ρ' y s' e r.any
 | bad=>exact p
theorem aJ.mono{C l fr ρ s Q Q' E o} (p:aJ C l fr ρ s Q E o) (h:∀ F s',Q F s'→Q' F s'):aJ C l fr ρ s Q' E o:=by
 cases o with
 | ok v H=>exact fun ρ' y s' e r=>h _ _ (p ρ' y s' e r)
 | exc H=>exact p
 | bad=>exact p

noncomputable def bg(C:Cx) (d:Nat) (sc:Scope) (e:Expr) (f:FE):Prop:=
 ∀ (A:Around) (env:Env) (l:List Env) (m:Fm) (ρ:Rho) (H:Hp) (s:Shared) (Q E:Value→Shared→Prop),
  Bud d A→A.frames=some l→env.scope=sc→FrOk C env l m ρ s.heap→St C l ρ H s→aJ C l env.frame ρ s Q E (f m H)→wpAny (model C.prog C.w) A (eval e env) Q E s
noncomputable def lz(C:Cx) (d:Nat) (sc:Scope) (e:Expr) (f:FE):Prop:=
 ∀ (A:Around) (env:Env) (l:List Env) (m:Fm) (ρ:Rho) (H:Hp) (s:Shared) (Q:Bool→Shared→Prop) (E:Value→Shared→Prop),
  Bud d A→A.frames=some l→env.scope=sc→FrOk C env l m ρ s.heap→St C l ρ H s→aJ C l env.frame ρ s (fun v s'=>∃ b,v=.bool b∧Q b s') E (f m H)→wpAny (model C.prog C.w) A (isTrue e env (eval e env)) Q E s
noncomputable def ku(C:Cx) (d:Nat) (sc:Scope) (es:List Expr) (f:Fm→Hp→Out (List V)):Prop:=
 ∀ (A:Around) (env:Env) (l:List Env) (m:Fm) (ρ:Rho) (H:Hp) (s:Shared) (Q:List Value→Shared→Prop) (E:Value→Shared→Prop) (pos:Pos),
  Bud d A→A.frames=some l→env.scope=sc→FrOk C env l m ρ s.heap→St C l ρ H s→dW C l env.frame ρ s Q E (f m H)→wpAny (model C.prog C.w) A (spliced (backTo pos (starEach es env))) Q E s
noncomputable def jU(C:Cx) (d:Nat) (sc:Scope) (st:Stmt) (f:FS):Prop:=
 ∀ (A:Around) (env:Env) (l:List Env) (m:Fm) (ρ:Rho) (H:Hp) (s:Shared) (Q:Flow→Shared→Prop) (E:Value→Shared→Prop),
  Bud d A→A.frames=some l→env.scope=sc→FrOk C env l m ρ s.heap→St C l ρ H s→bJ C env l ρ s Q E (f m H)→wpAny (model C.prog C.w) A (exec st env) Q E s
noncomputable def lU(C:Cx) (d:Nat) (sc:Scope) (b:List Stmt) (f:FS):Prop:=
 ∀ (A:Around) (env:Env) (l:List Env) (m:Fm) (ρ:Rho) (H:Hp) (s:Shared) (Q:Flow→Shared→Prop) (E:Value→Shared→Prop),
  Bud d A→A.frames=some l→env.scope=sc→FrOk C env l m ρ s.heap→St C l ρ H s→bJ C env l ρ s Q E (f m H)→wpAny (model C.prog C.w) A (execs b env) Q E s
noncomputable def jS(C:Cx) (d:Nat) (f:Value) (F:List V→Hp→Out V):Prop:=
 ∀ (A:Around) (l:List Env) (vs:List V) (xs:List Value) (ρ:Rho) (H:Hp) (s:Shared) (Q E:Value→Shared→Prop),
  Bud d A→A.frames=some l→St C l ρ H s→RepVs ρ s.heap vs xs→aJ C l none ρ s Q E (F vs H)→wpAny (model C.prog C.w) A (call f xs []) Q E s

theorem St.tok{C l ρ H s} {t:Nat}(x:St C l ρ H s):St C l ρ H { s with toks:=t }:=⟨x.old,x.hi,x.lo,x.rest,x.rep,x.frs,x.frm⟩
theorem Ev.tok{C l ρ H s} {W:Addr→Prop}{t:Nat}(x:St C l ρ H s):Ev C l W ρ s ρ H { s with toks:=t }:=⟨x.tok,⟨[],by simp,fun _ h=>nomatch h⟩,bt.refl ..⟩

section
variable {C:Cx}{d:Nat}{sc:Scope}

noncomputable def fC(v:V):FE:=fun _ H=>.ok v H
theorem vi{k pos}:bg C d sc (.Constant .none k pos) (fC .none):=by
 intro A env l m ρ H s Q E _ _ _ _ st p
 exact wpAny_pure (p ρ _ s (.refl st) .none)
theorem u9{k pos b}:bg C d sc (.Constant (.bool b) k pos) (fC (.bool b)):=by
 intro A env l m ρ H s Q E _ _ _ _ st p
 exact wpAny_pure (p ρ _ s (.refl st) (.bool b))
theorem xm{k pos i}:bg C d sc (.Constant (.int i) k pos) (fC (.int i)):=by
 intro A env l m ρ H s Q E _ _ _ _ st p
 exact wpAny_mkInt (p ρ _ _ (.tok st) (.int i _))
theorem xt{k pos x}:bg C d sc (.Constant (.str x) k pos) (fC (.str x)):=by
 intro A env l m ρ H s Q E _ _ _ _ st p
 exact wpAny_mkText (p ρ _ _ (.tok st) (.str x _))

noncomputable def ae(x:Str):FE:=fun m H=>match m.lookup x with
 | some v=>.ok v H
 | none=>.bad
noncomputable def qD(sc:Scope) (x:Str):Bool:=!(x == ("__debug__":Str)) && !(x == ("__classdict__":Str)) && (match sc.names.lookup x with|some .local=>true|some .cell=>true|some .free=>true|_=>false)
theorem wQ{A:Around}{env:Env}{l:List Env}{m:Fm}{ρ:Rho}{H:Hp}{s:Shared}{Q E:Value→Shared→Prop}{x:Str}{f':Option Addr}(hx:qD sc x=true) (he:env.scope=sc) (fr:FrOk C env l m ρ s.heap) (st:St C l ρ H s)
  (p:aJ C l f' ρ s Q E (ae x m H)):wpAny (model C.prog C.w) A (loadName env x) Q E s:=by
 subst he
 unfold ae at p
 cases hm:m.lookup x with
 | none=>rw[hm]at p;exact p.elim
 | some v=>
  rw[hm]at p
  unfold qD at hx
  simp only[Bool.and_eq_true,Bool.not_eq_true']at hx
  refine byC fun kq=>?_
  obtain⟨⟨_,hcd⟩,hx⟩:=hx
  refine kq ?_;try clear kq
  cases hk:env.scope.names.lookup x with
  | none=>rw[hk]at hx;cases hx
  | some k=>
   rw[hk]at hx
   cases k with
   | «local»=>
    refine byC fun kq=>?_
    obtain⟨mm,hn,hm'⟩:=fr.loc
    obtain⟨y,hy,r⟩:=hm' x v hm hk
    refine kq ?_;try clear kq
    exact wpAny_loadName_local fr.kind hk hn hy (p ρ _ s (.refl st) r)
   | cell=>
    refine byC fun kq=>?_
    obtain⟨c,y,hc,ic,r⟩:=fr.cel x v hm (.inl hk)
    refine kq ?_;try clear kq
    exact wpAny_loadName_cell fr.kind hk hc ic (p ρ _ s (.refl st) r)
   | free=>
    refine byC fun kq=>?_
    obtain⟨c,y,hc,ic,r⟩:=fr.cel x v hm (.inr hk)
    refine kq ?_;try clear kq
    exact wpAny_loadName_free fr.kind hk hc ic (p ρ _ s (.refl st) r) hcd
   | _=>cases hx
theorem xw{x pos} (hx:qD sc x=true):bg C d sc (.Name x pos) (ae x):=by
 intro A env l m ρ H s Q E _ _ he fr st p
 refine wpAny_Name (wQ hx he fr st p) ?_
 unfold qD at hx
 simp only[Bool.and_eq_true,Bool.not_eq_true']at hx
 exact hx.1.1

noncomputable def eI(sc:Scope) (x:Str):Bool:=!(x == ("__debug__":Str)) && (match sc.names.lookup x with|some .globalImplicit=>true|_=>false)
theorem gO{A:Around}{env:Env}{l:List Env}{m:Fm}{ρ:Rho}{H:Hp}{s:Shared}{Q E:Value→Shared→Prop}{x:Str}{pos:Pos}{y:Value}(O:C.Ok) (hx:eI sc x=true) (hy:C.mg x=some y) (he:env.scope=sc) (fr:FrOk C env l m ρ s.heap) (st:St C l ρ H s)
  (p:Q y s):wpAny (model C.prog C.w) A (eval (.Name x pos) env) Q E s:=by
 subst he
 unfold eI at hx
 simp only[Bool.and_eq_true,Bool.not_eq_true']at hx
 refine byC fun kq=>?_
 obtain⟨hd,hx⟩:=hx
 refine kq ?_;try clear kq
 refine wpAny_Name ?_ hd
 have hk:env.kindOf x=some .globalImplicit:=by
  unfold Env.kindOf
  cases q:env.scope.names.lookup x with
  | none=>rw[q]at hx;cases hx
  | some k=>rw[q]at hx;cases k<;>first|rfl|cases hx
 rw[loadName_read fr.kind hk]
 exact Calls.loadGlobal_global (mg:=C.mg) (by rw[fr.glob];exact O.g.keeps st.old) hy p
theorem tM{A:Around}{env:Env}{l:List Env}{m:Fm}{ρ:Rho}{H:Hp}{s:Shared}{Q E:Value→Shared→Prop}{x:Str}{pos:Pos}{y:Value}(O:C.Ok) (hx:eI sc x=true) (hn:C.mg x=none) (hy:C.mb x=some y) (he:env.scope=sc) (fr:FrOk C env l m ρ s.heap) (st:St C l ρ H s)
  (p:Q y s):wpAny (model C.prog C.w) A (eval (.Name x pos) env) Q E s:=by
 subst he
 unfold eI at hx
 simp only[Bool.and_eq_true,Bool.not_eq_true']at hx
 refine byC fun kq=>?_
 obtain⟨hd,hx⟩:=hx
 refine kq ?_;try clear kq
 refine wpAny_Name ?_ hd
 have hk:env.kindOf x=some .globalImplicit:=by
  unfold Env.kindOf
  cases q:env.scope.names.lookup x with
  | none=>rw[q]at hx;cases hx
  | some k=>rw[q]at hx;cases k<;>first|rfl|cases hx
 rw[loadName_read fr.kind hk]
 exact Calls.loadGlobal_builtin (mg:=C.mg) (mb:=C.mb) (by rw[fr.glob];exact O.g.keeps st.old) hn (by rw[fr.bui];exact O.b.keeps st.old) hy p
noncomputable def nD(C:Cx) (x:Str) (v:V):Prop:=∃ y,C.mg x=some y∧∀ (ρ:Rho) h,(∀ p∈ρ,ow C.h0 p.1∧ow C.h0 p.2)→(∀ b o,C.h0.get? b=some o→h.get? b=some o)→RepV ρ h v y
theorem vg{x pos v} (O:C.Ok) (hx:eI sc x=true) (g:nD C x v):bg C d sc (.Name x pos) (fC v):=by
 intro A env l m ρ H s Q E _ _ he fr st p
 refine byC fun kq=>?_
 obtain⟨y,hy,r⟩:=g
 refine kq ?_;try clear kq
 exact gO O hx hy he fr st (p ρ _ s (.refl st) (r _ _ st.hi st.old))

noncomputable def ao:Fm→Hp→Out (List V):=fun _ H=>.ok [] H
noncomputable def ad(f:FE) (g:Fm→Hp→Out (List V)):Fm→Hp→Out (List V):=fun m H=>(f m H).bind fun v H=>(g m H).bind fun vs H=>.ok (v::vs) H
theorem rn:ku C d sc [] ao:=by
 intro A env l m ρ H s Q E pos _ _ _ _ st p
 exact wpAny_pure (p ρ _ s (.refl st) .nil)
noncomputable def noStar:Expr→Bool
 | .Starred ..=>false
 | _=>true
theorem jw{e:Expr}{r:List Expr}{env:Env}(h:noStar e=true):starEach (e::r) env=(false,eval e env)::starEach r env:=by
 cases e<;>first|rfl|cases h
theorem n8{e r f g} (he:noStar e=true) (h1:bg C d sc e f) (h2:ku C d sc r g):ku C d sc (e::r) (ad f g):=by
 intro A env l m ρ H s Q E pos hb ha hs fr st p
 rw[jw he]
 show wpAny _ _ (do let v ← eval e env;let here ← pure [v];return here++(← holding here (spliced (backTo pos (starEach r env))))) Q E s
 refine wpAny_bind (h1 A env l m ρ H s _ E hb ha hs fr st (dW.bind p fun v H1 ρ1 y s1 _ e1 r1 p1=>?_))
 refine wpAny_bind (wpAny_pure (wpAny_bind (wpAny_holding (h2 A env l m ρ1 H1 s1 _ E pos hb ha hs (fr.ev st e1) e1.st (dW.bindL p1 fun vs H2 ρ2 ys s2 _ e2 r2 p2=>?_)))))
 exact wpAny_pure (p2 ρ2 _ s2 (.refl e2.st) (.cons (r1.ev0 e1.st e2) r2))

theorem bt.push{W X:Addr→Prop}(h:Heap) (o:Obj):bt W X h (h.push o):=
 ⟨by rw[Heap.size_push];omega,fun _ o' e _=>⟨o'.slots,Heap.get?_push_of_some _ e,fun _=>rfl⟩⟩
theorem Rep.keepNo{C ρ H h h'} {X:Addr→Prop}(R:Rep C ρ H h) (k:bt No X h h') (hx:∀ b,X b→¬bG ρ b):Rep C ρ H h':=by
 refine⟨R.len,fun i o p ho hp=>?_,R.apart⟩
 have nt:∀ b,No b→¬bG ρ b→NT h b:=fun _ h=>h.elim
 have m1:bG ρ p.1:=⟨p,List.mem_of_getElem? hp,.inl rfl⟩
 have m2:bG ρ p.2:=⟨p,List.mem_of_getElem? hp,.inr rfl⟩
 have ex:∀ {b o},bG ρ b→h.get? b=some o→h'.get? b=some o:=fun m g=>k.exact g id fun x=>hx _ x m
 have r:=R.obj i o p ho hp
 cases o with
 | list xs=>
  refine byC fun kq=>?_
  obtain⟨e,n,items,sl,g,rs⟩:=r
  refine kq ?_;try clear kq
  exact⟨e,n,items,sl,ex m1 g,rs.keep k nt (fun _ _ z=>z) fun _ _ z=>z⟩
 | dictS kvs=>
  refine byC fun kq=>?_
  obtain⟨e,vs,⟨o,es,ep,g,x⟩,rs⟩:=r
  refine kq ?_;try clear kq
  exact⟨e,vs,⟨o,es,ep,ex m1 g,x⟩,rs.keep k nt (fun _ _ z=>z) fun _ _ z=>z⟩
 | dictI kvs=>
  refine byC fun kq=>?_
  obtain⟨e,vs,⟨o,es,ep,g,x⟩,rs⟩:=r
  refine kq ?_;try clear kq
  exact⟨e,vs,⟨o,es,ep,ex m1 g,x⟩,rs.keep k nt (fun _ _ z=>z) fun _ _ z=>z⟩
 | dictT kvs=>
  refine byC fun kq=>?_
  obtain⟨e,o,es,ep,xs,g,x,ks,rs⟩:=r
  refine kq ?_;try clear kq
  exact⟨e,o,es,ep,xs,ex m1 g,x,fun y hy=>(ks y hy).keep k nt (fun _ _ z=>z) fun _ _ z=>z,rs.keep k nt (fun _ _ z=>z) fun _ _ z=>z⟩
 | opq=>
  refine byC fun kq=>?_
  obtain⟨e,o,g,x⟩:=r
  refine kq ?_;try clear kq
  exact⟨e,o,ex m1 g,x⟩
 | frz o xs=>
  refine byC fun kq=>?_
  obtain⟨e,g,items,n,c,dd,rs⟩:=r
  refine kq ?_;try clear kq
  exact⟨e,ex m1 g,items,n,c,dd,rs.keep k nt (fun _ _ z=>z) fun _ _ z=>z⟩
 | inst K fs=>
  refine byC fun kq=>?_
  obtain⟨⟨sl,g⟩,od,es,n,gd,hd,sk,sz,nm⟩:=r
  refine kq ?_;try clear kq
  exact⟨⟨sl,ex m1 g⟩,od,es,n,ex m2 gd,hd,sk,sz,fun x=>⟨fun v hv=>let ⟨y,hy,r⟩:=(nm x).1 v hv;⟨y,hy,r.keep k nt (fun _ _ z=>z) fun _ _ z=>z⟩,(nm x).2⟩⟩
theorem Ev.keepNo{C l ρ H} {s s':Shared}{W:Addr→Prop}(st:St C l ρ H s) (k:bt No (dA l) s.heap s'.heap) (hr:s'.gens=s.gens∧s'.drawn=s.drawn∧s'.os=s.os):Ev C l W ρ s ρ H s':=by
 have hf:s'.heap.FunFrames C.h0 l:=st.frs.of_keeps fun b o g hd=>let ⟨sl,g',_⟩:=k.2 b o g id;⟨_,g',rfl⟩
 refine⟨⟨fun b o e=>?_,st.hi,CX st.lo k.1,⟨hr.1.trans st.rest.1,hr.2.1.trans st.rest.2.1,hr.2.2.trans st.rest.2.2⟩,st.rep.keepNo k st.frm,hf,st.frm⟩,⟨[],by simp,fun _ h=>nomatch h⟩,k.mono fun _ h=>h.elim⟩
 refine k.exact (st.old b o e) id fun x=>?_
 refine byC fun kq=>?_
 obtain⟨env,he,hL⟩:=x
 refine kq ?_;try clear kq
 have:=(st.frs.mem (List.mem_filterMap.mpr ⟨env,he,hL⟩)).1
 rw[this]at e;cases e

theorem im.lt{C ρ h o a d} (r:im C ρ h o a d):a < h.objs.size∧d < h.objs.size:=by
 cases o with
 | list xs=>obtain⟨rfl,_,_,_,g,_⟩:=r;exact⟨Heap.lt_size g,Heap.lt_size g⟩
 | dictS kvs=>obtain⟨rfl,_,⟨_,_,_,g,_⟩,_⟩:=r;exact⟨Heap.lt_size g,Heap.lt_size g⟩
 | dictI kvs=>obtain⟨rfl,_,⟨_,_,_,g,_⟩,_⟩:=r;exact⟨Heap.lt_size g,Heap.lt_size g⟩
 | dictT kvs=>obtain⟨rfl,_,_,_,_,g,_⟩:=r;exact⟨Heap.lt_size g,Heap.lt_size g⟩
 | opq=>obtain⟨rfl,_,g,_⟩:=r;exact⟨Heap.lt_size g,Heap.lt_size g⟩
 | frz o xs=>obtain⟨rfl,g,_⟩:=r;exact⟨Heap.lt_size g,Heap.lt_size g⟩
 | inst K fs=>obtain⟨⟨_,g⟩,_,_,_,gd,_⟩:=r;exact⟨Heap.lt_size g,Heap.lt_size gd⟩
theorem St.has{C l ρ H s} (st:St C l ρ H s) {p:Addr × Addr}{i:Nat}(hp:ρ[i]? = some p):∃ o,H[i]? = some o∧im C ρ s.heap o p.1 p.2:=by
 have hlt:i < H.length:=by rw[← st.rep.len];exact(List.getElem?_eq_some_iff.mp hp).1
 exact⟨_,C0 hlt,st.rep.obj i _ p (C0 hlt) hp⟩
theorem St.muts_lt{C l ρ H s} (st:St C l ρ H s) {b:Addr}(m:bG ρ b):b < s.heap.objs.size:=by
 refine byC fun kq=>?_
 obtain⟨p,hp,e⟩:=m
 obtain⟨i,hi⟩:=List.getElem?_of_mem hp
 obtain⟨o,_,r⟩:=st.has hi
 refine kq ?_;try clear kq
 rcases e with rfl|rfl
 ·exact r.lt.1
 ·exact r.lt.2
theorem St.fresh{C l ρ H s} (st:St C l ρ H s) {b:Addr}(hb:s.heap.objs.size≤b):¬bG ρ b:=fun m=>absurd (st.muts_lt m) (Nat.not_lt.mpr hb)

noncomputable def bM(g:Fm→Hp→Out (List V)):FE:=fun m H=>(g m H).bind fun vs H=>if vs.length≤1000000 then .ok (.tup vs) H else .bad
theorem sU{es k pos g} (h:ku C d sc es g):bg C d sc (.Tuple es k pos) (bM g):=by
 intro A env l m ρ H s Q E hb ha hs fr st p
 refine Tuple_ (h A env l m ρ H s _ E pos hb ha hs fr st (aJ.bindL p fun vs H1 ρ1 ys s1 _ e1 r1 p1=>?_))
 by_cases hl:vs.length≤1000000
 ·rw[if_pos hl]at p1
  have hy:ys.length≤1000000:=by rw[← r1.length];exact hl
  refine wpAny_newObj_type (p1 ρ1 _ _ (.keepNo e1.st (bt.push ..) ⟨rfl,rfl,rfl⟩) ?_) (by show ys.toArray.size≤sizeLine;rw[List.size_toArray,sizeLine_eq];omega)
  refine .tup (e1.st.fresh (Nat.le_refl _)) (Heap.get?_push_size _ rfl) rfl rfl ?_
  exact r1.keep (bt.push (W:=No) (X:=No) _ _) (fun _ h=>h.elim) (fun _ _ z=>z) fun _ _ z=>z
 ·rw[if_neg hl]at p1;exact p1.elim
end

theorem pO.keep{ρ ρ':Rho}{h h':Heap}{W X:Addr→Prop}{fs mm} (k:bt W X h h') (nt:∀ b,W b→¬bG ρ b→NT h b) (pre:∀ (l:Nat) (p:Addr × Addr),ρ[l]? = some p→ρ'[l]? = some p) (nm:∀ b,b < h.objs.size→¬bG ρ b→¬bG ρ' b) (n:pO ρ h fs mm):pO ρ' h' fs mm:=
 fun x=>⟨fun v hv=>let ⟨y,hy,r⟩:=(n x).1 v hv;⟨y,hy,r.keep k nt pre nm⟩,(n x).2⟩

theorem im.keep{C:Cx}{ρ ρ':Rho}{h h':Heap}{W X:Addr→Prop}{o a d} (k:bt W X h h') (nt:∀ b,W b→¬bG ρ b→NT h b) (pre:∀ (l:Nat) (p:Addr × Addr),ρ[l]? = some p→ρ'[l]? = some p) (nm:∀ b,b < h.objs.size→¬bG ρ b→¬bG ρ' b)
  (ha:¬W a∧¬X a) (hd:¬W d∧¬X d) (r:im C ρ h o a d):im C ρ' h' o a d:=by
 cases o with
 | list xs=>
  refine byC fun kq=>?_
  obtain⟨e,n,items,sl,g,rs⟩:=r
  refine kq ?_;try clear kq
  exact⟨e,n,items,sl,k.exact g ha.1 ha.2,rs.keep k nt pre nm⟩
 | dictS kvs=>
  refine byC fun kq=>?_
  obtain⟨e,vs,⟨o,es,ep,g,x⟩,rs⟩:=r
  refine kq ?_;try clear kq
  exact⟨e,vs,⟨o,es,ep,k.exact g ha.1 ha.2,x⟩,rs.keep k nt pre nm⟩
 | dictI kvs=>
  refine byC fun kq=>?_
  obtain⟨e,vs,⟨o,es,ep,g,x⟩,rs⟩:=r
  refine kq ?_;try clear kq
  exact⟨e,vs,⟨o,es,ep,k.exact g ha.1 ha.2,x⟩,rs.keep k nt pre nm⟩
 | dictT kvs=>
  refine byC fun kq=>?_
  obtain⟨e,o,es,ep,xs,g,x,ks,rs⟩:=r
  refine kq ?_;try clear kq
  exact⟨e,o,es,ep,xs,k.exact g ha.1 ha.2,x,fun y hy=>(ks y hy).keep k nt pre nm,rs.keep k nt pre nm⟩
 | opq=>
  refine byC fun kq=>?_
  obtain⟨e,o,g,x⟩:=r
  refine kq ?_;try clear kq
  exact⟨e,o,k.exact g ha.1 ha.2,x⟩
 | frz o xs=>
  refine byC fun kq=>?_
  obtain⟨e,g,items,n,c,dd,rs⟩:=r
  refine kq ?_;try clear kq
  exact⟨e,k.exact g ha.1 ha.2,items,n,c,dd,rs.keep k nt pre nm⟩
 | inst K fs=>
  refine byC fun kq=>?_
  obtain⟨⟨sl,g⟩,od,es,n,gd,hdd,sk,sz,nms⟩:=r
  refine kq ?_;try clear kq
  exact⟨⟨sl,k.exact g ha.1 ha.2⟩,od,es,n,k.exact gd hd.1 hd.2,hdd,sk,sz,nms.keep k nt pre nm⟩

theorem St.at{C l ρ H s} (st:St C l ρ H s) {o:AObj}{i:Nat}(ho:H[i]? = some o):∃ p,ρ[i]? = some p∧im C ρ s.heap o p.1 p.2:=by
 have hlt:i < ρ.length:=by rw[st.rep.len];exact(List.getElem?_eq_some_iff.mp ho).1
 exact⟨_,C0 hlt,st.rep.obj i _ _ ho (C0 hlt)⟩
theorem St.fr_lt{C l ρ H s} (st:St C l ρ H s) {b:Addr}(x:dA l b):C.h0.get? b=none∧b < s.heap.objs.size:=by
 refine byC fun kq=>?_
 obtain⟨env,he,hL⟩:=x
 obtain⟨h1,o,h2,_⟩:=st.frs.mem (List.mem_filterMap.mpr ⟨env,he,hL⟩)
 refine kq ?_;try clear kq
 exact⟨h1,Heap.lt_size h2⟩

set_option tactic.hygienic true in
theorem Ev.grow{C l ρ H} {s s':Shared}{W:Addr→Prop}{o:AObj}{p:Addr × Addr}(st:St C l ρ H s) (k:bt No (dA l) s.heap s'.heap) (hr:s'.gens=s.gens∧s'.drawn=s.drawn∧s'.os=s.os)
  (hp:s.heap.objs.size≤p.1∧s.heap.objs.size≤p.2) (r:im C (ρ++[p]) s'.heap o p.1 p.2):Ev C l W ρ s (ρ++[p]) (H++[o]) s':=by
 have pre:∀ (i:Nat) (q:Addr × Addr),ρ[i]? = some q→(ρ++[p])[i]? = some q:=fun i q e=>by rw[List.getElem?_append_left (List.getElem?_eq_some_iff.mp e).1];exact e
 have x:=Ev.keepNo (W:=W) st k hr
 have nmG:∀ b,b < s.heap.objs.size→¬bG ρ b→¬bG (ρ++[p]) b:=fun b hb n q=>by
  rcases dc.mp q with q|⟨q,hq,z⟩
  ·exact n q
  ·rw[List.mem_singleton.mp hq]at z
   rcases z with rfl|rfl
   ·exact absurd hb (Nat.not_lt.mpr hp.1)
   ·exact absurd hb (Nat.not_lt.mpr hp.2)
 have lt:∀ {i:Nat}{q:Addr × Addr},ρ[i]? = some q→q.1 < s.heap.objs.size∧q.2 < s.heap.objs.size:=fun hq=>let ⟨_,_,r⟩:=st.has hq;r.lt
 have at_:∀ {i:Nat}{q:Addr × Addr},(ρ++[p])[i]? = some q→(ρ[i]? = some q)∨(i=ρ.length∧q=p):=fun {i q} e=>by
  rw[List.getElem?_append]at e
  split at e
  ·exact .inl e
  ·rename_i hi
   have hlt:=(List.getElem?_eq_some_iff.mp e).1
   simp only[List.length_singleton]at hlt
   have:i=ρ.length:=Nat.le_antisymm (Nat.sub_eq_zero_iff_le.mp (Nat.lt_one_iff.mp hlt)) (Nat.not_lt.mp hi)
   subst this
   simp at e
   exact .inr ⟨rfl,e.symm⟩
 refine⟨⟨x.st.old,fun q hq=>?_,x.st.lo,x.st.rest,⟨by simp[st.rep.len],fun i o' q ho hq=>?_,fun i j q q' hij hq hq'=>?_⟩,x.st.frs,fun b hb hm=>?_⟩,⟨[p],rfl,fun q hq=>by rw[List.mem_singleton.mp hq];exact hp⟩,x.keep⟩
 ·rcases List.mem_append.mp hq with hq|hq
  ·exact st.hi q hq
  ·rw[List.mem_singleton.mp hq];exact⟨.ge (CX st.lo hp.1),.ge (CX st.lo hp.2)⟩
 ·rcases at_ hq with hq|⟨rfl,rfl⟩
  ·have hlt:i < H.length:=by rw[← st.rep.len];exact(List.getElem?_eq_some_iff.mp hq).1
   rw[List.getElem?_append_left hlt]at ho
   exact(st.rep.obj i o' q ho hq).keep k (fun _ h=>h.elim) pre nmG ⟨id,fun z=>st.frm _ z ⟨q,List.mem_of_getElem? hq,.inl rfl⟩⟩ ⟨id,fun z=>st.frm _ z ⟨q,List.mem_of_getElem? hq,.inr rfl⟩⟩
  ·rw[st.rep.len]at ho
   simp at ho
   subst ho
   exact r
 ·rcases at_ hq with h1|⟨rfl,rfl⟩
  ·rcases at_ hq' with h2|⟨rfl,e2⟩
   ·exact st.rep.apart i j q q' hij h1 h2
   ·subst e2;have:=lt h1;exact⟨Nat.ne_of_lt (Dd this.1 hp.1),Nat.ne_of_lt (Dd this.1 hp.2),Nat.ne_of_lt (Dd this.2 hp.1),Nat.ne_of_lt (Dd this.2 hp.2)⟩
  ·rcases at_ hq' with hq'|⟨rfl,_⟩
   ·have:=lt hq';exact⟨Nat.ne_of_gt (Dd this.1 hp.1),Nat.ne_of_gt (Dd this.2 hp.1),Nat.ne_of_gt (Dd this.1 hp.2),Nat.ne_of_gt (Dd this.2 hp.2)⟩
   ·exact absurd rfl hij
 ·rcases dc.mp hm with hm|⟨q,hq,e⟩
  ·exact st.frm b hb hm
  ·rw[List.mem_singleton.mp hq]at e
   have:=(st.fr_lt hb).2
   rcases e with rfl|rfl
   ·exact absurd this (Nat.not_lt.mpr hp.1)
   ·exact absurd this (Nat.not_lt.mpr hp.2)

theorem gh{h h' fq:Heap}{l:List Env}:h.FunFrames fq l→(∀ b o,dA l b→h.get? b=some o→∃ o',h'.get? b=some o'∧o'.data=o.data)→h'.FunFrames fq l:=by
 induction l with
 | nil=>intro _ _;exact trivial
 | cons env r ih=>
  intro q k
  refine byC fun kq=>?_
  obtain⟨hk,⟨L,o,hf,hn,ho,hd⟩,hr⟩:=q
  obtain⟨o',ho',e⟩:=k L o ⟨env,.head _,hf⟩ ho
  refine kq ?_;try clear kq
  exact⟨hk,⟨L,o',hf,hn,ho',fun vs=>e ▸ hd vs⟩,ih hr fun b o z g=>k b o (z.elim fun env' z=>⟨env',.tail _ z.1,z.2⟩) g⟩

theorem bt.sameBut{X:Addr→Prop}{a:Addr}{h h':Heap}(x:Heap.SameBut a h h'):bt (fun b=>b=a) X h h':=
 ⟨Nat.le_of_eq x.1.symm,fun b o e n=>⟨o.slots,(x.2 b n).trans e,fun _=>rfl⟩⟩

theorem Ev.put{C l ρ H} {s s':Shared}{W:Addr→Prop}{i:Nat}{o:AObj}{p:Addr × Addr}{a:Addr}(st:St C l ρ H s) (hp:ρ[i]? = some p) (ha:a=p.1∨a=p.2) (k:bt (fun b=>b=a) (dA l) s.heap s'.heap)
  (hr:s'.gens=s.gens∧s'.drawn=s.drawn∧s'.os=s.os) (r:im C ρ s'.heap o p.1 p.2):Ev C l W ρ s ρ (H.set i o) s':=by
 have hm:bG ρ a:=⟨p,List.mem_of_getElem? hp,ha⟩
 have nt:∀ b,b=a→¬bG ρ b→NT s.heap b:=fun b e n=>absurd (e ▸ hm) n
 refine⟨⟨fun b o e=>?_,st.hi,CX st.lo k.1,⟨hr.1.trans st.rest.1,hr.2.1.trans st.rest.2.1,hr.2.2.trans st.rest.2.2⟩,⟨by simp[st.rep.len],fun j o' q ho hq=>?_,st.rep.apart⟩,?_,st.frm⟩,⟨[],by simp,fun _ h=>nomatch h⟩,k.mono fun b e=>.inl (e ▸ hm)⟩
 ·refine k.exact (st.old b o e) (fun z=>?_) fun x=>?_
  ·have:=st.hi p (List.mem_of_getElem? hp)
   rcases ha with ha|ha<;>(rw[z,ha]at e)
   ·exact this.1.no e
   ·exact this.2.no e
  ·have:=(st.fr_lt x).1
   rw[this]at e;cases e
 ·by_cases hj:i=j
  ·subst hj
   have hlt:i < H.length:=by rw[← st.rep.len];exact(List.getElem?_eq_some_iff.mp hq).1
   rw[List.getElem?_set_self hlt]at ho
   cases ho
   rw[hp]at hq;cases hq
   exact r
  ·rw[List.getElem?_set_ne hj]at ho
   have ap:=st.rep.apart i j p q hj hp hq
   have m1:¬dA l q.1:=fun z=>st.frm _ z ⟨q,List.mem_of_getElem? hq,.inl rfl⟩
   have m2:¬dA l q.2:=fun z=>st.frm _ z ⟨q,List.mem_of_getElem? hq,.inr rfl⟩
   refine(st.rep.obj j o' q ho hq).keep k nt (fun _ _ z=>z) (fun _ _ z=>z) ⟨fun z=>?_,m1⟩ ⟨fun z=>?_,m2⟩
   ·rcases ha with ha|ha
    ·exact ap.1 (ha.symm.trans z.symm)
    ·exact ap.2.2.1 (ha.symm.trans z.symm)
   ·rcases ha with ha|ha
    ·exact ap.2.1 (ha.symm.trans z.symm)
    ·exact ap.2.2.2 (ha.symm.trans z.symm)
 ·refine gh st.frs fun b o hb g=>?_
  refine byC fun kq=>?_
  obtain⟨sl,g',_⟩:=k.2 b o g fun z=>st.frm b hb (z ▸ hm)
  refine kq ?_;try clear kq
  exact⟨_,g',rfl⟩

theorem dD{α:Type}{M:Model}{A:Around}{m:Sem α}{Q:α→Shared→Prop}{E:Value→Shared→Prop}{s:Shared}(h:∀ Q':α→Shared→Prop,(∀ v s',Q v s'→Q' v s')→wpAny M A m Q' E s):wpAny M A m Q E s:=h Q fun _ _ q=>q
theorem jP{α:Type}{M:Model}{A:Around}{m:Sem α}{Q:α→Shared→Prop}{E:Value→Shared→Prop}{s:Shared}(h:∀ E':Value→Shared→Prop,(∀ v s',E v s'→E' v s')→wpAny M A m Q E' s):wpAny M A m Q E s:=h E fun _ _ q=>q
theorem lv{α:Type}{M:Model}{A:Around}{vs:List Value}{m:Sem α}{Q:α→Shared→Prop}{E:Value→Shared→Prop}{s:Shared}(h:wpAny M A m Q E s):wpAny M A (m.keep vs) Q E s:=
 fun Γ p hΓ=>by rw[Sem.wp_keep];exact h Γ p hΓ
theorem tv{M:Model}{A:Around}{vs:List Value}{m:Sem Value}{Q:Value→Shared→Prop}{E:Value→Shared→Prop}{s:Shared}(h:wpAny M A m Q E s):wpAny M A (operate vs m) Q E s:=
 fun Γ p hΓ=>by rw[Sem.wp_operate];exact h Γ p hΓ

theorem hU:∀ {es:List Expr}{env:Env},es.all noStar=true→((starEach es env).any (·.1))=false∧(starEach es env).length=es.length
 | [],_,_=>⟨rfl,rfl⟩
 | e::r,env,h=>by
  rw[List.all_cons,Bool.and_eq_true]at h
  rw[jw h.1]
  refine byC fun kq=>?_
  obtain⟨a,b⟩:=hU (env:=env) h.2
  refine kq ?_;try clear kq
  exact⟨by simpa using a,by simp[b]⟩
theorem jy{pos:Pos}{ts:List (Bool × Sem Value)}:(backTo pos ts).any (·.1)=ts.any (·.1):=by
 unfold backTo
 rw[List.any_map]
 rfl

theorem oS{M:Model}{A:Around}{f:Value}{l:List (Bool × Sem Value)}{Q:Args→Shared→Prop}{E:Value→Shared→Prop}{s:Shared}(hl:l.any (·.1)=false)
  (h:wpAny M A (spliced l) (fun vs s1=>Q ⟨vs,[]⟩ s1) E s):wpAny M A (evalArgs f true l []) Q E s:=by
 unfold evalArgs
 dsimp only
 split
 ·simp at hl
 ·refine wpAny_bind (wpAny_mono h (fun vs s1 q=>?_) fun _ _ z=>z)
  refine wpAny_bind (wpAny_pure ?_)
  dsimp only
  refine wpAny_holding ?_
  rw[if_pos (by rfl)]
  refine wpAny_bind (wpAny_pure ?_)
  exact wpAny_bind (wpAny_pure (wpAny_pure q))

theorem d6{M:Model}{A:Around}{env:Env}{pos:Pos}{f:Value}{first:List Value}{es:List Expr}{h₀:Heap}{k:Keeper}{Q:Value→Shared→Prop}{E:Value→Shared→Prop}{s:Shared}(hs:es.all noStar=true) (hk:Looks M h₀ (keeperOf f) k)
  (h:wpAny M A (spliced (backTo pos (starEach es env))) (fun vs s1=>(∀ b o,h₀.get? b=some o→s1.heap.get? b=some o)∧wpAny M A (call f (first++vs) []) Q E s1) E s):
  wpAny M A (callWith pos f first (backTo pos (starEach es env)) []) Q E s:=by
 refine byC fun kq=>?_
 obtain⟨h1,h2⟩:=hU (env:=env) hs
 refine kq ?_;try clear kq
 unfold callWith
 refine wpAny_bind (wpAny_holding (oS (by rw[jy];exact h1) (wpAny_mono h (fun vs s1 hv=>?_) fun _ _ z=>z)))
 refine byC fun kq=>?_
 obtain⟨hold,hc⟩:=hv
 refine kq ?_;try clear kq
 refine wpAny_bind (wpAny_standAt ?_)
 have e2:((backTo pos (starEach es env)).any (·.1) || ([]:List (Option Str × Sem Value)).any (·.1.isNone))=false:=by rw[jy,h1];rfl
 dsimp only
 rw[e2]
 refine wpAny_bind (hk A _ E s1 hold ?_)
 have fin:∀ v s',Q v s'→wpAny M A (do holding [v] point;pure v) Q E s':=fun v s' q=>wpAny_bind (wpAny_holding (wpAny_point (wpAny_pure q)))
 have c:∀ t:Sem Value,wpAny M A t (fun v s'=>Q v s') E s1→wpAny M A (do let r ← t;holding [r] point;pure r) Q E s1:=fun t ht=>wpAny_bind (wpAny_mono ht fin fun _ _ z=>z)
 cases k with
 | frame=>
  dsimp only
  split
  ·exact c _ hc
  ·exact c _ (lv hc)
 | boundFrame=>
  dsimp only
  split
  ·exact c _ hc
  ·exact c _ (lv hc)
 | machine=>exact c _ hc
 | caller=>exact c _ (tv hc)

noncomputable def fB(C:Cx) (sc:Scope) (x:Str) (f:Value):Prop:=eI sc x=true∧(C.mg x=some f∨(C.mg x=none∧C.mb x=some f))
noncomputable def lS(C:Cx) (f:Value):Prop:=∃ k,Looks (model C.prog C.w) C.h0 (keeperOf f) k
theorem ay{C i}:lS C (.builtin i):=⟨.machine,Looks.of_pure rfl⟩
theorem fN{C i}:lS C (.type i):=⟨.machine,Looks.of_pure rfl⟩

section
variable {C:Cx}{d:Nat}{sc:Scope}

noncomputable def aG(F:List V→Hp→Out V) (g:Fm→Hp→Out (List V)):FE:=fun m H=>(g m H).bind F
theorem vd{x np es pos f F g} (O:C.Ok) (hn:fB C sc x f) (hk:lS C f) (hs:es.all noStar=true) (hF:jS C d f F) (h:ku C d sc es g):bg C d sc (.Call (.Name x np) es [] pos) (aG F g):=by
 intro A env l m ρ H s Q E hb ha he fr st p
 refine wpAny_Call_ofName ?_
 have rest:wpAny (model C.prog C.w) A (callWith pos f [] (backTo pos (starEach es env)) (backToKw pos (keywordEach [] env))) Q E s:=by
  refine byC fun kq=>?_
  obtain⟨k,hk⟩:=hk
  refine kq ?_;try clear kq
  refine d6 hs hk (h A env l m ρ H s _ E pos hb ha he fr st (aJ.bindL p fun vs H1 ρ1 ys s1 _ e1 r1 p1=>?_))
  exact⟨e1.st.old,hF A l vs ys ρ1 H1 s1 Q E hb ha e1.st r1 p1.any⟩
 obtain⟨hg,hn|⟨h1,h2⟩⟩:=hn
 ·exact gO O hg hn he fr st rest
 ·exact tM O hg h1 h2 he fr st rest

noncomputable def rM(C:Cx) (d:Nat) (name:Str) (K:AObj→Bool) (f:Value):Prop:=
 ∀ (A:Around) (l:List Env) (ρ:Rho) (H:Hp) (s:Shared) (i:Nat) (o:AObj) (a:Addr) (pl:Sem Bool) (Q:Value × List Value→Shared→Prop) (E:Value→Shared→Prop),
  Bud d A→A.frames=some l→St C l ρ H s→H[i]? = some o→K o=true→(∃ d,ρ[i]? = some (a,d))→Q (f,[.ref a]) s→wpAny (model C.prog C.w) A (getMethod (.ref a) name pl) Q E s
noncomputable def aN(K:AObj→Bool) (F:List V→Hp→Out V) (fo:FE) (g:Fm→Hp→Out (List V)):FE:=fun m H=>(fo m H).bind fun ov H1=>match ov with
 | .ref i=>(match H1[i]? with
  | some o=>if K o=true then(g m H1).bind fun vs H2=>F (ov::vs) H2 else .bad
  | none=>.bad)
 | _=>.bad
set_option tactic.hygienic true in
theorem n7{o name apos es pos K f F fo g} (hsim:bg C d sc o fo) (hM:rM C d name K f) (hk:lS C f) (hs:es.all noStar=true) (hF:jS C d f F) (h:ku C d sc es g)
  (hbase:∀ env,attributeBase o name env (eval o env)=eval o env) (hfew:decide (es.length < 30)=true) (hline:(apos.endLine == pos.line)=true):bg C d sc (.Call (.Attribute o name apos) es [] pos) (aN K F fo g):=by
 intro A env l m ρ H s Q E hb ha he fr st p
 rw[arm_eval_Call,hbase]
 refine wpAny_bind (hsim A env l m ρ H s _ E hb ha he fr st (aJ.bind p fun ov H1 ρ1 y s1 _ e1 r1 p1=>?_))
 refine wpAny_bind (wpAny_standAt ?_)
 cases r1 with
 | ref hp=>
  rename_i i a dd zz
  dsimp only at p1
  cases ho:H1[i]? with
  | none=>rw[ho]at p1;exact p1.elim
  | some ob=>
   rw[ho]at p1
   dsimp only at p1
   by_cases hK:K ob=true
   ·rw[if_pos hK]at p1
    unfold methodCall
    refine byC fun kq=>?_
    obtain⟨h1,h2⟩:=hU (env:=env) hs
    refine kq ?_;try clear kq
    have few:methodCallForm (es.length + ([]:List Keyword).length) (backTo pos (starEach es env)) (backToKw pos (keywordEach [] env))=true:=by
     unfold methodCallForm
     have:(backTo pos (starEach es env)).all (fun x=>!x.1)=true:=by
      rw[List.all_eq_not_any_not]
      simp only[Bool.not_not]
      rw[jy,h1];rfl
     rw[this]
     simp only[List.length_nil,Nat.add_zero,Bool.true_and]
     show(true && decide (es.length + _ < 30))=true
     simp only[Bool.true_and]
     exact hfew
    rw[few]
    refine wpAny_bind (wpAny_holding ?_)
    unfold calleeOf
    rw[if_pos rfl]
    refine hM A l ρ1 H1 s1 i ob a _ _ E hb ha e1.st ho hK ⟨_,hp⟩ ?_
    have hpos:methodCallPos true o env apos pos=pure pos:=by
     unfold methodCallPos
     rw[hline];rfl
    refine wpAny_bind (wpAny_of_eq hpos ?_)
    refine byC fun kq=>?_
    obtain⟨k,hk⟩:=hk
    refine kq ?_;try clear kq
    refine d6 hs hk (h A env l m ρ1 H1 s1 _ E pos hb ha he (fr.ev st e1) e1.st (aJ.bindL p1 fun vs H2 ρ2 ys s2 _ e2 r2 p2=>?_))
    exact⟨e2.st.old,hF A l _ _ ρ2 H2 s2 Q E hb ha e2.st (.cons (.ref (e2.look _ _ hp)) r2) p2.any⟩
   ·rw[if_neg hK]at p1;exact p1.elim
 | _=>exact p1.elim
end

theorem sp{ρ h v y} (r:RepV ρ h v y):handedIn y=true:=by cases r<;>rfl

theorem mL{name:Str}{o:Obj}{es:Array DictEntry}{n:Nat}(hd:o.data=.dict es n) (hk:StrKeys es):lookIn name o=some (nsFind es name):=by
 unfold lookIn
 rw[hd]
 dsimp only
 have e1:nsFind es name=(es.toList.find? (·.key.isStr name)).map (·.val):=by
  unfold nsFind findBy
  rw[Array.find?_toList]
 rw[e1]
 cases q:es.toList.find? (·.key.isStr name)with
 | some e=>rfl
 | none=>
  dsimp only
  rw[if_neg]
  ·rfl
  ·intro hx
   refine byC fun kq=>?_
   obtain⟨e,he,hr⟩:=List.any_eq_true.mp hx
   obtain⟨x,t,hk'⟩:=hk e (Array.mem_toList_iff.mp he)
   refine kq ?_;try clear kq
   unfold DictEntry.refKey at hr
   rw[hk']at hr
   cases hr

theorem nQ{M:Model}{A:Around}{E:Value→Shared→Prop}{s:Shared}{d:Addr}{o:Obj}{es:Array DictEntry}{ep:Nat}{name:Str}{v:Value}{Q:Unit→Shared→Prop}
  (ho:s.heap.get? d=some o) (hd:o.data=.dict es ep) (hk:StrKeys es)
  (h:∀ h' o' es' ep',h'.get? d=some o'→o'.data=.dict es' ep'→StrKeys es'→es'.size≤es.size + 1→(∀ x,nsFind es' x=if x=name then some v else nsFind es x)→Heap.SameBut d s.heap h'→Q () { s with heap:=h',toks:=s.toks + 1 }):
  wpAny M A (nsSet d name v) Q E s:=by
 intro Γ p hΓ
 simp only[nsSet,strHash,Sem.wp_bind',Sem.wp_cmd_ask,Sem.wp_pure',Sem.wp_cmd_mkText]
 rw[Sem.wp_loadPart_of M Γ _ p { s with toks:=s.toks + 1 } (o:=o) _ ho]
 have hany:es.any (·.refKey)=false:=by
  rw[Array.any_eq_false'];intro e he;obtain⟨n,t,h⟩:=hk e he;simp[DictEntry.refKey,h]
 simp only[hd,aRefKeyMayBeTheName_eq,aRefKeyMayBeTheNameByArray,hany,Bool.and_false,Bool.false_eq_true,if_false,Sem.wp_cmd_updatePart]
 refine byC fun kq=>?_
 obtain⟨c,dd,dt,sl⟩:=o
 refine kq ?_;try clear kq
 dsimp only at hd
 subst hd
 cases hi:es.findIdx? (·.key.isStr name)with
 | some i=>
  refine⟨by rw[ho];rfl,h _ _ _ _ (Heap.get?_update_self _ ho (by simp only[Obj.putName_eq,Obj.putNameByArray,hi];rfl)) (by simp only[Obj.putName_eq,Obj.putNameByArray,hi];rfl) (hk.modify i v) (by simp) (fun x=>?_) (Heap.SameBut.update ..)⟩
  exact findBy_modify (fun n v=>v.isStr n) Value.isStr_inj es name x v i hi
 | none=>
  refine⟨by rw[ho];rfl,h _ _ _ _ (Heap.get?_update_self _ ho (by simp only[Obj.putName_eq,Obj.putNameByArray,hi];rfl)) (by simp only[Obj.putName_eq,Obj.putNameByArray,hi];rfl) (hk.push _ _ _ _) (by simp) (fun x=>?_) (Heap.SameBut.update ..)⟩
  exact findBy_push (fun n v=>v.isStr n) es name x _ _ v (fun y=>by
   show(name == y)=decide (y=name)
   by_cases h:y=name
   ·subst h;simp
   ·have:¬name=y:=fun e=>h e.symm
    simp[h,this]) hi

structure ClsOk (C:Cx) (Kc:Addr):Prop where
 get:plainGet C.K Kc (CW "")=true
 dict:hasDictIn C.K Kc=true
 over:plainOver C.K Kc=true
 set:findIn C.K (.ref Kc) "__setattr__"=some (some (.builtin "object.__setattr__"))

theorem o4{C:Cx}{ρ h Kc fs a d} (r:im C ρ h (.inst Kc fs) a d):∃ sl o es n,PySem.W.InstAt h a ⟨.ref Kc,some d,.plain,sl⟩ Kc (some o)∧h.get? d=some o∧o.data=.dict es n∧StrKeys es∧es.size≤fs.length∧pO ρ h fs (nsFind es):=by
 refine byC fun kq=>?_
 obtain⟨⟨sl,g⟩,o,es,n,gd,hd,sk,sz,nm⟩:=r
 refine kq ?_;try clear kq
 exact⟨sl,o,es,n,⟨g,rfl,rfl,gd⟩,gd,hd,sk,sz,nm⟩

section
variable {C:Cx}{d:Nat}{sc:Scope}

noncomputable def a9(Kc:Addr) (name:Str) (f:FE):FE:=fun m H=>(f m H).bind fun v H=>match v with
 | .ref i=>(match H[i]? with
  | some (.inst c fs)=>if c=Kc then(match fs.lookup name with|some v=>.ok v H|none=>.bad)else .bad
  | _=>.bad)
 | _=>.bad
set_option tactic.hygienic true in
theorem u8{e name pos Kc f} (O:C.Ok) (hc:ClsOk C Kc) (hf:findIn C.K (.ref Kc) name=some none) (h:bg C d sc e f) (hbase:∀ env,attributeBase e name env (eval e env)=eval e env):
  bg C d sc (.Attribute e name pos) (a9 Kc name f):=by
 intro A env l m ρ H s Q E hb ha he fr st p
 refine Attribute_any_ ?_ (by
  show(do
   let o ← attributeBase e name env (eval e env)
   standAt pos.atName
   let r ← holding [o] (getAttr o name true)
   letTemporaryGo e o r
   pure r)=_
  rw[hbase])
 refine h A env l m ρ H s _ E hb ha he fr st (aJ.bind p fun v H1 ρ1 y s1 _ e1 r1 p1=>?_)
 cases r1 with
 | ref hp=>
  rename_i i a dd zz
  dsimp only at p1
  refine byC fun kq=>?_
  obtain⟨o,ho,ro⟩:=e1.st.has hp
  refine kq ?_;try clear kq
  rw[ho]at p1
  cases o with
  | inst c fs=>
   dsimp only at p1
   by_cases hcc:c=Kc
   ·rw[if_pos hcc]at p1
    subst hcc
    cases q:fs.lookup name with
    | none=>rw[q]at p1;exact p1.elim
    | some v=>
     rw[q]at p1
     refine byC fun kq=>?_
     obtain⟨sl,od,es,n,I,gd,hd,sk,sz,nm⟩:=o4 ro
     obtain⟨y,hy,ry⟩:=(nm name).1 v q
     refine kq ?_;try clear kq
     refine get_value (O.kin.keeps e1.st.old) I (plainGet_of hc.get).1 (findObj_own hc.dict hf rfl (by rw[mL hd sk,hy])) (sp ry) ?_
     exact p1 ρ1 y _ (.tok e1.st) ry
   ·rw[if_neg hcc]at p1;exact p1.elim
  | _=>exact p1.elim
 | _=>exact p1.elim

noncomputable def isI(Kc:Addr) (name:Str):AObj→Bool
 | .inst c fs=>c == Kc && (fs.lookup name).isNone
 | _=>false
theorem vr{name Kc f} (O:C.Ok) (hc:ClsOk C Kc) (hf:findIn C.K (.ref Kc) name=some (some (.ref f))) (ht:isFn C.K (.ref f)=true):rM C d name (isI Kc name) (.ref f):=by
 intro A l ρ H s i o a pl Q E hb ha st ho hK ⟨dd,hp⟩ q
 have ro:=st.rep.obj i o _ ho hp
 cases o with
 | inst c fs=>
  unfold isI at hK
  simp only[Bool.and_eq_true,beq_iff_eq,Option.isNone_iff_eq_none]at hK
  refine byC fun kq=>?_
  obtain⟨rfl,hn⟩:=hK
  obtain⟨sl,od,es,n,I,gd,hd,sk,sz,nm⟩:=o4 ro
  refine kq ?_;try clear kq
  have hl:=(nm name).2 hn
  exact method_fn (O.kin.keeps st.old) I (plainGet_of hc.get).1 (plainGet_of hc.get).2 hf (beq_iff_eq.mp ht) (by show(lookIn name od).map _=_;rw[mL hd sk,hl];rfl) q
 | _=>cases hK

theorem FrOk.nt{env l m ρ h} (fr:FrOk C env l m ρ h) {b:Addr}(hb:c0 env b):NT h b:=by
 intro o g c xs n dd
 rcases hb with rfl|⟨x,hx⟩
 ·refine byC fun kq=>?_
  obtain⟨mm,⟨o',es,ep,g',d',_⟩,_⟩:=fr.loc
  refine kq ?_;try clear kq
  rw[g']at g;cases g;rw[d']at dd;cases dd
 ·refine byC fun kq=>?_
  obtain⟨ov,o',g',d'⟩:=fr.celX x b hx
  refine kq ?_;try clear kq
  rw[g']at g;cases g;rw[d']at dd;cases dd
theorem RepV.evS{C l env m ρ s ρ₁ H H₁ s₁ v y} (r:RepV ρ s.heap v y) (st:St C l ρ H s) (fr:FrOk C env l m ρ s.heap) (x:Ev C l (c0 env) ρ s ρ₁ H₁ s₁):RepV ρ₁ s₁.heap v y:=
 r.ev st x fun _ hb=>fr.nt hb
theorem RepVs.evS{C l env m ρ s ρ₁ H H₁ s₁ v y} (r:RepVs ρ s.heap v y) (st:St C l ρ H s) (fr:FrOk C env l m ρ s.heap) (x:Ev C l (c0 env) ρ s ρ₁ H₁ s₁):RepVs ρ₁ s₁.heap v y:=
 r.ev st x fun _ hb=>fr.nt hb

theorem Ev.own{l ρ H} {s s':Shared}{env:Env}{b:Addr}(st:St C l ρ H s) (hb:c0 env b) (nm:¬bG ρ b) (nt:NT s.heap b) (hi:C.h0.objs.size≤b) (k:bt (fun c=>c=b) No s.heap s'.heap)
  (ex:∃ o',s'.heap.get? b=some o'∧∀ vs,o'.data ≠ .fields vs) (hr:s'.gens=s.gens∧s'.drawn=s.drawn∧s'.os=s.os):Ev C l (c0 env) ρ s ρ H s':=by
 refine⟨⟨fun a o e=>k.exact (st.old a o e) (fun z=>?_) id,st.hi,CX st.lo k.1,⟨hr.1.trans st.rest.1,hr.2.1.trans st.rest.2.1,hr.2.2.trans st.rest.2.2⟩,⟨st.rep.len,fun i o p ho hp=>?_,st.rep.apart⟩,?_,st.frm⟩,
  ⟨[],by simp,fun _ h=>nomatch h⟩,⟨k.1,fun a o e n=>?_⟩⟩
 ·have:=Heap.lt_size e
  rw[z]at this
  exact absurd this (Nat.not_lt.mpr hi)
 ·exact(st.rep.obj i o p ho hp).keep k (fun c e _=>by rw[e];exact nt) (fun _ _ z=>z) (fun _ _ z=>z) ⟨fun z=>nm ⟨p,List.mem_of_getElem? hp,.inl z.symm⟩,id⟩ ⟨fun z=>nm ⟨p,List.mem_of_getElem? hp,.inr z.symm⟩,id⟩
 ·have go:∀ {l':List Env},s.heap.FunFrames C.h0 l'→s'.heap.FunFrames C.h0 l':=by
   intro l'
   induction l' with
   | nil=>intro _;trivial
   | cons e0 r ih=>
    rintro ⟨hk,⟨L,o,hf,hn,ho,hd⟩,hr⟩
    by_cases hL:L=b
    ·refine byC fun kq=>?_
     obtain⟨o',g',hd'⟩:=ex
     refine kq ?_;try clear kq
     exact⟨hk,⟨L,o',hf,hn,hL ▸ g',hd'⟩,ih hr⟩
    ·exact⟨hk,⟨L,o,hf,hn,k.exact ho hL id,hd⟩,ih hr⟩
  exact go st.frs
 ·exact⟨o.slots,k.exact e (fun z=>n (.inr (z ▸ hb))) id,fun _=>rfl⟩

theorem bJ.mono{C env l ρ s Q Q' E o} (p:bJ C env l ρ s Q E o) (h:∀ F s',Q F s'→Q' F s'):bJ C env l ρ s Q' E o:=by
 cases o with
 | ok f m H=>exact fun ρ' y s' e fr r=>h _ _ (p ρ' y s' e fr r)
 | exc m H=>exact p
 | bad=>exact p

noncomputable def lT(C:Cx) (d:Nat) (sc:Scope) (t:Expr) (f:V→FS):Prop:=
 ∀ (A:Around) (env:Env) (l:List Env) (m:Fm) (ρ:Rho) (H:Hp) (s:Shared) (v:V) (y:Value) (Q:Unit→Shared→Prop) (E:Value→Shared→Prop),
  Bud d A→A.frames=some l→env.scope=sc→FrOk C env l m ρ s.heap→St C l ρ H s→RepV ρ s.heap v y→bJ C env l ρ s (fun F s'=>F=.next→Q () s') E (f v m H)→wpAny (model C.prog C.w) A (assign t env y) Q E s

noncomputable def bA(x:Str):V→FS:=fun v m H=>.ok .next ((x,v)::m) H
noncomputable def ej(sc:Scope) (x:Str):Bool:=match sc.names.lookup x with|some .local=>true|some .cell=>true|_=>false

theorem oh{A:Around}{env:Env}{l:List Env}{m:Fm}{ρ:Rho}{H:Hp}{s:Shared}{v:V}{y:Value}{x:Str}{Q:Unit→Shared→Prop}{E:Value→Shared→Prop}(hx:ej sc x=true) (he:env.scope=sc) (fr:FrOk C env l m ρ s.heap) (st:St C l ρ H s) (r:RepV ρ s.heap v y)
  (q:∀ s',Ev C l (c0 env) ρ s ρ H s'→FrOk C env l ((x,v)::m) ρ s'.heap→Q () s'):wpAny (model C.prog C.w) A (storeName env x y) Q E s:=by
 subst he
 have lk:∀ z w,((x,v)::m).lookup z=some w→(z=x∧w=v)∨(z ≠ x∧m.lookup z=some w):=fun z w hz=>by
  rw[List.lookup_cons]at hz
  by_cases hzx:z=x
  ·subst hzx;simp at hz;exact .inl ⟨rfl,hz.symm⟩
  ·have:(z == x)=false:=beq_eq_false_iff_ne.mpr hzx
   rw[this]at hz
   exact .inr ⟨hzx,hz⟩
 unfold ej at hx
 cases hk:env.scope.names.lookup x with
 | none=>rw[hk]at hx;cases hx
 | some k=>
  rw[hk]at hx
  cases k with
  | «local»=>
   refine byC fun kq=>?_
   obtain⟨mm,hn,hm⟩:=fr.loc
   refine kq ?_;try clear kq
   refine wpAny_storeName_local hk hn (fun h' hn' hs=>?_) (by rw[fr.kind];rfl)
   have e1:Ev C l (c0 env) ρ s ρ H { s with heap:=h',toks:=s.toks + 1 }:=.own st (.inl rfl) fr.hiL.2 (fr.nt (.inl rfl)) fr.hiL.1 (.sameBut hs) (by obtain⟨o',es,ep,g,d',_⟩:=hn';exact⟨o',g,fun vs z=>by rw[d']at z;cases z⟩) ⟨rfl,rfl,rfl⟩
   have ncell:∀ z c,env.cells.lookup z=some c→c ≠ env.locals:=fun z c hz=>by
    rintro rfl
    refine byC fun kq=>?_
    obtain⟨ov,o',g',d'⟩:=fr.celX z _ hz
    obtain⟨o2,es,ep,g2,d2,_⟩:=hn
    refine kq ?_;try clear kq
    rw[g2]at g';cases g';rw[d2]at d';cases d'
   refine q _ e1 ⟨fr.kind,fr.glob,fr.bui,fr.top,⟨_,hn',fun z w hz hkz=>?_⟩,fun z w hz hkz=>?_,fun z c hz=>?_,fr.celI,fr.hiL,fr.hiC,fr.celE⟩
   ·rcases lk z w hz with⟨rfl,rfl⟩|⟨hne,hz⟩
    ·exact⟨y,if_pos rfl,r.evS st fr e1⟩
    ·refine byC fun kq=>?_
     obtain⟨y',hy',r'⟩:=hm z w hz hkz
     refine kq ?_;try clear kq
     exact⟨y',(if_neg hne).trans hy',r'.evS st fr e1⟩
   ·rcases lk z w hz with⟨rfl,rfl⟩|⟨hne,hz⟩
    ·exact absurd (hkz.elim (fun e=>by unfold Env.kindOf at e;rw[hk]at e;cases e) fun e=>by unfold Env.kindOf at e;rw[hk]at e;cases e) id
    ·refine byC fun kq=>?_
     obtain⟨c,y',hc',ic,r'⟩:=fr.cel z w hz hkz
     refine kq ?_;try clear kq
     exact⟨c,y',hc',ic.sameBut hs (ncell z c hc'),r'.evS st fr e1⟩
   ·refine byC fun kq=>?_
    obtain⟨ov,ic⟩:=fr.celX z c hz
    refine kq ?_;try clear kq
    exact⟨ov,ic.sameBut hs (ncell z c hz)⟩
  | cell=>
   refine byC fun kq=>?_
   obtain⟨c,hcc⟩:=Option.isSome_iff_exists.mp (fr.celE x hk)
   obtain⟨ov,ic⟩:=fr.celX x c hcc
   refine kq ?_;try clear kq
   refine wpAny_storeName_cell fr.kind hk hcc ic fun h' ic' hs=>?_
   have e1:Ev C l (c0 env) ρ s ρ H { s with heap:=h' }:=.own st (.inr ⟨x,hcc⟩) (fr.hiC x c hcc).2 (fr.nt (.inr ⟨x,hcc⟩)) (fr.hiC x c hcc).1 (.sameBut hs) (by obtain⟨o',g,d'⟩:=ic';exact⟨o',g,fun vs z=>by rw[d']at z;cases z⟩) ⟨rfl,rfl,rfl⟩
   refine byC fun kq=>?_
   obtain⟨mm,hn,hm⟩:=fr.loc
   refine kq ?_;try clear kq
   have ncell:env.locals ≠ c:=by
    rintro rfl
    refine byC fun kq=>?_
    obtain⟨o',g',d'⟩:=ic
    obtain⟨o2,es,ep,g2,d2,_⟩:=hn
    refine kq ?_;try clear kq
    rw[g2]at g';cases g';rw[d2]at d';cases d'
   refine q _ e1 ⟨fr.kind,fr.glob,fr.bui,fr.top,⟨mm,hn.sameBut hs ncell,fun z w hz hkz=>?_⟩,fun z w hz hkz=>?_,fun z c' hz=>?_,fr.celI,fr.hiL,fr.hiC,fr.celE⟩
   ·rcases lk z w hz with⟨rfl,rfl⟩|⟨hne,hz⟩
    ·unfold Env.kindOf at hkz;rw[hk]at hkz;cases hkz
    ·refine byC fun kq=>?_
     obtain⟨y',hy',r'⟩:=hm z w hz hkz
     refine kq ?_;try clear kq
     exact⟨y',hy',r'.evS st fr e1⟩
   ·rcases lk z w hz with⟨rfl,rfl⟩|⟨hne,hz⟩
    ·exact⟨c,y,hcc,ic',r.evS st fr e1⟩
    ·refine byC fun kq=>?_
     obtain⟨c',y',hc',ic2,r'⟩:=fr.cel z w hz hkz
     refine kq ?_;try clear kq
     exact⟨c',y',hc',ic2.sameBut hs (fun e=>hne (fr.celI z x c' hc' (e ▸ hcc))),r'.evS st fr e1⟩
   ·by_cases hzc:c'=c
    ·subst hzc;exact⟨_,ic'⟩
    ·refine byC fun kq=>?_
     obtain⟨ov',ic2⟩:=fr.celX z c' hz
     refine kq ?_;try clear kq
     exact⟨ov',ic2.sameBut hs hzc⟩
  | _=>cases hx

theorem u4{x pos} (hx:ej sc x=true):lT C d sc (.Name x pos) (bA x):=by
 intro A env l m ρ H s v y Q E hb ha he fr st r p
 exact wpAny_assign_Name (oh hx he fr st r fun s' e1 fr'=>p ρ .next s' e1 fr' .next rfl)

noncomputable def a8(Kc:Addr) (name:Str) (fo:FE):V→FS:=fun v m H=>(fo m H).bindS m fun ov H1=>match ov with
 | .ref i=>(match H1[i]? with
  | some (.inst c fs)=>if c=Kc∧fs.length < 900 then .ok .next m (H1.set i (.inst c ((name,v)::fs)))else .bad
  | _=>.bad)
 | _=>.bad
theorem sA{fs:List (Str × V)}{name x:Str}{v:V}:((name,v)::fs).lookup x=if x=name then some v else fs.lookup x:=by
 rw[List.lookup_cons]
 by_cases h:x=name
 ·subst h;simp
 ·have:(x == name)=false:=beq_eq_false_iff_ne.mpr h
  rw[this,if_neg h]
theorem qX{A:Around}{l:List Env}{ρ:Rho}{H:Hp}{s:Shared}{i:Nat}{c:Addr}{fs:List (Str × V)}{a dd:Addr}{name:Str}{v:V}{y:Value}{Q:Unit→Shared→Prop}{E:Value→Shared→Prop}(O:C.Ok) (hc:ClsOk C c) (hf:findIn C.K (.ref c) name=some none)
  (st:St C l ρ H s) (ho:H[i]? = some (.inst c fs)) (hp:ρ[i]? = some (a,dd)) (hl:fs.length < 900) (r:RepV ρ s.heap v y)
  (q:∀ s' , Ev C l No ρ s ρ (H.set i (.inst c ((name,v)::fs))) s'→Q () s'):wpAny (model C.prog C.w) A (setAttr (.ref a) name y) Q E s:=by
 have ro:=st.rep.obj i _ _ ho hp
 refine byC fun kq=>?_
 obtain⟨sl,od,es,n,I,gd,hd,sk,sz,nm⟩:=o4 ro
 obtain⟨cd,hcd,hdict⟩:=any_some hc.dict
 refine kq ?_;try clear kq
 refine set_plain (O.kin.keeps st.old) I hc.set ?_
 refine osa_open (s:={ s with toks:=s.toks + 1 }) (r:=none) (O.kin.keeps st.old) I hc.over (by unfold takerIn;rw[hf];rfl) fun b=>?_
 refine wpAny_bind (wpAny_pure (wpAny_bind (wpAny_bind (wpAny_loadPart I.at_ (wpAny_bind (looks_clsIn (O.kin.keeps st.old) hcd _ _ _ _ (fun _ _ e=>e) ?_))))))
 rw[hdict]
 refine wpAny_pure (a:=some dd) (wpAny_bind (wpAny_pure (wpAny_bind ?_)))
 refine nQ (s:={ s with toks:=s.toks + 1 }) gd hd sk fun h' o' es' ep' g' hd' sk' sz' hfi hs=>?_
 refine wpAny_bind (wpAny_lookBehind g' (by rw[hd'];exact pastItsLine_dict (by rw[sizeLine_eq];omega)) ?_)
 refine wpAny_pure ?_
 refine q { s with heap:=h',toks:=s.toks + 1 + 1 } ?_
 have hne:a ≠ dd:=by
  rintro rfl
  have:=I.at_
  dsimp only at this gd
  rw[this]at gd;cases gd;cases hd
 have k:bt (fun b=>b=dd) (dA l) s.heap h':=.sameBut hs
 have nt:∀ b,b=dd→¬bG ρ b→NT s.heap b:=fun b e n=>absurd ⟨_,List.mem_of_getElem? hp,.inr e⟩ n
 refine Ev.put (p:=(a,dd)) (a:=dd) st hp (.inr rfl) k ⟨rfl,rfl,rfl⟩ ⟨⟨sl,(hs.2 a hne).trans I.at_⟩,o',es',ep',g',hd',sk',by simp only[Df];omega,fun x=>?_⟩
 rw[hfi,sA]
 by_cases hx:x=name
 ·rw[if_pos hx,if_pos hx]
  exact⟨fun w hw=>by cases hw;exact⟨y,rfl,r.keep k nt (fun _ _ z=>z) (fun _ _ z=>z)⟩,fun z=>by cases z⟩
 ·rw[if_neg hx,if_neg hx]
  exact⟨fun w hw=>let ⟨y',hy',r'⟩:=(nm x).1 w hw;⟨y',hy',r'.keep k nt (fun _ _ z=>z) (fun _ _ z=>z)⟩,(nm x).2⟩
set_option tactic.hygienic true in
theorem u3{e name pos Kc fo} (O:C.Ok) (hc:ClsOk C Kc) (hf:findIn C.K (.ref Kc) name=some none) (h:bg C d sc e fo):lT C d sc (.Attribute e name pos) (a8 Kc name fo):=by
 intro A env l m ρ H s v y Q E hb ha he fr st r p
 show wpAny _ _ (do
  let ov ← holding [y] (eval e env)
  standAt pos.atName
  holding [y,ov] (setAttr ov name y)
  release [y,ov] []) _ _ _
 refine wpAny_bind (wpAny_holding (h A env l m ρ H s _ E hb ha he fr st (bJ.bindE p st fr fun ov H1 ρ1 oy s1 _ e1 fr1 r1 p1=>?_)))
 refine wpAny_bind (wpAny_standAt ?_)
 cases r1 with
 | ref hp=>
  rename_i i a dd zz
  dsimp only at p1
  cases ho:H1[i]? with
  | none=>rw[ho]at p1;exact p1.elim
  | some ob=>
   rw[ho]at p1
   cases ob with
   | inst c fs=>
    dsimp only at p1
    by_cases hcc:c=Kc∧fs.length < 900
    ·rw[if_pos hcc]at p1
     refine byC fun kq=>?_
     obtain⟨rfl,hl⟩:=hcc
     refine kq ?_;try clear kq
     refine wpAny_bind (wpAny_holding (qX O hc hf e1.st ho hp hl (r.ev0 st e1) fun s' e2=>?_))
     refine wpAny_release ?_
     exact p1 ρ1 .next s' e2.no (fr1.ev e1.st e2) .next rfl
    ·rw[if_neg hcc]at p1;exact p1.elim
   | _=>exact p1.elim
 | _=>exact p1.elim

noncomputable def aH(fe:FE) (fa:V→FS):FS:=fun m H=>(fe m H).bindS m fun v H1=>fa v m H1
theorem ru{t e pos fe fa} (h1:bg C d sc e fe) (h2:lT C d sc t fa) (hst:∀ env,(assignEach [t] env).map (·.2)=[assign t env]) (hs:∀ env,swapsWith e (some t) pos.line env=pure false) (hw:∀ env,swappedStores [t] e env=pure none):
  jU C d sc (.Assign [t] e pos) (aH fe fa):=by
 intro A env l m ρ H s Q E hb ha he fr st p
 refine wpAny_Assign_stores (h1 A env l m ρ H s _ E hb ha he fr st (bJ.bindE p st fr fun v H1 ρ1 y s1 _ e1 fr1 r1 p1=>?_)) (hs env) (hw env)
 rw[hst]
 show wpAny _ _ (assign t env y) _ _ _
 exact h2 A env l m ρ1 H1 s1 v y _ E hb ha he fr1 e1.st r1 (p1.mono fun F s' q e=>by subst e;exact q)
end

noncomputable def FW(n:Nat) (h:Heap) (b:Addr):Prop:=n≤b∧∃ o vs,h.get? b=some o∧o.data=.fields vs
theorem FW.nt{n h b} (x:FW n h b):NT h b:=by
 refine byC fun kq=>?_
 obtain⟨_,o,vs,g,d⟩:=x
 refine kq ?_;try clear kq
 intro o' g' _ xs k d'
 rw[g]at g';cases g';rw[d]at d';cases d'
theorem k7{n:Nat}{X:Addr→Prop}{h₁ h₂ h₃:Heap}(x:bt (FW n h₁) X h₁ h₂) (y:bt (FW n h₂) X h₂ h₃):bt (FW n h₁) X h₁ h₃:=by
 refine⟨CX x.1 y.1,fun b o e w=>?_⟩
 refine byC fun kq=>?_
 obtain⟨sl,e1,q1⟩:=x.2 b o e w
 obtain⟨sl2,e2,q2⟩:=y.2 b _ e1 (by
  rintro ⟨hn,o',vs,g,d⟩
  rw[e1]at g;cases g
  exact w ⟨hn,o,vs,e,d⟩)
 refine kq ?_;try clear kq
 exact⟨sl2,e2,fun z=>(q2 z).trans (q1 z)⟩

theorem mM{h:Heap}{b:Addr}{o:Obj}{n:Nat}(g:h.get? b=some o) (hd:∀ vs,o.data ≠ .fields vs):¬FW n h b:=by
 rintro ⟨_,o',vs,g',d'⟩
 rw[g]at g';cases g';exact hd _ d'
theorem im.noF{C ρ h o a d} (r:im C ρ h o a d) (n:Nat):¬FW n h a∧¬FW n h d:=by
 have two:∀ {o:Obj},h.get? a=some o→(∀ vs,o.data ≠ .fields vs)→a=d→¬FW n h a∧¬FW n h d:=fun g hd e=>⟨mM g hd,e ▸ mM g hd⟩
 cases o with
 | list xs=>obtain⟨e,_,_,_,g,_⟩:=r;exact two g (fun vs z=>by cases z) e
 | dictS kvs=>obtain⟨e,_,⟨_,_,_,g,_,hd,_⟩,_⟩:=r;exact two g (fun vs z=>by rw[hd]at z;cases z) e
 | dictI kvs=>obtain⟨e,_,⟨_,_,_,g,_,hd,_⟩,_⟩:=r;exact two g (fun vs z=>by rw[hd]at z;cases z) e
 | dictT kvs=>obtain⟨e,_,_,_,_,g,⟨_,hd,_⟩,_⟩:=r;exact two g (fun vs z=>by rw[hd]at z;cases z) e
 | opq=>obtain⟨e,_,g,_,_,rfl⟩:=r;exact two g (fun vs z=>by cases z) e
 | frz o xs=>obtain⟨e,g,_,_,_,hd,_⟩:=r;exact two g (fun vs z=>by rw[hd]at z;cases z) e
 | inst K fs=>obtain⟨⟨_,g⟩,_,_,_,gd,hd,_⟩:=r;exact⟨mM g (fun vs z=>by cases z),mM gd (fun vs z=>by rw[hd]at z;cases z)⟩

theorem FunFrames.noF{fq h:Heap}{l:List Env}(hl:h.FunFrames fq l) {b:Addr}(hb:dA l b) (n:Nat):¬FW n h b:=by
 refine byC fun kq=>?_
 obtain⟨env,he,hL⟩:=hb
 obtain⟨_,o,g,d⟩:=hl.mem (List.mem_filterMap.mpr ⟨env,he,hL⟩)
 refine kq ?_;try clear kq
 rintro ⟨_,o',vs,g',d'⟩
 rw[g]at g';cases g';exact d _ d'

section
variable {C:Cx}{d:Nat}{sc:Scope}

theorem Ev.thru{l ρ0 ρ H} {s0 s s':Shared}{W:Addr→Prop}(x:Ev C l W ρ0 s0 ρ H s) (k:bt (FW s0.heap.objs.size s.heap) (dA l) s.heap s'.heap) (hl:C.h0.objs.size≤s0.heap.objs.size) (hr:s'.gens=s.gens∧s'.drawn=s.drawn∧s'.os=s.os):Ev C l W ρ0 s0 ρ H s':=by
 refine⟨⟨fun b o e=>k.exact (x.st.old b o e) (fun z=>?_) fun z=>?_,x.st.hi,CX x.st.lo k.1,⟨hr.1.trans x.st.rest.1,hr.2.1.trans x.st.rest.2.1,hr.2.2.trans x.st.rest.2.2⟩,⟨x.st.rep.len,fun i o p ho hp=>?_,x.st.rep.apart⟩,?_,x.st.frm⟩,
  x.pre,x.keep.trans k (fun b hb w=>?_) fun _ h=>h⟩
 ·have:=Heap.lt_size e
  exact absurd (Dd this hl) (Nat.not_lt.mpr z.1)
 ·have:=(x.st.fr_lt z).1
  rw[this]at e;cases e
 ·have r:=x.st.rep.obj i o p ho hp
  have nf:=r.noF s0.heap.objs.size
  exact r.keep k (fun _ w _=>w.nt) (fun _ _ z=>z) (fun _ _ z=>z) ⟨nf.1,fun z=>x.st.frm _ z ⟨p,List.mem_of_getElem? hp,.inl rfl⟩⟩ ⟨nf.2,fun z=>x.st.frm _ z ⟨p,List.mem_of_getElem? hp,.inr rfl⟩⟩
 ·refine gh x.st.frs fun b o hb g=>?_
  refine byC fun kq=>?_
  obtain⟨sl,g',_⟩:=k.2 b o g (FunFrames.noF x.st.frs hb _)
  refine kq ?_;try clear kq
  exact⟨_,g',rfl⟩
 ·exact absurd hb (Nat.not_lt.mpr w.1)
theorem FrOk.thru{env l m ρ h h'} {n:Nat}(x:FrOk C env l m ρ h) (k:bt (FW n h) (dA l) h h'):FrOk C env l m ρ h':=by
 have nt:∀ b,FW n h b→¬bG ρ b→NT h b:=fun _ w _=>w.nt
 have cellK:∀ c ov,h.IsCell c ov→h'.IsCell c ov:=by
  rintro c ov ⟨o,g,d⟩
  refine byC fun kq=>?_
  obtain⟨sl,g',_⟩:=k.2 c o g (fun⟨_,o',vs,g2,d2⟩=>by rw[g]at g2;cases g2;rw[d]at d2;cases d2)
  refine kq ?_;try clear kq
  exact⟨_,g',d⟩
 refine⟨x.kind,x.glob,x.bui,x.top,?_,?_,fun y c hc=>let ⟨ov,ic⟩:=x.celX y c hc;⟨ov,cellK c _ ic⟩,x.celI,x.hiL,x.hiC,x.celE⟩
 ·refine byC fun kq=>?_
  obtain⟨mm,⟨o,es,ep,g,d,kk,f⟩,hm⟩:=x.loc
  obtain⟨sl,g',_⟩:=k.2 _ o g (fun⟨_,o',vs,g2,d2⟩=>by rw[g]at g2;cases g2;rw[d]at d2;cases d2)
  refine kq ?_;try clear kq
  exact⟨mm,⟨_,es,ep,g',d,kk,f⟩,fun y v hv hk=>let ⟨z,hz,r⟩:=hm y v hv hk;⟨z,hz,r.keep k nt (fun _ _ z=>z) (fun _ _ z=>z)⟩⟩
 ·intro y v hv hk
  refine byC fun kq=>?_
  obtain⟨c,z,hc,ic,r⟩:=x.cel y v hv hk
  refine kq ?_;try clear kq
  exact⟨c,z,hc,cellK c _ ic,r.keep k nt (fun _ _ z=>z) (fun _ _ z=>z)⟩

theorem qy{A:Around}{M:Model}{E:Value→Shared→Prop}{s:Shared}{fq:Heap}{env e0:Env}{r:List Env}{L:Addr}{Q:Value→Shared→Prop}(hfr:A.frames=some (e0::r)) (hl:s.heap.FunFrames fq (e0::r)) (h0:e0.frame=some L) (hf:env.frame=some L)
  (h:∀ h',Heap.SlotsOnly ((e0::r).filterMap (·.frame)) s.heap h'→Q (.ref L) { s with heap:=h' }):wpAny M A (frameOf env) Q E s:=by
 unfold PySem.frameOf
 refine wpAny_bind (wpAny_frameEnvs hfr ?_)
 have hdw:((e0::r).dropWhile fun x=>x.frame != env.frame)=e0::r:=by simp[List.dropWhile,h0,hf]
 rw[hdw]
 unfold frameObject
 refine wpAny_bind (wpAny_bind (wpAny_readyFrames_fun hl fun h₁ hs₁=>wpAny_pure ?_))
 rw[h0]
 exact wpAny_pure (h h₁ hs₁)

theorem wG{l:List Env}{b:Addr}:b∈l.filterMap (·.frame)↔dA l b:=by
 rw[List.mem_filterMap];rfl

theorem nI{A:Around}{M:Model}{E:Value→Shared→Prop}{s:Shared}{env e0:Env}{r:List Env}{L e:Addr}{n:Nat}{oe:Obj}{vs:Array Value}{head:Value}{hadNext:Bool}{Q:Unit→Shared→Prop}(hfr:A.frames=some (e0::r)) (hl:s.heap.FunFrames C.h0 (e0::r)) (h0:e0.frame=some L) (hf:env.frame=some L)
  (hn:n≤e) (hs:n≤s.heap.objs.size) (he:s.heap.get? e=some oe) (hc:oe.cls=.ref C.sf) (hd:oe.data=.fields vs) (hsz:1 < vs.size)
  (h:∀ h',FlyAt C n e (rawInt L) h'→bt (FW n s.heap) (dA (e0::r)) s.heap h'→Q () { s with heap:=h' }):
  wpAny M A (do setField (.ref e) 1 (← EntryCells.newEntry head (← frameOf env) .none (rawInt L) .none (← entryPlaceOf L hadNext))) Q E s:=by
 have hene:e ∉ (e0::r).filterMap (·.frame):=fun hm=>by
  refine byC fun kq=>?_
  obtain⟨_,o,ho,hnf⟩:=hl.mem hm
  refine kq ?_;try clear kq
  rw[he]at ho;cases ho;exact hnf vs hd
 refine wpAny_bind (qy hfr hl h0 hf fun h₁ hs₁=>?_)
 refine wpAny_bind (wpAny_entryPlaceOf fun pl hpl=>?_)
 unfold EntryCells.newEntry newFields
 refine wpAny_bind (wpAny_newObj_type ?_ (hpl.sizeOk5 _ _ _ _ _))
 have he₁:h₁.get? e=some oe:=(hs₁.2.1 e hene).trans he
 have he₂:=Heap.get?_push_of_some (h:=h₁) { cls:=.type "traceback",dict:=none,data:=.fields ([head,.ref L,.none,rawInt L,.none]++(if pl.isEmpty then List.replicate 6 Value.none else pl)).toArray } he₁
 refine wpAny_setField he₂ hd hsz (h _ ?_ ?_)
 ·have hTe:h₁.objs.size ≠ e:=Nat.ne_of_gt (Heap.lt_size he₁)
  have hd₃:=Obj.data_mapFields hd (·.setIfInBounds 1 (Value.ref h₁.objs.size))
  have he₃:=Heap.get?_update_self (Obj.mapFields (·.setIfInBounds 1 (Value.ref h₁.objs.size))) he₂ (Obj.isFreed_of_fields hd₃)
  have hT₃:=(Heap.get?_update_other (h₁.push { cls:=.type "traceback",dict:=none,data:=.fields ([head,.ref L,.none,rawInt L,.none]++(if pl.isEmpty then List.replicate 6 Value.none else pl)).toArray })
   (Obj.mapFields (·.setIfInBounds 1 (Value.ref h₁.objs.size))) (Ne.symm hTe)).trans (Heap.get?_push_size h₁ rfl)
  exact⟨hn,_,_,h₁.objs.size,_,_,by rw[hs₁.1];exact hs,he₃,(Obj.cls_mapFields _ _).trans hc,hd₃,by simp[hsz],hTe,hT₃,rfl,by simp⟩
 ·refine⟨?_,fun b o g w=>?_⟩
  ·rw[Heap.size_after_update,Heap.size_push,hs₁.1];omega
  ·have hbe:b ≠ e:=fun q=>w (by rw[q];exact⟨hn,oe,vs,he,hd⟩)
   refine byC fun kq=>?_
   obtain⟨sl,g'⟩:=hs₁.2.2 b o g
   refine kq ?_;try clear kq
   refine⟨sl,?_,fun x=>?_⟩
   ·rw[Heap.get?_update_other _ _ (Ne.symm hbe)]
    exact Heap.get?_push_of_some _ g'
   ·have:=hs₁.2.1 b (fun z=>x (wG.mp z))
    rw[this,g]at g'
    cases o;cases g';rfl

theorem ke{A:Around}{M:Model}{E:Value→Shared→Prop}{s:Shared}{env e0:Env}{r:List Env}{L e:Addr}{n:Nat}{Q:Unit→Shared→Prop}(hfr:A.frames=some (e0::r)) (hl:s.heap.FunFrames C.h0 (e0::r)) (h0:e0.frame=some L) (hf:env.frame=some L)
  (hs:n≤s.heap.objs.size) (x:Fly C (some L) n e s.heap)
  (h:∀ h',FlyAt C n e (rawInt L) h'→bt (FW n s.heap) (dA (e0::r)) s.heap h'→Q () { s with heap:=h' }):wpAny M A (noteFrame (.ref e) env) Q E s:=by
 unfold noteFrame
 simp only[hf]
 have again:FlyAt C n e (rawInt L) s.heap→wpAny M A (do
   let head ← field (.ref e) 1
   if head != .none then
    if (← field head 3) == rawInt L then return
    setField head 3 .none
   setField (.ref e) 1 (← EntryCells.newEntry head (← frameOf env) .none (rawInt L) .none (← entryPlaceOf L (head != .none)))) Q E s:=by
  intro x
  have x0:=x
  refine byC fun kq=>?_
  obtain⟨hn,oe,vs,T,oT,ts,hT,he,hc,hd,h1,hTe,gT,dT,h3⟩:=x
  refine kq ?_;try clear kq
  refine wpAny_bind (wpAny_field he hd h1 ?_)
  rw[if_pos (show(Value.ref T != Value.none)=true from by simp)]
  refine wpAny_bind (wpAny_field gT dT h3 ?_)
  rw[if_pos (show(rawInt L == rawInt L)=true from by simp)]
  exact wpAny_pure (h s.heap x0 (.refl ..))
 rcases x with⟨hn,oe,vs,he,hc,hd,h1⟩|x|⟨L',hL,x⟩
 ·refine wpAny_bind (wpAny_field he hd h1 ?_)
  rw[if_neg (by decide)]
  exact nI hfr hl h0 hf hn hs he hc hd (Array.getElem?_eq_some_iff.mp h1).1 h
 ·refine byC fun kq=>?_
  obtain⟨hn,oe,vs,T,oT,ts,hT,he,hc,hd,h1,hTe,gT,dT,h3⟩:=x
  refine kq ?_;try clear kq
  refine wpAny_bind (wpAny_field he hd h1 ?_)
  rw[if_pos (show(Value.ref T != Value.none)=true from by simp)]
  refine wpAny_bind (wpAny_field gT dT h3 ?_)
  rw[if_neg (show ¬((Value.none == rawInt L)=true) from by simp[rawInt])]
  refine wpAny_bind (wpAny_setField gT dT (Array.getElem?_eq_some_iff.mp h3).1 ?_)
  have k:bt (FW n s.heap) (dA (e0::r)) s.heap (s.heap.update T (Obj.mapFields (·.setIfInBounds 3 Value.none))):=
   ⟨by rw[Heap.size_after_update];omega,fun b o g w=>⟨o.slots,by rw[Heap.get?_update_other _ _ (fun q=>w (by rw[← q];exact⟨hT,oT,ts,gT,dT⟩))];exact g,fun _=>rfl⟩⟩
  refine nI (s:={ s with heap:=s.heap.update T (Obj.mapFields (·.setIfInBounds 3 Value.none)) }) hfr (gh hl fun b o hb g=>?_) h0 hf hn (by rw[Heap.size_after_update];exact hs) ((Heap.get?_update_other _ _ hTe).trans he) hc hd (Array.getElem?_eq_some_iff.mp h1).1 fun h' y k'=>h h' y (k7 k k')
  refine byC fun kq=>?_
  obtain⟨sl,g',_⟩:=k.2 b o g (FunFrames.noF hl hb _)
  refine kq ?_;try clear kq
  exact⟨_,g',rfl⟩
 ·cases hL
  exact again x

theorem fM{A:Around}{M:Model}{E:Value→Shared→Prop}{s:Shared}{X:Addr→Prop}{e:Addr}{n:Nat}{fl:Value}{fr:Option Addr}{Q:Unit→Shared→Prop}(x:FlyAt C n e fl s.heap)
  (h:∀ h',FlyAt C n e (fr.elim .none fun f=>rawInt f) h'→bt (FW n s.heap) X s.heap h'→Q () { s with heap:=h' }):wpAny M A (setFlight (.ref e) fr) Q E s:=by
 refine byC fun kq=>?_
 obtain⟨hn,oe,vs,T,oT,ts,hT,he,hc,hd,h1,hTe,gT,dT,h3⟩:=x
 refine kq ?_;try clear kq
 have hsz3:3 < ts.size:=(Array.getElem?_eq_some_iff.mp h3).1
 unfold setFlight
 refine wpAny_bind (wpAny_field he hd h1 ?_)
 rw[if_pos (show(Value.ref T != Value.none)=true from by simp)]
 refine wpAny_setField gT dT hsz3 (h _ ?_ ?_)
 ·exact⟨hn,oe,vs,T,_,_,hT,(Heap.get?_update_other _ _ hTe).trans he,hc,hd,h1,hTe,Heap.get?_update_self _ gT (Obj.isFreed_of_fields (Obj.data_mapFields dT _)),Obj.data_mapFields dT _,by simp[hsz3]⟩
 ·exact⟨by rw[Heap.size_after_update];omega,fun b o g w=>⟨o.slots,by rw[Heap.get?_update_other _ _ (fun q=>w (by rw[← q];exact⟨hT,oT,ts,gT,dT⟩))];exact g,fun _=>rfl⟩⟩
end
set_option tactic.hygienic true in
theorem kL{M:Model}{Γ:Ctx}{p:Pos}{t:Sem Fin}{fs:List Frame}{s:Shared}{e:End}{s':Shared}(h:Runs M Γ p t fs s e s'):s.heap.objs.size≤s'.heap.objs.size:=by
 induction h with
 | update _ _ ih=>simpa using ih
 | alloc _ ih=>simp only[Heap.size_push]at ih;omega
 | _=>first|exact Nat.le_refl _|assumption|(rename_i a b;exact CX (by assumption) (by assumption))|skip
theorem py{M:Model}{Γ:Ctx}{p:Pos}{s:Shared}{r:Result}{s':Shared}(h:Returns M Γ p s r s'):s.heap.objs.size≤s'.heap.objs.size:=by
 refine byC fun kq=>?_
 obtain h:=h
 refine kq ?_;try clear kq
 exact kL h
theorem tu{M:Model}{Γ:Ctx}{p:Pos}{g:Nat}{r:Resume}{s:Shared}{res:GenResult}{s':Shared}(h:Wakes M Γ p g r s res s'):s.heap.objs.size≤s'.heap.objs.size:=by
 unfold Wakes at h
 split at h
 ·exact h.elim
 ·split at h
  ·refine byC fun kq=>?_
   obtain⟨e,s1,h1,_,_,rfl⟩:=h
   refine kq ?_;try clear kq
   have:=kL h1
   exact this
  ·obtain⟨_,rfl⟩:=h;exact Nat.le_refl _
  ·obtain⟨_,rfl⟩:=h;exact Nat.le_refl _
 ·refine byC fun kq=>?_
  obtain⟨e,s1,h1,_,_,rfl⟩:=h
  refine kq ?_;try clear kq
  have:=kL h1
  exact this
 ·obtain⟨_,rfl⟩:=h;exact Nat.le_refl _
 ·obtain⟨_,rfl⟩:=h;exact Nat.le_refl _
theorem zV{α:Type}{M:Model}{Γ:Ctx}:∀ (t:Sem α) {Q:α→Pos→Shared→Prop}{E:Value→Pos→Shared→Prop}{p:Pos}{s:Shared}{n:Nat},n≤s.heap.objs.size→
  Sem.wp M Γ t (fun a p' s'=>n≤s'.heap.objs.size→Q a p' s') (fun e p' s'=>n≤s'.heap.objs.size→E e p' s') p s→Sem.wp M Γ t Q E p s:=by
 intro t
 induction t with
 | pure a=>intro Q E p s n hn h;exact h hn
 | raise e=>intro Q E p s n hn h;exact h hn
 | load a mR k ih=>intro Q E p s n hn h;obtain⟨o,ho,h⟩:=h;exact⟨o,ho,ih o hn h⟩
 | update a mR f k ih=>intro Q E p s n hn h;obtain⟨ho,h⟩:=h;exact⟨ho,ih () (by simpa using hn) h⟩
 | alloc o k ih=>intro Q E p s n hn h;exact ih _ (by simp only[Heap.size_push];omega) h
 | call c h g l k ih=>intro Q E p s n hn h;obtain⟨r,s',hr,h⟩:=h;exact⟨r,s',hr,ih r (CX hn (py hr)) h⟩
 | choose src m k ih=>intro Q E p s n hn h;exact⟨h.1,ih _ hn h.2⟩
 | genState g k ih=>intro Q E p s n hn h;obtain⟨st,hs,h⟩:=h;exact⟨st,hs,ih _ hn h⟩
 | resume g r l k ih=>intro Q E p s n hn h;obtain⟨res,s',hw,h⟩:=h;exact⟨res,s',hw,ih res (CX hn (tu hw)) h⟩
 | unsupported=>intro Q E p s n hn h;exact h
 | finish=>intro Q E p s n hn h;exact h
 | register=>intro Q E p s n hn h;exact h
 | yield=>intro Q E p s n hn h;exact h
 | fork=>intro Q E p s n hn h;exact h
 | await=>intro Q E p s n hn h;exact h
 | rule tag k ih=>intro Q E p s n hn h;exact ih () hn h
 | «at» q k ih=>intro Q E p s n hn h;exact ih () hn h
 | loadIfAlive a k ih=>intro Q E p s n hn h;exact ih _ hn h
 | point l k ih=>intro Q E p s n hn h;exact ih () hn h
 | fresh k ih=>intro Q E p s n hn h;exact ih _ hn h
 | ask k ih=>intro Q E p s n hn h;exact ih _ hn h
 | os q l k ih=>intro Q E p s n hn h;exact ih _ hn h
 | handled o k ih=>intro Q E p s n hn h;exact ih _ hn h
 | newGen c k ih=>intro Q E p s n hn h;exact ih _ hn h
 | stack k ih=>intro Q E p s n hn h;exact ih _ hn h
 | thread k ih=>intro Q E p s n hn h;exact ih _ hn h
theorem dE{α:Type}{M:Model}{A:Around}{t:Sem α}{Q:α→Shared→Prop}{E:Value→Shared→Prop}{s:Shared}
  (h:wpAny M A t (fun a s'=>s.heap.objs.size≤s'.heap.objs.size→Q a s') (fun e s'=>s.heap.objs.size≤s'.heap.objs.size→E e s') s):wpAny M A t Q E s:=
 fun Γ p hΓ=>zV t (Nat.le_refl _) (h Γ p hΓ)

section
variable {C:Cx}{d:Nat}{sc:Scope}

theorem FrOk.frame{env l m ρ h} (fr:FrOk C env l m ρ h) (st:∃ ρ H s,St C l ρ H s):∃ e0 r L,l=e0::r∧e0.frame=some L∧env.frame=some L:=by
 refine byC fun kq=>?_
 obtain⟨ρ,H,s,st⟩:=st
 obtain⟨e0,r,rfl,e⟩:=fr.top
 have hf:=st.frs
 obtain⟨_,⟨L,_,hL,_⟩,_⟩:=hf
 refine kq ?_;try clear kq
 exact⟨e0,r,L,rfl,hL,e ▸ hL⟩

theorem mS{A:Around}{env:Env}{l:List Env}{m':Fm}{ρ ρ2:Rho}{H':Hp}{s s2:Shared}{e:Addr}{E:Value→Shared→Prop}(hA:A.frames=some l) (hl:C.h0.objs.size≤s.heap.objs.size) (x:Ev C l (c0 env) ρ s ρ2 H' s2) (fr:FrOk C env l m' ρ2 s2.heap) (fl:Fly C env.frame s.heap.objs.size e s2.heap)
  (p:∀ ρ' e s',Ev C l (c0 env) ρ s ρ' H' s'→FrOk C env l m' ρ' s'.heap→Fly C env.frame s.heap.objs.size e s'.heap→E (.ref e) s'):
  notedBy (model C.prog C.w) A env (fun e s'=>cameBackBy (model C.prog C.w) A env E e s') (.ref e) s2:=by
 refine byC fun kq=>?_
 obtain⟨e0,r,L,rfl,h0,hf⟩:=fr.frame ⟨_,_,_,x.st⟩
 refine kq ?_;try clear kq
 rw[hf]at fl
 refine ke hA x.st.frs h0 hf x.keep.1 fl fun h' y k=>?_
 have x1:=x.thru (s':={ s2 with heap:=h' }) k hl ⟨rfl,rfl,rfl⟩
 have fr1:=fr.thru k
 unfold cameBackBy
 have y0:=y
 refine byC fun kq=>?_
 obtain⟨hn,oe,vs,T,oT,ts,hT,he,hc,hd,h1,hTe,gT,dT,h3⟩:=y
 refine kq ?_;try clear kq
 refine wpAny_bind (wpAny_field he hd h1 ?_)
 rw[if_neg (show ¬((Value.ref T == Value.none)=true) from by simp)]
 rw[hf]
 refine fM (X:=dA (e0::r)) (fr:=some L) y0 fun h'' y1 k1=>?_
 exact p ρ2 e _ (x1.thru k1 hl ⟨rfl,rfl,rfl⟩) (fr1.thru k1) (.inr (.inr ⟨L,hf,y1⟩))

theorem w5{A:Around}{env:Env}{l:List Env}{s2:Shared}{e:Addr}{n:Nat}{L:Addr}{Q:Unit→Shared→Prop}{E:Value→Shared→Prop}(hA:A.frames=some (env::l)) (hf:env.frame=some L) (hl:s2.heap.FunFrames C.h0 (env::l)) (hs:n≤s2.heap.objs.size) (fl:Fly C (some L) n e s2.heap)
  (q:∀ h',FlyAt C n e .none h'→bt (FW n s2.heap) (dA (env::l)) s2.heap h'→Q () { s2 with heap:=h' }):wpAny (model C.prog C.w) A (leaving env (.ref e)) Q E s2:=by
 unfold leaving
 refine wpAny_bind (ke hA hl hf hf hs fl fun h' y k=>?_)
 refine fM (X:=dA (env::l)) (fr:=none) y fun h'' y1 k1=>?_
 exact q h'' y1 (k7 k k1)

noncomputable def av:FS:=fun m H=>.ok .next m H
noncomputable def am(f g:FS):FS:=fun m H=>(f m H).bind fun fl m1 H1=>match fl with
 | .next=>g m1 H1
 | fl=>.ok fl m1 H1
theorem xg:lU C d sc [] av:=by
 intro A env l m ρ H s Q E hb ha he fr st p
 exact wpAny_execs_nil (p ρ _ s (.refl st) fr .next)
theorem u5{st r f g} (h1:jU C d sc st f) (h2:lU C d sc r g):lU C d sc (st::r) (am f g):=by
 intro A env l m ρ H s Q E hb ha he fr st p
 refine wpAny_execs_cons (h1 A env l m ρ H s _ E hb ha he fr st (bJ.bind p fun fl m1 H1 ρ1 F s1 _ e1 fr1 rf p1=>?_))
 cases rf with
 | next=>exact h2 A env l m1 ρ1 H1 s1 Q E hb ha he fr1 e1.st p1
 | cont=>exact p1 ρ1 _ s1 (.refl e1.st) fr1 .cont
 | brk=>exact p1 ρ1 _ s1 (.refl e1.st) fr1 .brk
 | ret r=>exact p1 ρ1 _ s1 (.refl e1.st) fr1 (.ret r)

noncomputable def a6(f:FE):FS:=fun m H=>(f m H).bindS m fun v H1=>.ok (.ret v) m H1
theorem xK{e pos f} (h:bg C d sc e f):jU C d sc (.Return (some e) pos) (a6 f):=by
 intro A env l m ρ H s Q E hb ha he fr st p
 exact wpAny_Return_some (h A env l m ρ H s _ E hb ha he fr st (bJ.bindE p st fr fun v H1 ρ1 y s1 _ e1 fr1 r1 p1=>p1 ρ1 _ s1 (.refl e1.st) fr1 (.ret r1)))
theorem ny{pos}:jU C d sc (.Continue pos) (fun m H=>.ok .cont m H):=by
 intro A env l m ρ H s Q E hb ha he fr st p
 exact wpAny_Continue (p ρ _ s (.refl st) fr .cont)

noncomputable def cR(f:FE):FS:=fun m H=>(f m H).bindS m fun v H1=>match v with
 | .ref _=>.bad
 | .tup _=>.bad
 | _=>.ok .next m H1
theorem vx{e pos f} (h:bg C d sc e f) (hs:∀ env,env.scope.kind=.function→swapsWith e none pos.line env=pure false):jU C d sc (.Expr e pos) (cR f):=by
 intro A env l m ρ H s Q E hb ha he fr st p
 refine wpAny_Expr (h A env l m ρ H s _ E hb ha he fr st (bJ.bindE p st fr fun v H1 ρ1 y s1 _ e1 fr1 r1 p1=>?_)) (by unfold interactive;rw[fr.kind];rfl) (hs env fr.kind)
 cases r1 with
 | ref=>exact p1.elim
 | tup=>exact p1.elim
 | _=>exact p1 ρ1 _ s1 (.refl e1.st) fr1 .next

noncomputable def fIf(ft:FE) (fb fo:FS):FS:=fun m H=>(ft m H).bindS m fun v H1=>match v with
 | .bool true=>fb m H1
 | .bool false=>fo m H1
 | _=>.bad
theorem zI{t b o pos ft fb fo} (h1:lz C d sc t ft) (h2:lU C d sc b fb) (h3:lU C d sc o fo):jU C d sc (.If t b o pos) (fIf ft fb fo):=by
 intro A env l m ρ H s Q E hb ha he fr st p
 refine wpAny_If (h1 A env l m ρ H s _ E hb ha he fr st (bJ.bindE p st fr fun v H1 ρ1 y s1 _ e1 fr1 r1 p1=>?_))
 cases r1 with
 | bool bb=>
  refine⟨bb,rfl,?_⟩
  cases bb with
  | true=>exact h2 A env l m ρ1 H1 s1 Q E hb ha he fr1 e1.st p1
  | false=>exact h3 A env l m ρ1 H1 s1 Q E hb ha he fr1 e1.st p1
 | _=>exact p1.elim

theorem bJ.from{env l ρ s Q E ρ1 H1 s1} {o:OutS}{k:Fl→Fm→Hp→OutS}{Q1:Flow→Shared→Prop}{E1:Value→Shared→Prop}(p:bJ C env l ρ s Q E (o.bind k)) (x:Ev C l (c0 env) ρ s ρ1 H1 s1)
  (h:∀ f m H2 ρ2 F s2,o=.ok f m H2→Ev C l (c0 env) ρ1 s1 ρ2 H2 s2→Ev C l (c0 env) ρ s ρ2 H2 s2→FrOk C env l m ρ2 s2.heap→RepF ρ2 s2.heap f F→bJ C env l ρ s Q E (k f m H2)→Q1 F s2)
  (hx:∀ m H2 ρ2 e s2,Ev C l (c0 env) ρ s ρ2 H2 s2→FrOk C env l m ρ2 s2.heap→Fly C env.frame s.heap.objs.size e s2.heap→(∀ ρ' e s',Ev C l (c0 env) ρ s ρ' H2 s'→FrOk C env l m ρ' s'.heap→Fly C env.frame s.heap.objs.size e s'.heap→E (.ref e) s')→E1 (.ref e) s2):bJ C env l ρ1 s1 Q1 E1 o:=by
 cases o with
 | ok f m H=>exact fun ρ2 F s2 e2 fr rf=>h f m H ρ2 F s2 rfl e2 (x.trans e2) fr rf p
 | exc m H=>exact fun ρ2 e s2 e2 fr fl=>hx m H ρ2 e s2 (x.trans e2) fr (fl.mono x.keep.1) p
 | bad=>exact p
theorem bJ.fromE{env l ρ s Q E ρ1 H1 s1} {m:Fm}{o:Out V}{k:V→Hp→OutS}{Q1:Value→Shared→Prop}{E1:Value→Shared→Prop}(p:bJ C env l ρ s Q E (o.bindS m k)) (x:Ev C l (c0 env) ρ s ρ1 H1 s1) (fr:FrOk C env l m ρ1 s1.heap)
  (h:∀ v H2 ρ2 y s2,o=.ok v H2→Ev C l (c0 env) ρ s ρ2 H2 s2→FrOk C env l m ρ2 s2.heap→RepV ρ2 s2.heap v y→bJ C env l ρ s Q E (k v H2)→Q1 y s2)
  (hx:∀ m H2 ρ2 e s2,Ev C l (c0 env) ρ s ρ2 H2 s2→FrOk C env l m ρ2 s2.heap→Fly C env.frame s.heap.objs.size e s2.heap→(∀ ρ' e s',Ev C l (c0 env) ρ s ρ' H2 s'→FrOk C env l m ρ' s'.heap→Fly C env.frame s.heap.objs.size e s'.heap→E (.ref e) s')→E1 (.ref e) s2):aJ C l env.frame ρ1 s1 Q1 E1 o:=by
 cases o with
 | ok v H=>exact fun ρ2 y s2 e2 r=>h v H ρ2 y s2 rfl (x.trans e2.no) (fr.ev x.st e2) r p
 | exc H=>exact fun ρ2 e s2 e2 fl=>hx m H ρ2 e s2 (x.trans e2.no) (fr.ev x.st e2) (fl.mono x.keep.1) p
 | bad=>exact p

noncomputable def d7(ft:FE) (fb:FS):Nat→FS
 | 0=>fun _ _=>.bad
 | n + 1=>fun m H=>(ft m H).bindS m fun v H1=>match v with
  | .bool true=>(fb m H1).bind fun fl m2 H2=>(match fl with
   | .next=>d7 ft fb n m2 H2
   | .cont=>d7 ft fb n m2 H2
   | .brk=>.ok .next m2 H2
   | .ret v=>.ok (.ret v) m2 H2)
  | .bool false=>.ok .next m H1
  | _=>.bad
noncomputable abbrev WhP(C:Cx) (env:Env) (l:List Env) (ρ:Rho) (s:Shared) (Q:Flow→Shared→Prop) (E:Value→Shared→Prop) (ft:FE) (fb:FS) (k:Nat) (m':Fm) (H':Hp):Prop:=bJ C env l ρ s Q E (d7 ft fb k m' H')
inductive WhI (C:Cx) (env:Env) (l:List Env) (ρ:Rho) (s:Shared) (Pu:Nat→Fm→Hp→Prop) (k:Nat) (s':Shared):Prop where
 | mk (m':Fm) (ρ':Rho) (H':Hp) (x:Ev C l (c0 env) ρ s ρ' H' s') (fr:FrOk C env l m' ρ' s'.heap) (po:Pu k m' H'):WhI C env l ρ s Pu k s'
theorem ta{t b pos ft fb} (n:Nat) (h1:lz C d sc t ft) (h2:lU C d sc b fb):jU C d sc (.While t b [] pos) (d7 ft fb n):=by
 intro A env l m ρ H s Q E hb ha he fr st p
 refine wpAny_While (codeAny_whileLoop (WhI C env l ρ s (WhP C env l ρ s Q E ft fb)) ?_ n ⟨m,ρ,H,.refl st,fr,p⟩)
 rintro k s1 ⟨m1,ρ1,H1,x1,fr1,p1⟩
 cases k with
 | zero=>exact p1.elim
 | succ k=>
  have exc:∀ m H2 ρ2 e s2,Ev C l (c0 env) ρ s ρ2 H2 s2→FrOk C env l m ρ2 s2.heap→Fly C env.frame s.heap.objs.size e s2.heap→(∀ ρ' e s',Ev C l (c0 env) ρ s ρ' H2 s'→FrOk C env l m ρ' s'.heap→Fly C env.frame s.heap.objs.size e s'.heap→E (.ref e) s')→
    notedBy (model C.prog C.w) A env (fun e s'=>cameBackBy (model C.prog C.w) A env E e s') (.ref e) s2:=fun m H2 ρ2 e s2 x fr fl q=>mS ha st.lo x fr fl q
  refine dD fun Q1 q1=>?_
  refine h1 A env l m1 ρ1 H1 s1 _ _ hb ha he fr1 x1.st (bJ.fromE p1 x1 fr1 (fun v H2 ρ2 y s2 _ x2 fr2 r2 p2=>?_) exc)
  cases r2 with
  | bool bb=>
   refine⟨bb,rfl,q1 _ _ ?_⟩
   cases bb with
   | false=>exact(if_neg Bool.false_ne_true).mpr (wpAny_execs_nil (p2 ρ2 _ s2 x2 fr2 .next))
   | true=>
    refine(if_pos rfl).mpr ?_
    refine jP fun E1 hE=>dD fun Q2 q2=>?_
    refine h2 A env l m1 ρ2 H2 s2 _ _ hb ha he fr2 x2.st (bJ.from p2 x2 (fun fl m3 H3 ρ3 F s3 _ _ x3 fr3 rf p3=>q2 _ _ ?_) fun m H2 ρ2 e s2 x fr fl q=>hE _ _ (exc m H2 ρ2 e s2 x fr fl q))
    cases rf with
    | next=>exact⟨k,Nat.lt_succ_self _,m3,ρ3,H3,x3,fr3,p3⟩
    | cont=>exact⟨k,Nat.lt_succ_self _,m3,ρ3,H3,x3,fr3,p3⟩
    | brk=>exact p3 ρ3 _ s3 x3 fr3 .next
    | ret r=>exact p3 ρ3 _ s3 x3 fr3 (.ret r)
  | _=>exact p2.elim
end

noncomputable def yt(env:Env) (l:List Env) (ρ:Rho) (b:Addr):Prop:=¬bG ρ b∧¬c0 env b∧¬dA l b

structure Itr (C:Cx) (A:Around) (l:List Env) (tgt:Expr) (n0:Nat) (I:Addr) (F:Addr→Prop) (items:List V) (G:Hp→Prop) (P:Nat→Rho→Heap→Prop):Prop where
 foot:∀ i ρ h b,P i ρ h→F b→n0≤b∧∃ o,h.get? b=some o
 frame:∀ i ρ ρ' h h',P i ρ h→(∀ b o,F b→h.get? b=some o→h'.get? b=some o)→(∀ v y,RepV ρ h v y→RepV ρ' h' v y)→P i ρ' h'
 item:∀ (i:Nat) (v:V) (ρ:Rho) (H:Hp) (s:Shared) (Q:Value→Shared→Prop) (E:Value→Shared→Prop),St C l ρ H s→G H→P i ρ s.heap→items[i]? = some v→
  (∀ y s',Ev C l (FW n0 s.heap) ρ s ρ H s'→P (i + 1) ρ s'.heap→RepV ρ s'.heap v y→Q y s')→
  wpAny (model C.prog C.w) A (pyNext (.ref I)) (fun r s1=>∃ y,r=some y∧wpAny (model C.prog C.w) A (letOwnedTupleGo tgt (.ref I) y) (fun _ s2=>Q y s2) E s1) E s
 stop:∀ (ρ:Rho) (H:Hp) (s:Shared) (Q:Shared→Prop) (E:Value→Shared→Prop),St C l ρ H s→G H→P items.length ρ s.heap→
  (∀ s',Ev C l (FW n0 s.heap) ρ s ρ H s'→Q s')→
  wpAny (model C.prog C.w) A (pyNext (.ref I)) (fun r s1=>r=none∧Q s1) E s
 self:∀ (i:Nat) (ρ:Rho) (s:Shared) (Q:Value→Shared→Prop) (E:Value→Shared→Prop),P i ρ s.heap→Q (.ref I) s→wpAny (model C.prog C.w) A (pyIter (.ref I)) Q E s

inductive It where
 | mk (items:List V) (G:Hp→Prop)
noncomputable def fY(C:Cx) (A:Around) (env:Env) (l:List Env) (tgt:Expr) (ρ:Rho) (s:Shared) (Q E:Value→Shared→Prop):Out It→Prop
 | .ok (.mk items G) H'=>∀ ρ' I s' F P,Ev C l No ρ s ρ' H' s'→Itr C A l tgt s.heap.objs.size I F items G P→P 0 ρ' s'.heap→(∀ b,F b→¬bG ρ' b)→Q (.ref I) s'
 | .exc H'=>∀ ρ' e s',Ev C l No ρ s ρ' H' s'→Fly C env.frame s.heap.objs.size e s'.heap→E (.ref e) s'
 | .bad=>False
noncomputable def jr(C:Cx) (d:Nat) (sc:Scope) (e:Expr) (tgt:Expr) (f:Fm→Hp→Out It):Prop:=
 ∀ (A:Around) (env:Env) (l:List Env) (m:Fm) (ρ:Rho) (H:Hp) (s:Shared) (Q E:Value→Shared→Prop),
  Bud d A→A.frames=some l→env.scope=sc→FrOk C env l m ρ s.heap→St C l ρ H s→fY C A env l tgt ρ s Q E (f m H)→
  wpAny (model C.prog C.w) A (eval e env) (fun x s1=>wpAny (model C.prog C.w) A (pyIter x) Q E s1) E s

open Classical in
noncomputable def eX(G:Hp→Prop) (fa:V→FS) (fb:FS):List V→FS
 | []=>fun m H=>if G H then .ok .next m H else .bad
 | v::r=>fun m H=>if G H then(fa v m H).bind fun fl m1 H1=>(match fl with
   | .next=>(fb m1 H1).bind fun fl m2 H2=>(match fl with
    | .next=>eX G fa fb r m2 H2
    | .cont=>eX G fa fb r m2 H2
    | .brk=>.ok .next m2 H2
    | .ret v=>.ok (.ret v) m2 H2)
   | _=>.bad)else .bad

theorem Ev.trans2{C l W W' ρ s ρ₁ H₁ s₁ ρ₂ H₂ s₂} (x:Ev C l W ρ s ρ₁ H₁ s₁) (y:Ev C l W' ρ₁ s₁ ρ₂ H₂ s₂) (hw:∀ b,b < s.heap.objs.size→W' b→W b):Ev C l W ρ s ρ₂ H₂ s₂:=by
 refine byC fun kq=>?_
 obtain⟨t,rfl,ht⟩:=x.pre
 obtain⟨t2,rfl,ht2⟩:=y.pre
 refine kq ?_;try clear kq
 refine⟨y.st,⟨t++t2,by rw[List.append_assoc],fun p hp=>?_⟩,x.keep.trans y.keep (fun b hb=>?_) fun b hb=>hb⟩
 ·rcases List.mem_append.mp hp with hp|hp
  ·exact ht p hp
  ·exact⟨CX x.keep.1 (ht2 p hp).1,CX x.keep.1 (ht2 p hp).2⟩
 ·rintro (h|h)
  ·rcases dc.mp h with h|⟨p,hp,e⟩
   ·exact .inl h
   ·have:=ht p hp
    rcases e with rfl|rfl
    ·exact absurd hb (Nat.not_lt.mpr this.1)
    ·exact absurd hb (Nat.not_lt.mpr this.2)
  ·exact .inr (hw b hb h)
theorem Ev.transF{C l W ρ s ρ₁ H₁ s₁ ρ₂ H₂ s₂} {n:Nat}{h:Heap}(x:Ev C l W ρ s ρ₁ H₁ s₁) (y:Ev C l (FW n h) ρ₁ s₁ ρ₂ H₂ s₂) (hn:s.heap.objs.size≤n):Ev C l W ρ s ρ₂ H₂ s₂:=
 x.trans2 y fun _ hb w=>absurd (Dd hb hn) (Nat.not_lt.mpr w.1)
theorem FrOk.evF{C env l m ρ s ρ₁ H H₁ s₁} {n:Nat}(x:FrOk C env l m ρ s.heap) (st:St C l ρ H s) (e:Ev C l (FW n s.heap) ρ s ρ₁ H₁ s₁):FrOk C env l m ρ₁ s₁.heap:=by
 have nf:∀ {b o},s.heap.get? b=some o→(∀ vs,o.data ≠ .fields vs)→¬FW n s.heap b:=fun g hd=>mM g hd
 have cellK:∀ c ov,s.heap.IsCell c ov→¬bG ρ c→s₁.heap.IsCell c ov:=by
  rintro c ov ⟨o,g,d⟩ m
  refine byC fun kq=>?_
  obtain⟨sl,g',_⟩:=e.keep.2 c o g (fun z=>z.elim m (nf g fun vs z=>by rw[d]at z;cases z))
  refine kq ?_;try clear kq
  exact⟨_,g',d⟩
 refine⟨x.kind,x.glob,x.bui,x.top,?_,?_,?_,x.celI,⟨x.hiL.1,?_⟩,?_,x.celE⟩
 ·refine byC fun kq=>?_
  obtain⟨mm,⟨o,es,ep,g,d,k,f⟩,hm⟩:=x.loc
  obtain⟨sl,g',_⟩:=e.keep.2 _ o g (fun z=>z.elim x.hiL.2 (nf g fun vs z=>by rw[d]at z;cases z))
  refine kq ?_;try clear kq
  refine⟨mm,⟨_,es,ep,g',d,k,f⟩,fun y v hv hk=>?_⟩
  refine byC fun kq=>?_
  obtain⟨z,hz,r⟩:=hm y v hv hk
  refine kq ?_;try clear kq
  exact⟨z,hz,r.ev st e fun _ w=>w.nt⟩
 ·intro y v hv hk
  refine byC fun kq=>?_
  obtain⟨c,z,hc,ic,r⟩:=x.cel y v hv hk
  refine kq ?_;try clear kq
  exact⟨c,z,hc,cellK c _ ic (x.hiC y c hc).2,r.ev st e fun _ w=>w.nt⟩
 ·intro y c hc
  refine byC fun kq=>?_
  obtain⟨ov,ic⟩:=x.celX y c hc
  refine kq ?_;try clear kq
  exact⟨ov,cellK c _ ic (x.hiC y c hc).2⟩
 ·refine byC fun kq=>?_
  obtain⟨mm,⟨o,es,ep,g,_⟩,_⟩:=x.loc
  refine kq ?_;try clear kq
  exact e.nm _ (Heap.lt_size g) x.hiL.2
 ·intro y c hc
  refine byC fun kq=>?_
  obtain⟨ov,o,g,d⟩:=x.celX y c hc
  refine kq ?_;try clear kq
  exact⟨(x.hiC y c hc).1,e.nm _ (Heap.lt_size g) (x.hiC y c hc).2⟩

section
variable {C:Cx}{d:Nat}{sc:Scope}

theorem Itr.kept{A l tgt n0 I F items G P} {i:Nat}{env:Env}{ρ ρ':Rho}{H H':Hp}{s s':Shared}{m:Fm}(T:Itr C A l tgt n0 I F items G P) (p:P i ρ s.heap) (pr:∀ b,F b→yt env l ρ b) (st:St C l ρ H s) (fr:FrOk C env l m ρ s.heap) (x:Ev C l (c0 env) ρ s ρ' H' s'):P i ρ' s'.heap∧∀ b,F b→yt env l ρ' b:=
  ⟨T.frame i ρ ρ' _ _ p (fun b o hF g=>x.keep.exact g (fun z=>z.elim (pr b hF).1 (pr b hF).2.1) (pr b hF).2.2) fun _ _ r=>r.evS st fr x,
   fun b hF=>let ⟨_,o,g⟩:=T.foot i ρ _ b p hF;⟨x.nm b (Heap.lt_size g) (pr b hF).1,(pr b hF).2⟩⟩

noncomputable def fK(fit:Fm→Hp→Out It) (fa:V→FS) (fb:FS):FS:=fun m H=>(fit m H).bindS m fun t H1=>match t with
 | .mk items G=>eX G fa fb items m H1
noncomputable abbrev CN(C:Cx) (env:Env) (l:List Env) (ρ:Rho) (s:Shared) (Q:Flow→Shared→Prop) (E:Value→Shared→Prop) (G:Hp→Prop) (fa:V→FS) (fb:FS) (items:List V) (i:Nat) (m':Fm) (H':Hp):Prop:=bJ C env l ρ s Q E (eX G fa fb (items.drop i) m' H')
inductive ForI (C:Cx) (env:Env) (l:List Env) (ρ:Rho) (s:Shared) (P:Nat→Rho→Heap→Prop) (F:Addr→Prop) (n:Nat) (Pu:Nat→Fm→Hp→Prop) (k:Nat) (s':Shared):Prop where
 | mk (i:Nat) (m':Fm) (ρ':Rho) (H':Hp) (x:Ev C l (c0 env) ρ s ρ' H' s') (fr:FrOk C env l m' ρ' s'.heap) (p:P i ρ' s'.heap∧∀ b,F b→yt env l ρ' b) (hi:i≤n) (po:Pu i m' H') (hk:k=n + 1 - i):ForI C env l ρ s P F n Pu k s'
theorem rC{n i:Nat}(h:i < n):n + 1 - (i + 1) < n + 1 - i:=Nat.sub_lt_sub_left (Nat.lt_succ_of_lt h) (Nat.lt_succ_self i)
theorem yI{α:Type}{xs:List α}{i:Nat}{v:α}(h:xs[i]? = some v):i < xs.length∧xs.drop i=v::xs.drop (i + 1):=by
 refine byC fun kq=>?_
 obtain⟨hlt,e⟩:=List.getElem?_eq_some_iff.mp h
 refine kq ?_;try clear kq
 exact⟨hlt,by rw[List.drop_eq_getElem_cons hlt,e]⟩
theorem xJ{tgt it body pos fit fa fb} (hI:jr C d sc it tgt fit) (hA:lT C d sc tgt fa) (hB:lU C d sc body fb) (hs:∀ env x,foldedSetIterable it env x=pure x):
  jU C d sc (.For tgt it body [] pos) (fK fit fa fb):=by
 intro A env l m ρ H s Q E hb ha he fr st p
 unfold fK at p
 refine wpAny_For (hI A env l m ρ H s _ E hb ha he fr st ?_) (hs env)
 cases o:fit m H with
 | bad=>rw[o]at p;exact p.elim
 | exc H1=>rw[o]at p;exact fun ρ1 e s1 e1 fl=>p ρ1 e s1 e1.no (fr.ev st e1) fl
 | ok t H1=>
  cases t with
  | mk items G=>
  rw[o]at p
  intro ρ1 I s1 F P e1 T p0 nm0
  have own_lt:∀ b,c0 env b∨dA l b→b < s.heap.objs.size:=by
   rintro b ((rfl|⟨x,hx⟩)|hb)
   ·refine byC fun kq=>?_
    obtain⟨mm,⟨o,es,ep,g,_⟩,_⟩:=fr.loc
    refine kq ?_;try clear kq
    exact Heap.lt_size g
   ·refine byC fun kq=>?_
    obtain⟨ov,o,g,_⟩:=fr.celX x b hx
    refine kq ?_;try clear kq
    exact Heap.lt_size g
   ·exact(st.fr_lt hb).2
  have pr0:∀ b,F b→yt env l ρ1 b:=fun b hF=>⟨nm0 b hF,fun z=>absurd (own_lt b (.inl z)) (Nat.not_lt.mpr (T.foot 0 ρ1 _ b p0 hF).1),fun z=>absurd (own_lt b (.inr z)) (Nat.not_lt.mpr (T.foot 0 ρ1 _ b p0 hF).1)⟩
  clear own_lt nm0
  refine codeAny_forLoop_any (ForI C env l ρ s P F items.length (CN C env l ρ s Q E G fa fb items)) ?_ (items.length + 1)
   ⟨0,m,ρ1,H1,e1.no,fr.ev st e1,⟨p0,pr0⟩,Nat.zero_le _,p,rfl⟩
  clear p p0 pr0 e1
  rintro k s2 ⟨i,m2,ρ2,H2,x2,fr2,⟨pi,pri⟩,hi,p2,rfl⟩
  replace p2:bJ C env l ρ s Q E (eX G fa fb (items.drop i) m2 H2):=p2
  refine dD fun Q1 h1=>?_
  cases hv:items[i]? with
  | none=>
   rw[List.drop_eq_nil_of_le (List.getElem?_eq_none_iff.mp hv)]at p2
   unfold eX at p2
   by_cases hG:G H2
   ·rw[if_pos hG]at p2
    exact wpAny_mono (T.stop ρ2 H2 s2 (fun s3=>Q1 none s3) _ x2.st hG (Nat.le_antisymm hi (List.getElem?_eq_none_iff.mp hv) ▸ pi) fun s3 e3=>h1 _ _ (wpAny_execs_nil (p2 ρ2 _ s3 (x2.transF e3 (Nat.le_refl _)) (fr2.evF x2.st e3) .next))) (fun r s3 z=>z.1 ▸ z.2) fun _ _ z=>z
   ·rw[if_neg hG]at p2;exact p2.elim
  | some v=>
   refine byC fun kq=>?_
   obtain⟨hlt,hd⟩:=yI hv
   refine kq ?_;try clear kq
   rw[hd]at p2
   unfold eX at p2
   by_cases hG:G H2
   ·rw[if_pos hG]at p2
    refine wpAny_mono (T.item i v ρ2 H2 s2 (fun y s3=>wpAny (model C.prog C.w) A (assign tgt env y) _ _ s3) _ x2.st hG pi hv fun y s3 e3 p3 r3=>?_) (fun r s3 z=>by obtain⟨y,rfl,z⟩:=z;exact h1 _ _ z) fun _ _ z=>z
    clear h1 Q1
    have x3:=x2.transF e3 (Nat.le_refl _)
    have fr3:=fr2.evF x2.st e3
    have exc:∀ m H2 ρ2 e s2,Ev C l (c0 env) ρ s ρ2 H2 s2→FrOk C env l m ρ2 s2.heap→Fly C env.frame s.heap.objs.size e s2.heap→(∀ ρ' e s',Ev C l (c0 env) ρ s ρ' H2 s'→FrOk C env l m ρ' s'.heap→Fly C env.frame s.heap.objs.size e s'.heap→E (.ref e) s')→
     notedBy (model C.prog C.w) A env (fun e s'=>cameBackBy (model C.prog C.w) A env E e s') (.ref e) s2:=fun m H2 ρ2 e s2 x fr fl q=>mS ha st.lo x fr fl q
    refine hA A env l m2 ρ2 H2 s3 v y _ _ hb ha he fr3 e3.st r3 (bJ.from p2 x3 (fun fl m4 H4 ρ4 F s4 _ y4 x4 fr4 rf p4=>?_) exc)
    rintro rfl
    cases rf
    have pi4:=T.kept p3 pri e3.st fr3 y4
    refine jP fun E1 hE=>dD fun Q1 h1=>?_
    refine hB A env l m4 ρ4 H4 s4 _ _ hb ha he fr4 x4.st (bJ.from p4 x4 (fun fl m5 H5 ρ5 F s5 _ y5 x5 fr5 rf p5=>h1 _ _ ?_) fun m H2 ρ2 e s2 x fr fl q=>hE _ _ (exc m H2 ρ2 e s2 x fr fl q))
    have pi5:=T.kept pi4.1 pi4.2 x4.st fr4 y5
    cases rf with
    | next=>exact⟨_,rC hlt,i + 1,m5,ρ5,H5,x5,fr5,pi5,hlt,p5,rfl⟩
    | cont=>exact⟨_,rC hlt,i + 1,m5,ρ5,H5,x5,fr5,pi5,hlt,p5,rfl⟩
    | brk=>exact p5 ρ5 _ s5 x5 fr5 .next
    | ret r=>exact p5 ρ5 _ s5 x5 fr5 (.ret r)
   ·rw[if_neg hG]at p2;exact p2.elim

theorem Ev.ofF{l ρ H} {s s':Shared}{n0:Nat}(st:St C l ρ H s) (k:bt (FW n0 s.heap) (dA l) s.heap s'.heap) (hl:C.h0.objs.size≤n0) (hr:s'.gens=s.gens∧s'.drawn=s.drawn∧s'.os=s.os):Ev C l (FW n0 s.heap) ρ s ρ H s':=by
 refine⟨⟨fun b o e=>k.exact (st.old b o e) (fun z=>?_) fun z=>?_,st.hi,CX st.lo k.1,⟨hr.1.trans st.rest.1,hr.2.1.trans st.rest.2.1,hr.2.2.trans st.rest.2.2⟩,⟨st.rep.len,fun i o p ho hp=>?_,st.rep.apart⟩,?_,st.frm⟩,
  ⟨[],by simp,fun _ h=>nomatch h⟩,k.mono fun _ w=>.inr w⟩
 ·exact absurd (Dd (Heap.lt_size e) hl) (Nat.not_lt.mpr z.1)
 ·have:=(st.fr_lt z).1
  rw[this]at e;cases e
 ·have r:=st.rep.obj i o p ho hp
  have nf:=r.noF n0
  exact r.keep k (fun _ w _=>w.nt) (fun _ _ z=>z) (fun _ _ z=>z) ⟨nf.1,fun z=>st.frm _ z ⟨p,List.mem_of_getElem? hp,.inl rfl⟩⟩ ⟨nf.2,fun z=>st.frm _ z ⟨p,List.mem_of_getElem? hp,.inr rfl⟩⟩
 ·refine gh st.frs fun b o hb g=>?_
  refine byC fun kq=>?_
  obtain⟨sl,g',_⟩:=k.2 b o g (FunFrames.noF st.frs hb _)
  refine kq ?_;try clear kq
  exact⟨_,g',rfl⟩
theorem dY{n0:Nat}{X:Addr→Prop}{h h':Heap}{I:Addr}(w:FW n0 h I) (sz:h.objs.size≤h'.objs.size) (k:Heap.ExtBut I h h'):bt (FW n0 h) X h h':=
 ⟨sz,fun b o e n=>⟨o.slots,k b o (fun z=>n (z ▸ w)) e,fun _=>rfl⟩⟩

theorem gm{M:Model}{A:Around}{s:Shared}{tgt:Expr}{I:Addr}{y:Value}{o:Obj}{T:String}{Q:Unit→Shared→Prop}{E:Value→Shared→Prop}(g:s.heap.get? I=some o) (hc:o.cls=.type T)
  (hT:(["enumerate","zip","dict_itemiterator","dict_reverseitemiterator","odict_iterator","itertools.zip_longest","itertools.pairwise"]:List String).contains T=false) (q:Q () s):wpAny M A (letOwnedTupleGo tgt (.ref I) y) Q E s:=by
 have go:wpAny M A (do
   let (.ref r,.ref a):=(Value.ref I,y)|return
   let o ← load r
   match o.cls,o.data with
   | .type n,.fields vs=>
    if ["enumerate","zip","dict_itemiterator","dict_reverseitemiterator","odict_iterator","itertools.zip_longest","itertools.pairwise"].contains n && vs[0]? == some (rawInt a)then
     rule "for.unpacks-the-owned-tuple"
     updateField r 0 .none
   | _,_=>pure ()) Q E s:=by
  cases y with
  | ref a=>
   refine wpAny_bind (wpAny_load g ?_)
   rw[hc]
   cases o.data with
   | fields vs=>
    dsimp only
    rw[hT,Bool.false_and,if_neg (by simp)]
    exact wpAny_pure q
   | _=>exact wpAny_pure q
  | _=>exact wpAny_pure q
 unfold letOwnedTupleGo
 cases tgt with
 | Tuple=>exact go
 | List=>exact go
 | _=>exact wpAny_pure q

theorem dB{l ρ H s} (st:St C l ρ H s) {j:Nat}{xs:List V}{a dd:Addr}(hG:H[j]? = some (.list xs)) (hp:ρ[j]? = some (a,dd)):∃ items,s.heap.IsList a items∧RepVs ρ s.heap xs items.toList∧items.size=xs.length∧(∃ n sl,s.heap.get? a=some ⟨.type "list",none,.seq items n,sl⟩)∧dd=a:=by
 refine byC fun kq=>?_
 obtain⟨e,n,items,sl,g,rs⟩:=st.rep.obj j _ _ hG hp
 refine kq ?_;try clear kq
 refine⟨items,⟨_,g,rfl,n,rfl⟩,rs,?_,⟨n,sl,g⟩,e.symm⟩
 rw[rs.length,Array.length_toList]

theorem wK{A l tgt} {j:Nat}{xs:List V}{I a:Addr}{n0:Nat}(hb:Bud d A) (hn:C.h0.objs.size≤n0) (hI:n0≤I):
  Itr C A l tgt n0 I (fun b=>b=I) xs (fun H=>H[j]? = some (.list xs)) (fun i ρ h=>h.IsListIter I a i∧RepV ρ h (.ref j) (.ref a)) where
 foot:=fun i ρ h b ⟨⟨o,g,_⟩,_⟩ hF=>hF ▸ ⟨hI,o,g⟩
 frame:=fun i ρ ρ' h h' ⟨⟨o,g,r⟩,rv⟩ k rk=>⟨⟨o,k I o rfl g,r⟩,rk _ _ rv⟩
 item:=by
  rintro i v ρ H s Q E st hG ⟨it,rv⟩ hv hQ
  cases rv with
  | ref hp=>
   refine byC fun kq=>?_
   obtain⟨items,hl,rs,hsz,_⟩:=dB st hG hp
   obtain⟨y,hy,ry⟩:=rs.get hv
   refine kq ?_;try clear kq
   refine wpAny_pyNext_list_item it hl (by rw[← Array.getElem?_toList];exact hy) fun h' it' hs=>⟨y,rfl,?_⟩
   refine byC fun kq=>?_
   obtain⟨o,g,hc,hd⟩:=it
   have w:FW n0 s.heap I:=⟨hI,o,_,g,hd⟩
   have k:bt (FW n0 s.heap) (dA l) s.heap h':=dY w (Nat.le_of_eq hs.1.symm) hs.extBut
   have it0:=it'
   obtain⟨o',g',hc',hd'⟩:=it'
   refine kq ?_;try clear kq
   refine gm (s:={ s with heap:=h' }) g' hc' (by decide) ?_
   exact hQ y { s with heap:=h' } (Ev.ofF st k hn ⟨rfl,rfl,rfl⟩) ⟨it0,.ref hp⟩ (ry.keep k (fun _ w _=>w.nt) (fun _ _ z=>z) fun _ _ z=>z)
 stop:=by
  rintro ρ H s Q E st hG ⟨it,rv⟩ hQ
  cases rv with
  | ref hp=>
   refine byC fun kq=>?_
   obtain⟨items,hl,rs,hsz,_⟩:=dB st hG hp
   refine kq ?_;try clear kq
   refine dE ?_
   refine wpAny_pyNext_list_end hb.2.2 it hl (by rw[Array.getElem?_eq_none_iff];omega) fun h' hs sz=>⟨rfl,?_⟩
   refine byC fun kq=>?_
   obtain⟨o,g,hc,hd⟩:=it
   refine kq ?_;try clear kq
   have w:FW n0 s.heap I:=⟨hI,o,_,g,hd⟩
   exact hQ { s with heap:=h' } (Ev.ofF st (dY w sz hs) hn ⟨rfl,rfl,rfl⟩)
 self:=fun i ρ s Q E p q=>wpAny_pyIter_listiter p.1 q

theorem uM{A l tgt} {vs:List V}{I a:Addr}{n0:Nat}(hb:Bud d A) (hn:C.h0.objs.size≤n0) (hI:n0≤I):
  Itr C A l tgt n0 I (fun b=>b=I) vs (fun _=>True) (fun i ρ h=>h.IsTupleIter I a i∧RepV ρ h (.tup vs) (.ref a)) where
 foot:=fun i ρ h b ⟨⟨o,g,_⟩,_⟩ hF=>hF ▸ ⟨hI,o,g⟩
 frame:=fun i ρ ρ' h h' ⟨⟨o,g,r⟩,rv⟩ k rk=>⟨⟨o,k I o rfl g,r⟩,rk _ _ rv⟩
 item:=by
  rintro i v ρ H s Q E st _ ⟨it,rv⟩ hv hQ
  have rv0:=rv
  cases rv with
  | tup hm g0 hc0 hd0 rs=>
   refine byC fun kq=>?_
   obtain⟨y,hy,ry⟩:=rs.get hv
   refine kq ?_;try clear kq
   refine wpAny_pyNext_tuple_item it ⟨_,g0,hc0,_,hd0⟩ (by rw[← Array.getElem?_toList];exact hy) fun h' it' hs=>⟨y,rfl,?_⟩
   refine byC fun kq=>?_
   obtain⟨o,g,hc,hd⟩:=it
   have w:FW n0 s.heap I:=⟨hI,o,_,g,hd⟩
   have k:bt (FW n0 s.heap) (dA l) s.heap h':=dY w (Nat.le_of_eq hs.1.symm) hs.extBut
   have it0:=it'
   obtain⟨o',g',hc',hd'⟩:=it'
   refine kq ?_;try clear kq
   refine gm (s:={ s with heap:=h' }) g' hc' (by decide) ?_
   exact hQ y { s with heap:=h' } (Ev.ofF st k hn ⟨rfl,rfl,rfl⟩) ⟨it0,rv0.keep k (fun _ w _=>w.nt) (fun _ _ z=>z) fun _ _ z=>z⟩ (ry.keep k (fun _ w _=>w.nt) (fun _ _ z=>z) fun _ _ z=>z)
 stop:=by
  rintro ρ H s Q E st _ ⟨it,rv⟩ hQ
  cases rv with
  | tup hm g0 hc0 hd0 rs=>
   refine dE ?_
   refine wpAny_pyNext_tuple_end hb.2.2 it ⟨_,g0,hc0,_,hd0⟩ (by rw[Array.getElem?_eq_none_iff,rs.length,Array.length_toList];exact Nat.le_refl _) fun h' hs sz=>⟨rfl,?_⟩
   refine byC fun kq=>?_
   obtain⟨o,g,hc,hd⟩:=it
   refine kq ?_;try clear kq
   have w:FW n0 s.heap I:=⟨hI,o,_,g,hd⟩
   exact hQ { s with heap:=h' } (Ev.ofF st (dY w sz hs) hn ⟨rfl,rfl,rfl⟩)
 self:=fun i ρ s Q E p q=>wpAny_pyIter_tupleiter p.1 q


theorem fY.bindL{C A env l tgt ρ s Q E} {o:Out (List V)}{k:List V→Hp→Out It}{Q':List Value→Shared→Prop}(p:fY C A env l tgt ρ s Q E (o.bind k))
  (h:∀ vs H1 ρ1 ys s1,Ev C l No ρ s ρ1 H1 s1→RepVs ρ1 s1.heap vs ys→fY C A env l tgt ρ s Q E (k vs H1)→Q' ys s1):dW C l env.frame ρ s Q' E o:=by
 cases o with
 | bad=>exact p.elim
 | exc H1=>exact p
 | ok vs H1=>exact fun ρ1 ys s1 e r=>h _ _ _ _ _ e r p
theorem fY.bindE{C A env l tgt ρ s Q E} {o:Out V}{k:V→Hp→Out It}{Q':Value→Shared→Prop}(p:fY C A env l tgt ρ s Q E (o.bind k))
  (h:∀ v H1 ρ1 y s1,Ev C l No ρ s ρ1 H1 s1→RepV ρ1 s1.heap v y→fY C A env l tgt ρ s Q E (k v H1)→Q' y s1):aJ C l env.frame ρ s Q' E o:=by
 cases o with
 | bad=>exact p.elim
 | exc H1=>exact p
 | ok vs H1=>exact fun ρ1 ys s1 e r=>h _ _ _ _ _ e r p
noncomputable def Ap(v:V) (H1:Hp):Out It:=match v with
 | .ref j=>onL H1[j]? (fun xs=>.ok (.mk xs fun H=>H[j]? = some (.list xs)) H1) .bad
 | .tup vs=>.ok (.mk vs fun _=>True) H1
 | _=>.bad
@[elab_as_elim] theorem sy{P:Out It→Prop}{H:Hp}{G:V→Prop}(v:V) (nb:¬P .bad) (p:P (Ap v H)) (k1:∀ (j:Nat) xs,H[j]? = some (.list xs)→P (.ok (.mk xs fun H=>H[j]? = some (.list xs)) H)→G (.ref j)) (k2:∀ vs,P (.ok (.mk vs fun _=>True) H)→G (.tup vs)):G v:=by
 cases v<;>try exact absurd p nb
 ·exact k2 _ p
 ·refine byC fun kq=>?_
  obtain⟨xs,ho,p⟩:=cX nb p
  refine kq ?_;try clear kq
  exact k1 _ _ ho p
noncomputable def dz(f:FE):Fm→Hp→Out It:=fun m H=>(f m H).bind Ap
theorem vm{e tgt f} (h:bg C d sc e f):jr C d sc e tgt (dz f):=by
 intro A env l m ρ H s Q E hb ha he fr st p
 refine h A env l m ρ H s _ E hb ha he fr st (fY.bindE p fun v H1 ρ1 y s1 e1 r1 p=>?_)
 revert r1
 refine sy v (P:=fY C A env l tgt ρ s Q E) id p (fun j xs ho p r1=>mU r1 fun a dd hp=>?a) (fun vs p r1=>mV r1 fun a o items n hm g0 hc0 hd0 rs=>?b)
 case a=>
  refine byC fun kq=>?_
  obtain⟨items,hl,rs,_⟩:=dB e1.st ho hp
  refine kq ?_;try clear kq
  refine wpAny_pyIter_list hl ?_
  exact p ρ1 _ _ _ _ (e1.trans (Ev.keepNo e1.st (bt.push ..) ⟨rfl,rfl,rfl⟩)) (wK (j:=j) (a:=a) hb st.lo e1.keep.1) ⟨⟨_,Heap.get?_push_size _ rfl,rfl,rfl⟩,.ref hp⟩ (fun b hF=>hF ▸ e1.st.fresh (Nat.le_refl _))
 case b=>
  refine wpAny_pyIter_tuple ⟨_,g0,hc0,_,hd0⟩ ?_
  exact p ρ1 _ _ _ _ (e1.trans (Ev.keepNo e1.st (bt.push ..) ⟨rfl,rfl,rfl⟩)) (uM hb st.lo e1.keep.1) ⟨⟨_,Heap.get?_push_size _ rfl,rfl,rfl⟩,(RepV.tup hm g0 hc0 hd0 rs).keep (bt.push (W:=No) (X:=No) _ _) (fun _ h=>h.elim) (fun _ _ z=>z) fun _ _ z=>z⟩ (fun b hF=>hF ▸ e1.st.fresh (Nat.le_refl _))
end
section
variable {C:Cx}{d:Nat}{sc:Scope}

noncomputable def eu(a:Int) (n:Nat):List V:=(List.range n).map fun(i:Nat)=>.int (a + (i:Int))
theorem t8(n:Int) (i:Nat):n - ((i + 1:Nat):Int)=n - i - 1:=by omega
theorem tV(a b:Int):(if a < b then b - a else 0)=(((b - a).toNat:Nat):Int) - ((0:Nat):Int):=by
 split<;>omega
theorem oX{x:Int}(h1:-9000000000≤x) (h2:x≤9000000000):Builtin.Range.rangeFitsLong x=true:=by
 unfold Builtin.Range.rangeFitsLong
 rw[Bool.and_eq_true,decide_eq_true_eq,decide_eq_true_eq]
 exact⟨Int.le_trans (by decide) h1,Int.lt_of_le_of_lt h2 (by decide)⟩
theorem xe{a b:Int}(ha:-1000000000≤a) (hb':b≤1000000000):-9000000000≤(if a < b then b - a else 0)∧(if a < b then b - a else 0)≤9000000000:=by
 split<;>omega
theorem rA{a b:Int}(ha:-1000000000≤a) (ha':a≤1000000000) (hb:-1000000000≤b) (hb':b≤1000000000):Builtin.Range.small a b 1=true:=by
 have f:∀ {x:Int},-1000000000≤x→x≤1000000000→Builtin.Range.rangeFitsLong x=true:=fun h1 h2=>oX (Int.le_trans (by decide) h1) (Int.le_trans h2 (by decide))
 have g:=xe ha hb'
 rw[← rangeSize_one]at g
 unfold Builtin.Range.small
 rw[f ha ha',f hb hb',f (x:=1) (by decide) (by decide),oX g.1 g.2]
 simp only[Bool.true_and,Bool.or_eq_true]
 right
 rw[if_pos (by decide)]
 exact oX (Int.le_trans (by decide) (Int.add_le_add hb (by decide:(-1000000000:Int)≤_))) (Int.le_trans (Int.add_le_add hb' (by decide:_≤(1000000000:Int))) (by decide))

theorem nN{A l tgt} {a:Int}{n:Nat}{I:Addr}{n0:Nat}(hb:Bud d A) (hn:C.h0.objs.size≤n0) (hI:n0≤I):
  Itr C A l tgt n0 I (fun b=>b=I) (eu a n) (fun _=>True) (fun i ρ h=>IsRangeIter h I (a + i) ((n:Int) - i) 1) where
 foot:=fun i ρ h b it hF=>hF ▸ ⟨hI,_,it⟩
 frame:=fun i ρ ρ' h h' g k _=>k I _ rfl g
 self:=fun i ρ s Q E p q=>wpAny_pyIter_rangeiter p q
 item:=by
  rintro i v ρ H s Q E st _ it hv hQ
  have hlt:i < n:=by have:=(List.getElem?_eq_some_iff.mp hv).1;simpa [eu] using this
  have hv':v=.int (a + i):=by
   unfold eu at hv
   rw[List.getElem?_map,List.getElem?_range hlt]at hv
   simpa using hv.symm
  subst hv'
  refine wpAny_pyNext_range_item it (Int.sub_pos_of_lt (Int.ofNat_lt.mpr hlt)) fun h' it' hs=>⟨_,rfl,?_⟩
  have w:FW n0 s.heap I:=⟨hI,_,_,it,rfl⟩
  have k:bt (FW n0 s.heap) (dA l) s.heap h':=dY w (Nat.le_of_eq hs.1.symm) hs.extBut
  refine gm (s:={ s with heap:=h',toks:=s.toks + 1 }) it' rfl (by decide) ?_
  refine hQ _ { s with heap:=h',toks:=s.toks + 1 } (Ev.ofF st k hn ⟨rfl,rfl,rfl⟩) ?_ (.int _ _)
  have e1:a + ((i + 1:Nat):Int)=a + i + 1:=(Int.add_assoc a i 1).symm
  have e2:(n:Int) - ((i + 1:Nat):Int)=n - i - 1:=t8 n i
  rw[e1,e2]
  exact it'
 stop:=by
  rintro ρ H s Q E st _ it hQ
  refine dE ?_
  refine wpAny_pyNext_range_end hb.2.2 it (by simp[eu]) fun h' hs sz=>⟨rfl,?_⟩
  have w:FW n0 s.heap I:=⟨hI,_,_,it,rfl⟩
  exact hQ { s with heap:=h' } (Ev.ofF st (dY w sz hs) hn ⟨rfl,rfl,rfl⟩)

theorem jN{x np es pos tgt g} {f:Value}{k:List V→Hp→Out It}(O:C.Ok) (hn:fB C sc x f) (hk:Looks (model C.prog C.w) C.h0 (keeperOf f) .machine) (hs:es.all noStar=true) (h:ku C d sc es g)
  (body:∀ {A env l ρ H s Q E ρ1 H1 s1 vs ys},Bud d A→St C l ρ H s→Ev C l No ρ s ρ1 H1 s1→RepVs ρ1 s1.heap vs ys→fY C A env l tgt ρ s Q E (k vs H1)→wpAny (model C.prog C.w) A (call f ys []) (fun x s2=>wpAny (model C.prog C.w) A (pyIter x) Q E s2) E s1):
  jr C d sc (.Call (.Name x np) es [] pos) tgt (fun m H=>(g m H).bind k):=by
 intro A env l m ρ H s Q E hb ha he fr st p
 refine wpAny_Call_ofName ?_
 have rest:wpAny (model C.prog C.w) A (callWith pos f [] (backTo pos (starEach es env)) (backToKw pos (keywordEach [] env))) (fun x s1=>wpAny (model C.prog C.w) A (pyIter x) Q E s1) E s:=
  d6 hs hk (h A env l m ρ H s _ E pos hb ha he fr st (fY.bindL p fun vs H1 ρ1 ys s1 e1 r1 p=>⟨e1.st.old,body hb st e1 r1 p⟩))
 obtain⟨hg,hn|⟨h1,h2⟩⟩:=hn
 ·exact gO O hg hn he fr st rest
 ·exact tM O hg h1 h2 he fr st rest
noncomputable def wL(vs:List V) (H1:Hp):Out It:=match vs with
 | [.int n]=>if -1000000000≤n∧n≤1000000000 then .ok (.mk (eu 0 n.toNat) fun _=>True) H1 else .bad
 | [.int a,.int b]=>if (-1000000000≤a∧a≤1000000000)∧-1000000000≤b∧b≤1000000000 then .ok (.mk (eu a (b - a).toNat) fun _=>True) H1 else .bad
 | _=>.bad
@[elab_as_elim] theorem qH{P:Out It→Prop}{H:Hp}{G:List V→Prop}(vs:List V) (nb:¬P .bad) (p:P (wL vs H)) (k1:∀ n:Int,-1000000000≤n∧n≤1000000000→P (.ok (.mk (eu 0 n.toNat) fun _=>True) H)→G [.int n])
  (k2:∀ a b:Int,(-1000000000≤a∧a≤1000000000)∧-1000000000≤b∧b≤1000000000→P (.ok (.mk (eu a (b - a).toNat) fun _=>True) H)→G [.int a,.int b]):G vs:=by
 rcases vs with _|⟨a,r⟩<;>try exact absurd p nb
 cases a<;>try exact absurd p nb
 rcases r with _|⟨b,r⟩
 ·refine byC fun kq=>?_
  obtain⟨h,p⟩:=br nb p
  refine kq ?_;try clear kq
  exact k1 _ h p
 cases b<;>try exact absurd p nb
 rcases r with _|⟨b,r⟩<;>try exact absurd p nb
 refine byC fun kq=>?_
 obtain⟨h,p⟩:=br nb p
 refine kq ?_;try clear kq
 exact k2 _ _ h p
noncomputable def df(g:Fm→Hp→Out (List V)):Fm→Hp→Out It:=fun m H=>(g m H).bind wL
theorem rl{x np es pos tgt g} (O:C.Ok) (hn:fB C sc x (.type "range")) (hs:es.all noStar=true) (h:ku C d sc es g):jr C d sc (.Call (.Name x np) es [] pos) tgt (df g):=by
 refine jN O hn (Looks.of_pure rfl) hs h fun {A env l ρ H s Q E ρ1 H1 s1 vs ys} hb st e1 r1 p=>?_
 revert r1
 refine qH vs (P:=fY C A env l tgt ρ s Q E) id p (fun n hc p r1=>rs1 r1 fun y r=>fP r fun t=>call_range_1 ?a) (fun a b hc p r1=>rs2 r1 fun y y' r r'=>fP r fun t=>fP r' fun t'=>call_range_2 ?b)
 case a=>
  have e2:=e1.trans (Ev.keepNo (s':={ s1 with heap:=s1.heap.push { cls:=.type "range",data:=.fields #[.int 0 s1.toks,.int n t,.int 1 (s1.toks + 1)] },toks:=s1.toks + 1 + 1 }) e1.st (bt.push ..) ⟨rfl,rfl,rfl⟩)
  refine wpAny_pyIter_range (s:={ s1 with heap:=s1.heap.push { cls:=.type "range",data:=.fields #[.int 0 s1.toks,.int n t,.int 1 (s1.toks + 1)] },toks:=s1.toks + 1 + 1 }) (IsRange.new ..) (rA (by decide) (by decide) hc.1 hc.2) ?_
  refine p ρ1 _ _ _ _ (e2.trans (Ev.keepNo e2.st (bt.push ..) ⟨rfl,rfl,rfl⟩)) (nN hb st.lo e2.keep.1) ?_ (fun b hF=>hF ▸ e2.st.fresh (Nat.le_refl _))
  rw[rangeSize_one,(tV 0 n).trans (by rw[Int.sub_zero])]
  exact Heap.get?_push_size _ rfl
 case b=>
  have e2:=e1.trans (Ev.keepNo (s':={ s1 with heap:=s1.heap.push { cls:=.type "range",data:=.fields #[.int a t,.int b t',.int 1 s1.toks] },toks:=s1.toks + 1 }) e1.st (bt.push ..) ⟨rfl,rfl,rfl⟩)
  refine wpAny_pyIter_range (s:={ s1 with heap:=s1.heap.push { cls:=.type "range",data:=.fields #[.int a t,.int b t',.int 1 s1.toks] },toks:=s1.toks + 1 }) (IsRange.new ..) (rA hc.1.1 hc.1.2 hc.2.1 hc.2.2) ?_
  refine p ρ1 _ _ _ _ (e2.trans (Ev.keepNo e2.st (bt.push ..) ⟨rfl,rfl,rfl⟩)) (nN hb st.lo e2.keep.1) ?_ (fun b hF=>hF ▸ e2.st.fresh (Nat.le_refl _))
  have e0:a + ((0:Nat):Int)=a:=Int.add_zero a
  rw[rangeSize_one,tV a b,e0]
  exact Heap.get?_push_size _ rfl
end

noncomputable def gV(C:Cx) (d:Nat) (f:Value→Value→Sem Value) (F:V→V→Hp→Out V):Prop:=
 ∀ (A:Around) (l:List Env) (v w:V) (x y:Value) (ρ:Rho) (H:Hp) (s:Shared) (Q E:Value→Shared→Prop),
  Bud d A→A.frames=some l→St C l ρ H s→RepV ρ s.heap v x→RepV ρ s.heap w y→aJ C l none ρ s Q E (F v w H)→wpAny (model C.prog C.w) A (f x y) Q E s


section
variable {C:Cx}{d:Nat}{sc:Scope}

noncomputable def aD(F:V→V→Hp→Out V) (f g:FE):FE:=fun m H=>(f m H).bind fun v H1=>(g m H1).bind fun w H2=>F v w H2
theorem xk{a op b pos F f g} (h1:bg C d sc a f) (h2:bg C d sc b g) (hF:gV C d (binaryOp op) F):bg C d sc (.BinOp a op b pos) (aD F f g):=by
 intro A env l m ρ H s Q E hb ha he fr st p
 refine wpAny_BinOp (h1 A env l m ρ H s _ E hb ha he fr st (aJ.bind p fun v H1 ρ1 x s1 _ e1 r1 p1=>?_))
 refine h2 A env l m ρ1 H1 s1 _ E hb ha he (fr.ev st e1) e1.st (aJ.bind p1 fun w H2 ρ2 y s2 _ e2 r2 p2=>?_)
 exact hF A l v w x y ρ2 H2 s2 Q E hb ha e2.st (r1.ev0 e1.st e2) r2 p2.any
theorem xl{a op b pos F f g} (h1:bg C d sc a f) (h2:bg C d sc b g) (hF:gV C d (compareOp op) F) (hm:behindInMarks op b=false):bg C d sc (.Compare a [op] [b] pos) (aD F f g):=by
 intro A env l m ρ H s Q E hb ha he fr st p
 refine wpAny_Compare1 (h1 A env l m ρ H s _ E hb ha he fr st (aJ.bind p fun v H1 ρ1 x s1 _ e1 r1 p1=>?_)) hm
 refine h2 A env l m ρ1 H1 s1 _ E hb ha he (fr.ev st e1) e1.st (aJ.bind p1 fun w H2 ρ2 y s2 _ e2 r2 p2=>?_)
 exact hF A l v w x y ρ2 H2 s2 Q E hb ha e2.st (r1.ev0 e1.st e2) r2 p2.any
theorem xM{a op b pos F f g} (h1:bg C d sc a f) (h2:bg C d sc b g) (hF:gV C d (compareOp op) F) (hm:behindInMarks op b=false):lz C d sc (.Compare a [op] [b] pos) (aD F f g):=by
 intro A env l m ρ H s Q E hb ha he fr st p
 refine wpAny_isTrue_Compare1 (h1 A env l m ρ H s _ E hb ha he fr st (aJ.bind p fun v H1 ρ1 x s1 _ e1 r1 p1=>?_)) hm
 refine h2 A env l m ρ1 H1 s1 _ E hb ha he (fr.ev st e1) e1.st (aJ.bind p1 fun w H2 ρ2 y s2 _ e2 r2 p2=>?_)
 exact hF A l v w x y ρ2 H2 s2 _ E hb ha e2.st (r1.ev0 e1.st e2) r2 (p2.any.mono fun c s3 ⟨b,e,q⟩=>e ▸ wpAny_truthy_bool q)
theorem xN{e f} (h:bg C d sc e f) (he':∀ env whole,isTrue e env whole=(do let v ← whole;standAt e.pos;holding [v] (truthy v))):lz C d sc e f:=by
 intro A env l m ρ H s Q E hb ha he fr st p
 exact wpAny_isTrue_value (h A env l m ρ H s _ E hb ha he fr st (p.mono fun c s3 ⟨b,e,q⟩=>e ▸ wpAny_truthy_bool q)) (he' env _)

noncomputable def jB(f:FE):FE:=fun m H=>(f m H).bind fun v H=>match v with
 | .bool b=>.ok (.bool !b) H
 | _=>.bad
theorem xp{e pos f} (h:bg C d sc e f):bg C d sc (.UnaryOp .Not e pos) (jB f):=by
 intro A env l m ρ H s Q E hb ha he fr st p
 refine wpAny_UnaryOp (h A env l m ρ H s _ E hb ha he fr st (aJ.bind p fun v H1 ρ1 x s1 _ e1 r1 p1=>?_))
 cases r1 with
 | bool b=>exact not_value (wpAny_truthy_bool (p1 ρ1 _ s1 (.refl e1.st) (.bool _)))
 | _=>exact p1.elim
noncomputable def kH(f:FE):FE:=fun m H=>(f m H).bind fun v H=>match v with
 | .int i=>.ok (.int (-i)) H
 | _=>.bad
theorem xn{e pos f} (h:bg C d sc e f):bg C d sc (.UnaryOp .USub e pos) (kH f):=by
 intro A env l m ρ H s Q E hb ha he fr st p
 refine wpAny_UnaryOp (h A env l m ρ H s _ E hb ha he fr st (aJ.bind p fun v H1 ρ1 x s1 _ e1 r1 p1=>?_))
 cases r1 with
 | int i t=>exact P.neg_int (p1 ρ1 _ _ (.tok e1.st) (.int _ _))
 | _=>exact p1.elim

noncomputable def mD(f g:FE):FE:=fun m H=>(f m H).bind fun v H=>match v with
 | .bool true=>g m H
 | .bool false=>.ok (.bool false) H
 | _=>.bad
noncomputable def fOr(f g:FE):FE:=fun m H=>(f m H).bind fun v H=>match v with
 | .bool false=>g m H
 | .bool true=>.ok (.bool true) H
 | _=>.bad
noncomputable def iw(C:Cx) (d:Nat) (sc:Scope) (op:BoolOp) (es:List Expr) (f:FE):Prop:=
 ∀ (A:Around) (env:Env) (l:List Env) (m:Fm) (ρ:Rho) (H:Hp) (s:Shared) (Q:Bool→Shared→Prop) (E:Value→Shared→Prop),
  Bud d A→A.frames=some l→env.scope=sc→FrOk C env l m ρ s.heap→St C l ρ H s→aJ C l env.frame ρ s (fun v s'=>∃ b,v=.bool b∧Q b s') E (f m H)→wpAny (model C.prog C.w) A (allTrue op es env) Q E s
theorem sQ{e f} (h:lz C d sc e f):iw C d sc .And [e] f:=by
 intro A env l m ρ H s Q E hb ha he fr st p
 refine wpAny_allTrue_And_cons (h A env l m ρ H s _ E hb ha he fr st (p.mono fun c s3 ⟨b,e,q⟩=>⟨b,e,?_⟩))
 cases b
 ·exact q
 ·exact wpAny_allTrue_And_nil q
theorem vu{e f} (h:lz C d sc e f):iw C d sc .Or [e] f:=by
 intro A env l m ρ H s Q E hb ha he fr st p
 refine wpAny_allTrue_Or_cons (h A env l m ρ H s _ E hb ha he fr st (p.mono fun c s3 ⟨b,e,q⟩=>⟨b,e,?_⟩))
 cases b
 ·exact wpAny_allTrue_Or_nil q
 ·exact q
theorem qZ{e r f g} (h:lz C d sc e f) (h2:iw C d sc .And r g):iw C d sc .And (e::r) (mD f g):=by
 intro A env l m ρ H s Q E hb ha he fr st p
 refine wpAny_allTrue_And_cons (h A env l m ρ H s _ E hb ha he fr st (aJ.bind p fun v H1 ρ1 x s1 _ e1 r1 p1=>?_))
 cases r1 with
 | bool b=>
  refine⟨b,rfl,?_⟩
  cases b with
  | false=>
   refine byC fun kq=>?_
   obtain⟨b',e,q⟩:=p1 ρ1 _ s1 (.refl e1.st) (.bool _)
   refine kq ?_;try clear kq
   cases e;exact q
  | true=>exact h2 A env l m ρ1 H1 s1 Q E hb ha he (fr.ev st e1) e1.st p1
 | _=>exact p1.elim
theorem sZ{e r f g} (h:lz C d sc e f) (h2:iw C d sc .Or r g):iw C d sc .Or (e::r) (fOr f g):=by
 intro A env l m ρ H s Q E hb ha he fr st p
 refine wpAny_allTrue_Or_cons (h A env l m ρ H s _ E hb ha he fr st (aJ.bind p fun v H1 ρ1 x s1 _ e1 r1 p1=>?_))
 cases r1 with
 | bool b=>
  refine⟨b,rfl,?_⟩
  cases b with
  | true=>
   refine byC fun kq=>?_
   obtain⟨b',e,q⟩:=p1 ρ1 _ s1 (.refl e1.st) (.bool _)
   refine kq ?_;try clear kq
   cases e;exact q
  | false=>exact h2 A env l m ρ1 H1 s1 Q E hb ha he (fr.ev st e1) e1.st p1
 | _=>exact p1.elim
theorem vz{op es pos f} (h:iw C d sc op es f):lz C d sc (.BoolOp op es pos) f:=by
 intro A env l m ρ H s Q E hb ha he fr st p
 exact wpAny_isTrue_BoolOp (h A env l m ρ H s Q E hb ha he fr st p)
theorem xq{a b pos f g} (h1:bg C d sc a f) (h2:bg C d sc b g):bg C d sc (.BoolOp .Or [a,b] pos) (fOr f g):=by
 intro A env l m ρ H s Q E hb ha he fr st p
 refine wpAny_Or2 (h1 A env l m ρ H s _ E hb ha he fr st (aJ.bind p fun v H1 ρ1 x s1 _ e1 r1 p1=>?_))
 cases r1 with
 | bool b=>
  refine wpAny_truthy_bool ?_
  cases b with
  | true=>exact p1 ρ1 _ s1 (.refl e1.st) (.bool _)
  | false=>exact h2 A env l m ρ1 H1 s1 Q E hb ha he (fr.ev st e1) e1.st p1
 | _=>exact p1.elim

noncomputable def dK(t f g:FE):FE:=fun m H=>(t m H).bind fun v H=>match v with
 | .bool true=>f m H
 | .bool false=>g m H
 | _=>.bad
theorem sS{t a b pos ft f g} (h0:lz C d sc t ft) (h1:bg C d sc a f) (h2:bg C d sc b g):bg C d sc (.IfExp t a b pos) (dK ft f g):=by
 intro A env l m ρ H s Q E hb ha he fr st p
 refine wpAny_IfExp (h0 A env l m ρ H s _ E hb ha he fr st (aJ.bind p fun v H1 ρ1 x s1 _ e1 r1 p1=>?_))
 cases r1 with
 | bool b=>
  refine⟨b,rfl,?_⟩
  cases b with
  | true=>exact h1 A env l m ρ1 H1 s1 Q E hb ha he (fr.ev st e1) e1.st p1
  | false=>exact h2 A env l m ρ1 H1 s1 Q E hb ha he (fr.ev st e1) e1.st p1
 | _=>exact p1.elim

noncomputable def eZ(xs:List V) (H:Hp):Out V:=if xs.length≤1000000 then .ok (.ref H.length) (H++[.list xs])else .bad
theorem tN{l ρ H s} {xs:List V}{ys:List Value}{sl n} (st:St C l ρ H s) (r:RepVs ρ s.heap xs ys):
  Ev C l No ρ s (ρ++[(s.heap.objs.size,s.heap.objs.size)]) (H++[.list xs]) { s with heap:=s.heap.push ⟨.type "list",none,.seq ys.toArray n,sl⟩ }∧
  RepV (ρ++[(s.heap.objs.size,s.heap.objs.size)]) (s.heap.push ⟨.type "list",none,.seq ys.toArray n,sl⟩) (.ref H.length) (.ref s.heap.objs.size):=by
 have pre:∀ (i:Nat) (q:Addr × Addr),ρ[i]? = some q→(ρ++[(s.heap.objs.size,s.heap.objs.size)])[i]? = some q:=fun i q e=>by rw[List.getElem?_append_left (List.getElem?_eq_some_iff.mp e).1];exact e
 refine⟨Ev.grow st (bt.push ..) ⟨rfl,rfl,rfl⟩ ⟨Nat.le_refl _,Nat.le_refl _⟩ ⟨rfl,n,ys.toArray,sl,Heap.get?_push_size _ rfl,?_⟩,.ref (d:=s.heap.objs.size) ?_⟩
 ·refine r.keep (bt.push (W:=No) (X:=No) _ _) (fun _ h=>h.elim) pre fun b hb n q=>?_
  rcases dc.mp q with q|⟨q,hq,z⟩
  ·exact n q
  ·rw[List.mem_singleton.mp hq]at z
   rcases z with rfl|rfl<;>exact absurd hb (Nat.lt_irrefl _)
 ·rw[← st.rep.len];simp
theorem jf{fr l ρ H s Q E} {xs:List V}{ys:List Value}{n} (p:aJ C l fr ρ s Q E (eZ xs H)) (st:St C l ρ H s) (r:RepVs ρ s.heap xs ys):ys.length≤1000000∧Q (.ref s.heap.objs.size) { s with heap:=s.heap.push ⟨.type "list",none,.seq ys.toArray n,#[]⟩ }:=by
 unfold eZ at p
 by_cases hl:xs.length≤1000000
 ·rw[if_pos hl]at p
  refine byC fun kq=>?_
  obtain⟨e,r'⟩:=tN (sl:=#[]) (n:=n) st r
  refine kq ?_;try clear kq
  exact⟨r.length ▸ hl,p _ _ _ e r'⟩
 ·rw[if_neg hl]at p;exact p.elim
noncomputable def b8(g:Fm→Hp→Out (List V)):FE:=fun m H=>(g m H).bind eZ
theorem vh{es pos g} (h:ku C d sc es g):bg C d sc (.List es pos) (b8 g):=by
 intro A env l m ρ H s Q E hb ha he fr st p
 refine List_ (h A env l m ρ H s _ E pos hb ha he fr st (aJ.bindL p fun vs H1 ρ1 ys s1 _ e1 r1 p1=>?_))
 refine byC fun kq=>?_
 obtain⟨hl,q⟩:=jf (n:=0) p1 e1.st r1
 refine kq ?_;try clear kq
 exact wpAny_newObj_type q (by show ys.toArray.size≤sizeLine;rw[List.size_toArray];exact iY hl)
end

noncomputable def lI(f:V→Option PyData):List V→Option (List PyData)
 | []=>some []
 | v::r=>onO (f v) (fun d=>onO (lI f r) (fun ds=>some (d::ds)) none) none
theorem pD{f:V→Option PyData}{v:V}{r:List V}:lI f (v::r)=onO (f v) (fun d=>onO (lI f r) (fun ds=>some (d::ds)) none) none:=rfl
noncomputable def Bq(H:Hp) (g:List V→Option (List PyData)):V→Option PyData
 | .none=>some .none
 | .bool b=>some (.bool b)
 | .int i=>some (.int i)
 | .str x=>if PyData.strOk x=true then some (.str x)else none
 | .tup vs=>(g vs).map .tuple
 | .ref l=>onL H[l]? (fun xs=>(g xs).map .list) none
noncomputable def toD(H:Hp):Nat→V→Option PyData
 | 0=>Bq H fun _=>none
 | n + 1=>Bq H (lI (toD H n))

section
variable {C:Cx}{d:Nat}{sc:Scope}

noncomputable def DOk(H:Hp) (h:Heap) (n:Nat) (x:Value) (dt:PyData):Prop:=∃ as,Reads h x dt as∧dt.canLay0=true∧dt.depth≤n
theorem uc{ρ:Rho}{H:Hp}{h:Heap}{n:Nat}{f:V→Option PyData}(hf:∀ v x dt,f v=some dt→RepV ρ h v x→DOk H h n x dt) {vs:List V}:∀ {xs:List Value}{ds:List PyData},lI f vs=some ds→RepVs ρ h vs xs→
  ∃ as,ReadsAll h xs ds as∧PyData.canLayAll0 ds=true∧PyData.depthAll ds≤n:=by
 induction vs with
 | nil=>intro xs ds e r;cases e;cases r.invN;exact⟨_,.nil,by simp[PyData.canLayAll0],by simp[PyData.depthAll]⟩
 | cons v vs ih=>
  intro xs ds e q
  refine byC fun kq=>?_
  obtain⟨x,xs,rfl,r,rs⟩:=q.inv
  obtain⟨d1,h1,e⟩:=bE (P:=fun o=>o=some ds) nns (pD ▸ e)
  obtain⟨d2,h2,e⟩:=bE (P:=fun o=>o=some ds) nns e
  refine kq ?_;try clear kq
  cases e
  refine byC fun kq=>?_
  obtain⟨as,ra,ca,da⟩:=hf _ _ _ h1 r
  obtain⟨bs,rb,cb,db⟩:=ih h2 rs
  refine kq ?_;try clear kq
  exact⟨_,.cons ra rb,by rw[PyData.canLayAll0,ca,cb];rfl,by rw[PyData.depthAll];exact Nat.max_le.mpr ⟨da,db⟩⟩
theorem ua{l ρ H s} {n:Nat}{g:List V→Option (List PyData)}(st:St C l ρ H s) (hg:∀ vs xs ds,g vs=some ds→RepVs ρ s.heap vs xs→∃ as,ReadsAll s.heap xs ds as∧PyData.canLayAll0 ds=true∧PyData.depthAll ds + 1≤n)
  (v:V) (x:Value) (dt:PyData) (e:Bq H g v=some dt) (r:RepV ρ s.heap v x):DOk H s.heap n x dt:=by
 cases v with
 | none=>cases e;exact CB r ⟨_,.none,rfl,by rw[PyData.depth];exact Nat.zero_le n⟩
 | bool b=>cases e;exact CA r ⟨_,.bool b,rfl,by rw[PyData.depth];exact Nat.zero_le n⟩
 | int i=>cases e;exact fP r fun t=>⟨_,.int i t,rfl,by rw[PyData.depth];exact Nat.zero_le n⟩
 | str x=>
  refine byC fun kq=>?_
  obtain⟨hx,e⟩:=br (P:=fun o=>o=some dt) nns e
  refine kq ?_;try clear kq
  cases e
  exact uX r fun t=>⟨_,.str x t,by rw[PyData.canLay0];exact hx,by rw[PyData.depth];exact Nat.zero_le n⟩
 | tup vs=>
  refine byC fun kq=>?_
  obtain⟨ds,q,rfl⟩:=Option.map_eq_some_iff.mp e
  refine kq ?_;try clear kq
  refine mV r fun a o items n' m g c dd rs=>?_
  refine byC fun kq=>?_
  obtain⟨as,ra,ca,da⟩:=hg _ _ _ q rs
  refine kq ?_;try clear kq
  exact⟨_,.tuple g c dd ra,by rw[PyData.canLay0];exact ca,by rw[PyData.depth];exact da⟩
 | ref i=>
  refine byC fun kq=>?_
  obtain⟨xs,ho,e⟩:=cX (P:=fun o=>o=some dt) nns e
  obtain⟨ds,q,rfl⟩:=Option.map_eq_some_iff.mp e
  refine kq ?_;try clear kq
  refine mU r fun a dd hp=>?_
  refine byC fun kq=>?_
  obtain⟨items,hl,rs,_,⟨n',sl,g⟩,_⟩:=dB st ho hp
  obtain⟨as,ra,ca,da⟩:=hg _ _ _ q rs
  refine kq ?_;try clear kq
  exact⟨_,.list g rfl rfl ra,by rw[PyData.canLay0];exact ca,by rw[PyData.depth];exact da⟩
theorem kQ{l ρ H s} (st:St C l ρ H s):∀ (n:Nat) (v:V) (x:Value) (dt:PyData),toD H n v=some dt→RepV ρ s.heap v x→DOk H s.heap n x dt:=by
 intro n
 induction n with
 | zero=>exact ua st fun _ _ _ e=>by cases e
 | succ n ih=>
  exact ua st fun vs xs ds e r=>by
   refine byC fun kq=>?_
   obtain⟨as,ra,ca,da⟩:=uc (H:=H) ih e r
   refine kq ?_;try clear kq
   exact⟨as,ra,ca,Nat.succ_le_succ da⟩

noncomputable def oEq:V→V→Hp→Out V:=fun v w H=>match toD H 20 v,toD H 20 w with
 | some a,some b=>.ok (.bool (PyData.eqv a b)) H
 | _,_=>.bad
noncomputable def oNe:V→V→Hp→Out V:=fun v w H=>match toD H 20 v,toD H 20 w with
 | some a,some b=>.ok (.bool !(PyData.eqv a b)) H
 | _,_=>.bad
theorem Bud.roomC{d A n} (b:Bud d A) (h:n≤100):A.units + n < cLine:=Nat.add_lt_add_of_lt_of_le (Dc (C9 _ _) b.2.1) h
theorem zD:gV C d (compareOp .Eq) oEq:=by
 intro A l v w x y ρ H s Q E hb ha st r1 r2 p
 unfold oEq at p
 cases h1:toD H 20 v with
 | none=>rw[h1]at p;exact p.elim
 | some a=>
  cases h2:toD H 20 w with
  | none=>rw[h1,h2]at p;exact p.elim
  | some b=>
   rw[h1,h2]at p
   refine byC fun kq=>?_
   obtain⟨as,ra,ca,da⟩:=kQ st 20 v x a h1 r1
   obtain⟨bs,rb,cb,db⟩:=kQ st 20 w y b h2 r2
   refine kq ?_;try clear kq
   exact SeqAt.compareEq_reads ra rb ca cb (hb.roomC (CX (Nat.min_le_left _ _) (by omega))) (p ρ _ s (.refl st) (.bool _))
theorem zH:gV C d (compareOp .NotEq) oNe:=by
 intro A l v w x y ρ H s Q E hb ha st r1 r2 p
 unfold oNe at p
 cases h1:toD H 20 v with
 | none=>rw[h1]at p;exact p.elim
 | some a=>
  cases h2:toD H 20 w with
  | none=>rw[h1,h2]at p;exact p.elim
  | some b=>
   rw[h1,h2]at p
   refine byC fun kq=>?_
   obtain⟨as,ra,ca,da⟩:=kQ st 20 v x a h1 r1
   obtain⟨bs,rb,cb,db⟩:=kQ st 20 w y b h2 r2
   refine kq ?_;try clear kq
   exact SeqAt.compareNe_reads ra rb ca cb (hb.roomC (CX (Nat.min_le_left _ _) (by omega))) (p ρ _ s (.refl st) (.bool _))

theorem ji{op:Value→Value→Sem Value}(k:Int→Int→Hp→Out V) (h:∀ {A:Around}{l:List Env}{a b:Int}{t u:Tok}{ρ:Rho}{H:Hp}{s:Shared}{Q E:Value→Shared→Prop},St C l ρ H s→aJ C l none ρ s Q E (k a b H)→wpAny (model C.prog C.w) A (op (.int a t) (.int b u)) Q E s):
  gV C d op fun v w H=>qR (fun a b=>k a b H) .bad v w:=by
 intro A l v w x y ρ H s Q E hb ha st r1 r2 p
 revert r1 r2
 exact uU v w (P:=aJ C l none ρ s Q E) id p fun a b p r1 r2=>fP r1 fun t=>fP r2 fun u=>h st p
noncomputable def oLt:V→V→Hp→Out V:=fun v w H=>qR (fun a b=>.ok (.bool (decide (a < b))) H) .bad v w
noncomputable def oGt:V→V→Hp→Out V:=fun v w H=>qR (fun a b=>.ok (.bool (decide (a > b))) H) .bad v w
theorem zG:gV C d (compareOp .Lt) oLt:=ji (fun a b H=>.ok (.bool (decide (a < b))) H) fun st p=>P.lt_int (p _ _ _ (.refl st) (.bool _))
theorem zE:gV C d (compareOp .Gt) oGt:=ji (fun a b H=>.ok (.bool (decide (a > b))) H) fun st p=>P.gt_int (p _ _ _ (.refl st) (.bool _))

noncomputable def isNone:V→Bool | .none=>true|_=>false
noncomputable def gy:V→V→Hp→Out V:=fun v w H=>match w with | .none=>.ok (.bool (isNone v)) H|_=>.bad
theorem sJ{ρ h v x} (r:RepV ρ h v x):(x == .none)=isNone v:=by cases r<;>rfl
theorem rq:gV C d (compareOp .Is) gy:=by
 intro A l v w x y ρ H s Q E hb ha st r1 r2 p
 cases r2 with
 | none=>
  refine is_none (p ρ _ s (.refl st) ?_)
  rw[sJ r1];exact .bool _
 | _=>exact p.elim

theorem dJ{l ρ H s} (st:St C l ρ H s) {i:Nat}{xs:List V}{y:Value}(ho:H[i]? = some (.list xs)) (r:RepV ρ s.heap (.ref i) y):∃ a items n sl,y=.ref a∧s.heap.get? a=some ⟨.type "list",none,.seq items n,sl⟩∧RepVs ρ s.heap xs items.toList∧ρ[i]? = some (a,a):=by
 refine mU r fun a d hp=>?_
 refine byC fun kq=>?_
 obtain⟨items,hl,rs,_,⟨n,sl,g⟩,e⟩:=dB st ho hp
 refine kq ?_;try clear kq
 exact⟨_,items,n,sl,rfl,g,rs,e ▸ hp⟩

noncomputable def iu:V→V→Hp→Out V:=fun v w H=>match v,w with
 | .int a,.int b=>.ok (.int (a + b)) H
 | .str a,.str b=>if a.length≤1000∧b.length≤1000 then .ok (.str (a++b)) H else .bad
 | .ref i,.ref j=>onL H[i]? (fun xs=>onL H[j]? (fun ys=>eZ (xs++ys) H) .bad) .bad
 | _,_=>.bad
@[elab_as_elim] theorem uR{P:Out V→Prop}{H:Hp}{G:V→V→Prop}(v w:V) (nb:¬P .bad) (p:P (iu v w H)) (k1:∀ a b:Int,P (.ok (.int (a + b)) H)→G (.int a) (.int b))
  (k2:∀ a b:Str,a.length≤1000∧b.length≤1000→P (.ok (.str (a++b)) H)→G (.str a) (.str b)) (k3:∀ (i j:Nat) (xs ys:List V),H[i]? = some (.list xs)→H[j]? = some (.list ys)→P (eZ (xs++ys) H)→G (.ref i) (.ref j)):G v w:=by
 cases v<;>try exact absurd p nb
 ·cases w<;>try exact absurd p nb
  exact k1 _ _ p
 ·cases w<;>try exact absurd p nb
  refine byC fun kq=>?_
  obtain⟨h,p⟩:=br nb p
  refine kq ?_;try clear kq
  exact k2 _ _ h p
 ·cases w<;>try exact absurd p nb
  refine byC fun kq=>?_
  obtain⟨xs,hx,p⟩:=cX nb p
  obtain⟨ys,hy,p⟩:=cX nb p
  refine kq ?_;try clear kq
  exact k3 _ _ _ _ hx hy p
theorem t7{x:Str}(h:(x.length == 0)=true):x=⟨#[]⟩:=by
 cases x with
 | mk c=>
  have:c.size=0:=by simpa [Str.length] using h
  rw[Array.eq_empty_of_size_eq_zero this]
theorem vY{A:Around}{a b:Str}{t u:Tok}{s:Shared}{Q E:Value→Shared→Prop}(hl:a.length≤1000∧b.length≤1000) (q:∀ t s',(s'=s∨s'={ s with toks:=s.toks + 1 })→Q (.str (a++b) t) s'):wpAny (model C.prog C.w) A (binaryOp .Add (.str a t) (.str b u)) Q E s:=by
 refine P.add_str ?_
 by_cases hz:(a.length == 0)=true
 ·rw[if_pos hz]
  have z:=t7 hz
  subst z
  have:(⟨#[]⟩++b:Str)=b:=by cases b;show Str.mk (#[]++_)=_;simp
  rw[this]at q
  exact q _ s (.inl rfl)
 ·rw[if_neg hz]
  by_cases hz:(b.length == 0)=true
  ·rw[if_pos hz]
   have z:=t7 hz
   subst z
   have:(a++⟨#[]⟩:Str)=a:=by cases a;show Str.mk (_++#[])=_;simp
   rw[this]at q
   exact q _ s (.inl rfl)
  ·rw[if_neg hz]
   exact⟨by rw[strLen_append,sizeLine_eq];omega,q _ _ (.inr rfl)⟩
theorem xE:gV C d (binaryOp .Add) iu:=by
 intro A l v w x y ρ H s Q E hb ha st r1 r2 p
 revert r1 r2
 refine uR v w (P:=aJ C l none ρ s Q E) id p (fun a b p r1 r2=>fP r1 fun t=>fP r2 fun u=>P.add_int (p ρ _ _ (.tok st) (.int _ _)))
  (fun a b hl p r1 r2=>uX r1 fun t=>uX r2 fun u=>vY hl fun t s' h=>?_) (fun i j xs ys hx hy p r1 r2=>?_)
 ·refine byC fun kq=>?_
  obtain⟨a,items,n,sl,rfl,g,rs,_⟩:=dJ st hx r1
  obtain⟨b,items2,n2,sl2,rfl,g2,rs2,_⟩:=dJ st hy r2
  obtain⟨hl,q⟩:=jf (n:=0) p st (rs.append rs2)
  refine kq ?_;try clear kq
  refine concat_meets ⟨_,g,rfl⟩ ⟨_,g2,rfl⟩ noFill_list_add seq_list_add PySem.F.slot_list_add PySem.F.entry_list_add (PySem.F.args_list_add_2 _ _) (list_addW a b items items2 n n2 none none sl sl2 (iY (by rw[← Array.length_toList,← Array.length_toList,← C1];exact hl))) ⟨g,g2,?_⟩
  rw[← Array.toList_append,Array.toArray_toList]at q
  exact q
 ·rcases h with rfl|rfl
  ·exact p ρ _ _ (.refl st) (.str _ _)
  ·exact p ρ _ _ (.tok st) (.str _ _)

noncomputable def qP:V→V→Hp→Out V:=fun v w H=>qR (fun a b=>.ok (.int (a - b)) H) .bad v w
theorem xI:gV C d (binaryOp .Sub) qP:=ji (fun a b H=>.ok (.int (a - b)) H) fun st p=>P.sub_int (p _ _ _ (.tok st) (.int _ _))
noncomputable def pk:V→V→Hp→Out V:=fun v w H=>qR (fun a b=>if -1000000000000≤a∧a≤1000000000000 then .ok (.int (a * b)) H else .bad) .bad v w
theorem uQ{a b:Int}(h:-1000000000000≤a∧a≤1000000000000):IntMulOk a b:=IntMulOk.of_left (intBits_le_64 (by omega) (by omega))
theorem xH:gV C d (binaryOp .Mult) pk:=ji (fun a b H=>if -1000000000000≤a∧a≤1000000000000 then .ok (.int (a * b)) H else .bad) fun {_ l _ _ _ _ ρ _ s Q E} st p=>by
 refine byC fun kq=>?_
 obtain⟨h,p⟩:=br (P:=aJ C l none ρ s Q E) id p
 refine kq ?_;try clear kq
 exact P.mul_int (p _ _ _ (.tok st) (.int _ _)) (uQ h)
noncomputable def lG:V→V→Hp→Out V:=fun v w H=>qR (fun a b=>if ¬b=0 then .ok (.int (a.fmod b)) H else .bad) .bad v w
theorem xG:gV C d (binaryOp .Mod) lG:=ji (fun a b H=>if ¬b=0 then .ok (.int (a.fmod b)) H else .bad) fun {_ l _ _ _ _ ρ _ s Q E} st p=>by
 refine byC fun kq=>?_
 obtain⟨h,p⟩:=br (P:=aJ C l none ρ s Q E) id p
 refine kq ?_;try clear kq
 exact mod_int' h (p _ _ _ (.tok st) (.int _ _))
noncomputable def zg:V→V→Hp→Out V:=fun v w H=>qR (fun a b=>if ¬(b=0∨1000000000 < b.natAbs)then .ok (.int (a.fdiv b)) H else .bad) .bad v w
theorem xF:gV C d (binaryOp .FloorDiv) zg:=ji (fun a b H=>if ¬(b=0∨1000000000 < b.natAbs)then .ok (.int (a.fdiv b)) H else .bad) fun {_ l _ _ _ _ ρ _ s Q E} st p=>by
 refine byC fun kq=>?_
 obtain⟨h,p⟩:=br (P:=aJ C l none ρ s Q E) id p
 obtain⟨h0,h1⟩:=not_or.mp h
 refine kq ?_;try clear kq
 exact floordiv_int h0 (p _ _ _ (.tok st) (.int _ _)) (Or.inl (PyProof.noPylong_small (by omega)))

noncomputable def inD(H:Hp) (v:V) (xs:List V):Option Bool:=match toD H 20 v,lI (toD H 20) xs with
 | some a,some ds=>some (ds.any fun y=>PyData.eqv y a)
 | _,_=>none
noncomputable def oIn:V→V→Hp→Out V:=fun v w H=>onO (fQ H w) (fun xs=>onO (inD H v xs) (fun b=>.ok (.bool b) H) .bad) .bad
noncomputable def iU:V→V→Hp→Out V:=fun v w H=>onO (fQ H w) (fun xs=>onO (inD H v xs) (fun b=>.ok (.bool !b) H) .bad) .bad
theorem o3{l ρ H s} (st:St C l ρ H s) {v:V}{x:Value}{xs:List V}{ys:List Value}{b:Bool}(h:inD H v xs=some b) (r:RepV ρ s.heap v x) (rs:RepVs ρ s.heap xs ys):∃ a ds as bs,Reads s.heap x a as∧a.canLay0=true∧a.depth≤20∧ReadsAll s.heap ys ds bs∧PyData.canLayAll0 ds=true∧b=ds.any fun y=>PyData.eqv y a:=by
 unfold inD at h
 cases h1:toD H 20 v with
 | none=>rw[h1]at h;cases h
 | some a=>
  cases h2:lI (toD H 20) xs with
  | none=>rw[h1,h2]at h;cases h
  | some ds=>
   rw[h1,h2]at h
   refine byC fun kq=>?_
   obtain⟨as,ra,ca,da⟩:=kQ st 20 v x a h1 r
   obtain⟨bs,rb,cb,db⟩:=uc (H:=H) (kQ st 20) h2 rs
   refine kq ?_;try clear kq
   exact⟨a,ds,as,bs,ra,ca,da,rb,cb,(Option.some.inj h).symm⟩
theorem zF:gV C d (compareOp .In) oIn:=by
 intro A l v w x y ρ H s Q E hb ha st r1 r2 p
 refine byC fun kq=>?_
 obtain⟨xs,hw,p⟩:=bE (P:=aJ C l none ρ s Q E) id p
 obtain⟨b,q,p⟩:=bE (P:=aJ C l none ρ s Q E) id p
 refine kq ?_;try clear kq
 revert r2
 refine pB w hw (fun r2=>mV r2 fun a o items n hm g c dd rs=>?_) fun i ho r2=>?_
 ·refine byC fun kq=>?_
  obtain⟨a',items,n,sl,rfl,g,rs,_⟩:=dJ st ho r2
  obtain⟨a,ds,as,bs,ra,ca,da,rb,cb,rfl⟩:=o3 st q r1 rs
  refine kq ?_;try clear kq
  exact SeqAt.in_list_reads (.list g rfl rfl rb) ra cb ca (Dc (Da (CX (Nat.min_le_right _ _) da) _) (hb.roomC (n:=21) (by decide))) (p ρ _ s (.refl st) (.bool _))
 ·refine byC fun kq=>?_
  obtain⟨a,ds,as,bs,ra,ca,da,rb,cb,rfl⟩:=o3 st q r1 rs
  refine kq ?_;try clear kq
  exact SeqAt.in_tuple_reads (.tuple g c dd rb) ra cb ca (Dc (Da (CX (Nat.min_le_right _ _) da) _) (hb.roomC (n:=21) (by decide))) (p ρ _ s (.refl st) (.bool _))
theorem sY:gV C d (compareOp .NotIn) iU:=by
 intro A l v w x y ρ H s Q E hb ha st r1 r2 p
 refine byC fun kq=>?_
 obtain⟨xs,hw,p⟩:=bE (P:=aJ C l none ρ s Q E) id p
 obtain⟨b,q,p⟩:=bE (P:=aJ C l none ρ s Q E) id p
 refine kq ?_;try clear kq
 revert r2
 refine pB w hw (fun r2=>mV r2 fun a o items n hm g c dd rs=>?_) fun i ho r2=>?_
 ·refine byC fun kq=>?_
  obtain⟨a',items,n,sl,rfl,g,rs,_⟩:=dJ st ho r2
  obtain⟨a,ds,as,bs,ra,ca,da,rb,cb,rfl⟩:=o3 st q r1 rs
  refine kq ?_;try clear kq
  exact SeqAt.notIn_list_reads (.list g rfl rfl rb) ra cb ca (Dc (Da (CX (Nat.min_le_right _ _) da) _) (hb.roomC (n:=21) (by decide))) (p ρ _ s (.refl st) (.bool _))
 ·refine byC fun kq=>?_
  obtain⟨a,ds,as,bs,ra,ca,da,rb,cb,rfl⟩:=o3 st q r1 rs
  refine kq ?_;try clear kq
  exact SeqAt.notIn_tuple_reads (.tuple g c dd rb) ra cb ca (Dc (Da (CX (Nat.min_le_right _ _) da) _) (hb.roomC (n:=21) (by decide))) (p ρ _ s (.refl st) (.bool _))
end

noncomputable def dI{K:Type} [DecidableEq K] (kvs:List (K × V)) (k:K):Option V:=(kvs.find? fun kv=>kv.1=k).map (·.2)
noncomputable def dM{K:Type} [DecidableEq K] (kvs:List (K × V)) (k:K) (v:V):List (K × V):=
 if kvs.any (fun kv=>kv.1=k)then kvs.map (fun kv=>if kv.1=k then(kv.1,v)else kv)else kvs++[(k,v)]
theorem kD{K:Type} [DecidableEq K] (a:K) (v:V) (r:List (K × V)) (k:K):dI ((a,v)::r) k=if a=k then some v else dI r k:=by
 unfold dI
 by_cases h:a=k
 ·simp[List.find?_cons,h]
 ·simp[List.find?_cons,h]
theorem pF{K:Type} [DecidableEq K] (a:K) (v:Value) (r:List (K × Value)) (k:K):valueAt ((a,v)::r) k=if a=k then some v else valueAt r k:=by
 unfold valueAt
 by_cases h:a=k
 ·simp[List.find?_cons,h]
 ·simp[List.find?_cons,h]
theorem qm{K:Type}{ρ:Rho}{h:Heap}{P:List (K × V)→List Value→Prop}(h0:P [] []) (hc:∀ a v r y ys,RepV ρ h v y→P r ys→P ((a,v)::r) (y::ys)) {kvs:List (K × V)}:∀ {ys:List Value},RepVs ρ h (kvs.map (·.2)) ys→P kvs ys:=by
 induction kvs with
 | nil=>exact fun r=>rs0 r h0
 | cons p r ih=>exact fun q=>rsC q fun y ys r1 rs=>hc p.1 p.2 r y ys r1 (ih rs)
theorem li{K:Type} [DecidableEq K] {ρ:Rho}{h:Heap}{k:K}{kvs:List (K × V)}:∀ {ys:List Value},RepVs ρ h (kvs.map (·.2)) ys→
  (∀ v,dI kvs k=some v→∃ y,valueAt ((kvs.map (·.1)).zip ys) k=some y∧RepV ρ h v y)∧(dI kvs k=none→valueAt ((kvs.map (·.1)).zip ys) k=none):=
 qm (P:=fun kvs ys=>(∀ v,dI kvs k=some v→∃ y,valueAt ((kvs.map (·.1)).zip ys) k=some y∧RepV ρ h v y)∧(dI kvs k=none→valueAt ((kvs.map (·.1)).zip ys) k=none))
  ⟨fun v e=>nns e,fun _=>rfl⟩ fun a v r y ys rv ih=>by
   show(∀ w,dI ((a,v)::r) k=some w→∃ z,valueAt ((a,y)::(r.map (·.1)).zip ys) k=some z∧RepV ρ h w z)∧(dI ((a,v)::r) k=none→valueAt ((a,y)::(r.map (·.1)).zip ys) k=none)
   rw[kD,pF]
   by_cases hk:a=k
   ·rw[if_pos hk,if_pos hk]
    exact⟨fun w e=>⟨y,rfl,Option.some.inj e ▸ rv⟩,fun e=>nns e.symm⟩
   ·rw[if_neg hk,if_neg hk]
    exact ih
theorem yy{K:Type} [DecidableEq K] {k:K}{kvs:List (K × V)}:∀ {ys:List Value},(kvs.map (·.2)).length=ys.length→(((kvs.map (·.1)).zip ys).any fun kv=>decide (kv.1=k))=kvs.any fun kv=>decide (kv.1=k):=by
 induction kvs with
 | nil=>intro ys _;rfl
 | cons p r ih=>
  intro ys e
  cases ys with
  | nil=>cases e
  | cons y ys=>
   simp only[List.map_cons,List.zip_cons_cons,List.any_cons]
   rw[ih (Nat.succ.inj e)]
theorem zv{K:Type} [DecidableEq K] {ρ:Rho}{h:Heap}{k:K}{v:V}{y:Value}(rv:RepV ρ h v y) {kvs:List (K × V)}:∀ {ys:List Value},RepVs ρ h (kvs.map (·.2)) ys→
  ∃ ys',(((kvs.map (·.1)).zip ys).map fun kv=>if kv.1=k then(kv.1,y)else kv)=((kvs.map fun kv=>if kv.1=k then(kv.1,v)else kv).map (·.1)).zip ys'∧RepVs ρ h ((kvs.map fun kv=>if kv.1=k then(kv.1,v)else kv).map (·.2)) ys':=
 qm (P:=fun kvs ys=>∃ ys',(((kvs.map (·.1)).zip ys).map fun kv=>if kv.1=k then(kv.1,y)else kv)=((kvs.map fun kv=>if kv.1=k then(kv.1,v)else kv).map (·.1)).zip ys'∧RepVs ρ h ((kvs.map fun kv=>if kv.1=k then(kv.1,v)else kv).map (·.2)) ys')
  ⟨[],rfl,.nil⟩ fun a w r z ys rw ⟨ys',e,q⟩=>by
   have e0:∀ u:Value,(if a=k then(a,y)else(a,u))=((if a=k then(a,v)else(a,w)).1,if a=k then y else u):=fun u=>by
    by_cases hk:a=k
    ·rw[if_pos hk,if_pos hk,if_pos hk]
    ·rw[if_neg hk,if_neg hk,if_neg hk]
   refine⟨(if a=k then y else z)::ys',?_,?_⟩
   ·rw[List.map_cons,List.map_cons,List.map_cons,List.zip_cons_cons,List.map_cons,e,List.zip_cons_cons]
    exact congrArg (·::_) (e0 z)
   ·refine .cons ?_ q
    by_cases hk:a=k
    ·rw[if_pos hk];show RepV ρ h (if a=k then(a,v)else(a,w)).2 y;rw[if_pos hk];exact rv
    ·rw[if_neg hk];show RepV ρ h (if a=k then(a,v)else(a,w)).2 z;rw[if_neg hk];exact rw
theorem jM{K:Type} [DecidableEq K] {ρ:Rho}{h:Heap}{k:K}{v:V}{y:Value}(rv:RepV ρ h v y) {kvs:List (K × V)}{ys:List Value}(r:RepVs ρ h (kvs.map (·.2)) ys):
  ∃ ys',stored ((kvs.map (·.1)).zip ys) k y=((dM kvs k v).map (·.1)).zip ys'∧RepVs ρ h ((dM kvs k v).map (·.2)) ys':=by
 unfold stored dM
 rw[yy r.length]
 split
 ·exact zv rv r
 ·refine⟨ys++[y],?_,?_⟩
  ·rw[De,List.zip_append (by simpa using r.length)]
   rfl
  ·rw[De]
   exact r.append (.cons rv .nil)

section
variable {C:Cx}{d:Nat}{sc:Scope}

theorem rO{A:Around}{prog w} {E:Value→Shared→Prop}{s:Shared}{a:Addr}{items:Array Value}{n:Nat}{sl:Array (Option Value)}{x:Value}{Q:Value→Shared→Prop}(g:s.heap.get? a=some ⟨.type "list",none,.seq items n,sl⟩)
  (h:∀ h' n',h'.get? a=some ⟨.type "list",none,.seq (items.push x) n',sl⟩→Heap.SameBut a s.heap h'→Q .none { s with heap:=h' }) (hsz:items.size≤sizeLine):
  wpAny (model prog w) A (call (.builtin "list.append") [.ref a,x]) Q E s:=by
 refine wpAny_call_entry slot_list_append ⟨_,g,rfl⟩ entry_list_append ?_ (args_list_append _ _)
 show wpAny _ _ (updateSeq a (·.push x) >>= fun _=>ret .none) _ _ s
 refine wpAny_bind ?_
 have e:Obj.mapSeq (·.push x) ⟨.type "list",none,.seq items n,sl⟩=⟨.type "list",none,.seq (items.push x) (n + 1),sl⟩:=by simp[Obj.mapSeq]
 refine wpAny_updateSeq g rfl (wpAny_pure ⟨.none,rfl,h _ (n + 1) ?_ (Heap.SameBut.update ..)⟩)
 rw[Heap.get?_update_self _ g (by rw[e];rfl),e]

theorem qY{A:Around}{prog w} {E:Value→Shared→Prop}{s:Shared}{a:Addr}{items:Array Value}{n:Nat}{sl:Array (Option Value)}{k:Int}{t:Tok}{v:Value}{Q:Unit→Shared→Prop}(g:s.heap.get? a=some ⟨.type "list",none,.seq items n,sl⟩)
  (h0:0≤k) (hfit:k < 2 ^ 63) (hn:k < items.size)
  (hQ:∀ h' n',h'.get? a=some ⟨.type "list",none,.seq (items.setIfInBounds k.toNat v) n',sl⟩→Heap.SameBut a s.heap h'→Q () { s with heap:=h' }):
  wpAny (model prog w) A (setItem (.ref a) (.int k t) v) Q E s:=by
 have hl:s.heap.IsList a items:=⟨_,g,rfl,n,rfl⟩
 unfold setItem
 try with_reducible refine wpAny_holding ?_
 first|refine wpAny_bind (wpAny_pure ?_)|skip
 refine wpAny_bind (wpAny_sequenceKey hl.typeIs (by decide) ?_)
 refine wpAny_bind (wpAny_callSpecial?_slot (name:=CW "__setitem__") hl.typeIs slot_list_setitem
  (wpAny_call_entry slot_list_setitem hl.typeIs entry_list_setitem ?_ (args_list_setitem _ _ _)))
 show wpAny _ _ (Builtin.List.listSubscript? (.int k t) >>= _) _ _ s
 refine wpAny_bind (wpAny_listSubscript_int (fitsIndex_of h0 hfit) ?_)
 clear hfit
 refine byC fun kq=>?_
 obtain⟨j,rfl⟩:=Int.eq_ofNat_of_zero_le h0
 refine kq ?_;try clear kq
 have hj:j < items.size:=by omega
 have hx':items[j]? = some items[j]:=Array.getElem?_eq_getElem hj
 show wpAny _ _ ((seqItemAt a j >>= fun r=>pure (r.map (j,·))) >>= _) _ _ s
 refine wpAny_bind (wpAny_bind (wpAny_seqItemAt g rfl (wpAny_pure ?_)))
 rw[hx']
 show wpAny _ _ (setSeqItemAt a j v >>= _) _ _ s
 have e:∃ n',Obj.mapSeq (·.setIfInBounds j v) ⟨.type "list",none,.seq items n,sl⟩=⟨.type "list",none,.seq (items.setIfInBounds j v) n',sl⟩:=⟨_,rfl⟩
 refine byC fun kq=>?_
 obtain⟨n',e⟩:=e
 refine kq ?_;try clear kq
 have hfin:(s.heap.update a (Obj.mapSeq (·.setIfInBounds j v))).get? a=some ⟨.type "list",none,.seq (items.setIfInBounds j v) n',sl⟩:=by
  rw[Heap.get?_update_self _ g (by rw[e];rfl),e]
 refine wpAny_bind (wpAny_setSeqItemAt g rfl ?_)
 first
  | exact wpAny_bind (wpAny_pure (wpAny_pure ⟨.none,rfl,wpAny_pure (hQ _ n' hfin (Heap.SameBut.update ..))⟩))
  | exact wpAny_pure ⟨.none,rfl,wpAny_pure (hQ _ n' hfin (Heap.SameBut.update ..))⟩

noncomputable def idx(n:Nat) (k:Int):Option Nat:=if k < 1000000000∧-1000000000≤k then(if 0≤k then(if k < n then some k.toNat else none)else if -(n:Int)≤k then some (k + n).toNat else none)else none
theorem tJ{n:Nat}{k:Int}{j:Nat}(h:idx n k=some j):(k < 1000000000∧-1000000000≤k)∧((0≤k∧k < n∧j=k.toNat)∨(¬0≤k∧-(n:Int)≤k∧j=(k + n).toNat)):=by
 refine byC fun kq=>?_
 obtain⟨hk,h⟩:=br (P:=fun o=>o=some j) nns h
 refine kq ?_;try clear kq
 refine⟨hk,?_⟩
 by_cases h0:0≤k
 ·rw[if_pos h0]at h
  refine byC fun kq=>?_
  obtain⟨h1,h⟩:=br (P:=fun o=>o=some j) nns h
  refine kq ?_;try clear kq
  exact .inl ⟨h0,h1,(Option.some.inj h).symm⟩
 ·rw[if_neg h0]at h
  refine byC fun kq=>?_
  obtain⟨h1,h⟩:=br (P:=fun o=>o=some j) nns h
  refine kq ?_;try clear kq
  exact .inr ⟨h0,h1,(Option.some.inj h).symm⟩
theorem tK{n:Nat}{k:Int}{j:Nat}(h:idx n k=some j):seqIndex? k n=some j∧k < 1000000000∧-1000000000≤k:=by
 refine byC fun kq=>?_
 obtain⟨hk,h⟩:=tJ h
 refine kq ?_;try clear kq
 refine⟨?_,hk⟩
 unfold seqIndex?
 rcases h with⟨h0,h1,rfl⟩|⟨h0,h1,rfl⟩
 ·rw[if_neg (Int.not_lt.mpr h0),if_pos (by rw[Bool.and_eq_true,decide_eq_true_eq,decide_eq_true_eq];exact⟨h0,h1⟩)]
 ·rw[if_pos (Int.not_le.mp h0),if_pos (by rw[Bool.and_eq_true,decide_eq_true_eq,decide_eq_true_eq];omega)]
theorem kJ{A:Around}{prog w} {E:Value→Shared→Prop}{s:Shared}{l:Addr}{items:Array Value}{k:Int}{t:Tok}{x:Value}{j:Nat}{Q:Value→Shared→Prop}(hl:s.heap.IsList l items) (hj:idx items.size k=some j) (hx:items[j]? = some x) (h:Q x s):
  wpAny (model prog w) A (getItem (.ref l) (.int k t)) Q E s:=by
 refine byC fun kq=>?_
 obtain⟨hk,hj⟩:=tJ hj
 refine kq ?_;try clear kq
 rcases hj with⟨h0,h1,rfl⟩|⟨h0,h1,rfl⟩
 ·exact wpAny_getItem_list hl h0 (by omega) hx h
 ·exact wpAny_getItem_list_neg hl (by omega) h1 (by omega) hx h

noncomputable def cm:V→V→Hp→Out V:=fun v w H=>match v,w with
 | .tup vs,.int k=>onO (idx vs.length k) (fun j=>onO vs[j]? (fun x=>.ok x H) .bad) .bad
 | .ref i,.int k=>onL H[i]? (fun xs=>onO (idx xs.length k) (fun j=>onO xs[j]? (fun x=>.ok x H) .bad) .bad) (Bb H[i]? (fun kvs=>onO (dI kvs k) (fun x=>.ok x H) .bad) .bad)
 | .ref i,.str k=>zj H[i]? (fun kvs=>onO (dI kvs k) (fun x=>.ok x H) .bad) .bad
 | _,_=>.bad
@[elab_as_elim] theorem sE{P:Out V→Prop}{H:Hp}{G:V→V→Prop}(v w:V) (nb:¬P .bad) (p:P (cm v w H))
  (k1:∀ vs k j x,idx vs.length k=some j→vs[j]? = some x→P (.ok x H)→G (.tup vs) (.int k))
  (k2:∀ (i:Nat) xs k j x,H[i]? = some (.list xs)→idx xs.length k=some j→xs[j]? = some x→P (.ok x H)→G (.ref i) (.int k))
  (k3:∀ (i:Nat) kvs k x,H[i]? = some (.dictI kvs)→dI kvs k=some x→P (.ok x H)→G (.ref i) (.int k))
  (k4:∀ (i:Nat) kvs k x,H[i]? = some (.dictS kvs)→dI kvs k=some x→P (.ok x H)→G (.ref i) (.str k)):G v w:=by
 cases v<;>try exact absurd p nb
 ·cases w<;>try exact absurd p nb
  refine byC fun kq=>?_
  obtain⟨j,hj,p⟩:=bE nb p
  obtain⟨x,hx,p⟩:=bE nb p
  refine kq ?_;try clear kq
  exact k1 _ _ _ _ hj hx p
 ·cases w<;>try exact absurd p nb
  ·rcases wW p with⟨xs,ho,p⟩|p
   ·refine byC fun kq=>?_
    obtain⟨j,hj,p⟩:=bE nb p
    obtain⟨x,hx,p⟩:=bE nb p
    refine kq ?_;try clear kq
    exact k2 _ _ _ _ _ ho hj hx p
   ·refine byC fun kq=>?_
    obtain⟨xs,ho,p⟩:=nU nb p
    obtain⟨x,hx,p⟩:=bE nb p
    refine kq ?_;try clear kq
    exact k3 _ _ _ _ ho hx p
  ·refine byC fun kq=>?_
   obtain⟨xs,ho,p⟩:=nV nb p
   obtain⟨x,hx,p⟩:=bE nb p
   refine kq ?_;try clear kq
   exact k4 _ _ _ _ ho hx p
theorem qz{A:Around}{l:List Env}{v w:V}{x y:Value}{ρ:Rho}{H:Hp}{s:Shared}{Q E:Value→Shared→Prop}(st:St C l ρ H s) (r1:RepV ρ s.heap v x) (r2:RepV ρ s.heap w y) (p:aJ C l none ρ s Q E (cm v w H)):
  wpAny (model C.prog C.w) A (getItem x y) Q E s∧∃ T id,s.TypeIs x T∧typeLookup (.type T) "__getitem__"=pure (some (.builtin id)):=by
 revert r1 r2
 refine sE v w (P:=aJ C l none ρ s Q E) id p (fun vs k j u hj hu p r1 r2=>fP r2 fun t=>mV r1 fun a o items n hm g c dd rs=>?a) (fun i xs k j u ho hj hu p r1 r2=>fP r2 fun t=>?b)
  (fun i kvs k u ho hu p r1 r2=>fP r2 fun t=>mU r1 fun a dd hp=>?c) (fun i kvs k u ho hu p r1 r2=>uX r2 fun t=>mU r1 fun a dd hp=>?d)
 case a=>
  have ht:IsTup s.heap a items:=⟨_,g,c,_,dd⟩
  refine⟨?_,_,_,ht.typeIs,slot_tuple_getitem.lookup⟩
  refine byC fun kq=>?_
  obtain⟨z,hz,rz⟩:=rs.get hu
  obtain⟨h1,h2,h3⟩:=tK hj
  refine kq ?_;try clear kq
  exact getItem_tuple ht (by omega) (by omega) (by rw[← Array.length_toList,← rs.length];exact h1) (by rw[← Array.getElem?_toList];exact hz) (p ρ _ s (.refl st) rz)
 case b=>
  refine byC fun kq=>?_
  obtain⟨a,items,n,sl,rfl,g,rs,hp⟩:=dJ st ho r1
  refine kq ?_;try clear kq
  have hl:s.heap.IsList a items:=⟨_,g,rfl,n,rfl⟩
  refine⟨?_,_,_,hl.typeIs,slot_list_getitem.lookup⟩
  refine byC fun kq=>?_
  obtain⟨z,hz,rz⟩:=rs.get hu
  refine kq ?_;try clear kq
  exact kJ hl (by rw[← Array.length_toList,← rs.length];exact hj) (by rw[← Array.getElem?_toList];exact hz) (p ρ _ s (.refl st) rz)
 case c=>
  refine byC fun kq=>?_
  obtain⟨e,ys,hd,rs⟩:=st.rep.obj i _ _ ho hp
  refine kq ?_;try clear kq
  refine⟨?_,_,_,hd.typeIs,slot_dict_getitem.lookup⟩
  refine byC fun kq=>?_
  obtain⟨z,hz,rz⟩:=(li (k:=k) rs).1 u hu
  refine kq ?_;try clear kq
  exact wpAny_getItem_of (knd:=intKind C.prog C.w) (by simp[intKind,Value.isInt]) hd.mapOf hz (p ρ _ _ (.tok st) rz)
 case d=>
  refine byC fun kq=>?_
  obtain⟨e,ys,hd,rs⟩:=st.rep.obj i _ _ ho hp
  refine kq ?_;try clear kq
  refine⟨?_,_,_,hd.typeIs,slot_dict_getitem.lookup⟩
  refine byC fun kq=>?_
  obtain⟨z,hz,rz⟩:=(li (k:=k) rs).1 u hu
  refine kq ?_;try clear kq
  exact wpAny_getItem_of (knd:=PySem.strKind C.prog C.w) (by simp[PySem.strKind,Value.isStrOf]) hd.mapOf hz (p ρ _ _ (.tok st) rz)

noncomputable def ba(f g:FE):FE:=aD cm f g
theorem xu{e i pos f g} (h1:bg C d sc e f) (h2:bg C d sc i g) (hs:∀ o iv,subscripted i false o iv=operate [o,iv] (getItem o iv)):bg C d sc (.Subscript e i pos) (ba f g):=by
 intro A env l m ρ H s Q E hb ha he fr st p
 refine Subscript_ (h1 A env l m ρ H s _ E hb ha he fr st (aJ.bind p fun v H1 ρ1 x s1 _ e1 r1 p1=>?_))
 refine h2 A env l m ρ1 H1 s1 _ E hb ha he (fr.ev st e1) e1.st (aJ.bind p1 fun w H2 ρ2 y s2 _ e2 r2 p2=>?_)
 refine byC fun kq=>?_
 obtain⟨hg,T,id,hT,hl⟩:=qz (A:=A) e2.st (r1.ev0 e1.st e2) r2 p2.any
 refine kq ?_;try clear kq
 exact tail_any hT hl hg (hs _ _)

noncomputable def asS:V→Option Str
 | .str a=>some a
 | _=>none
noncomputable def asI:V→Option Int
 | .int a=>some a
 | _=>none
noncomputable def i3:List V→Option (List Int)
 | []=>some []
 | v::r=>onO (asI v) (fun i=>(i3 r).map (i::·)) none
theorem uf{i:Int}{r:List V}:i3 (.int i::r)=(i3 r).map (i::·):=rfl
noncomputable def asT:V→Option (List V)
 | .tup a=>some a
 | _=>none
noncomputable def Ay:List V→Option TK
 | [a,b,c,d]=>(asS a).bind fun a=>(asT b).bind fun ks=>(asI c).bind fun b=>(asI d).bind fun c=>(i3 ks).map fun is=>(a,is,b,c)
 | _=>none
noncomputable def vG(v:V):Option TK:=(asT v).bind Ay
theorem AC{v:V}{a:Str}(e:asS v=some a):v=.str a:=by
 cases v with
 | str x=>cases e;rfl
 | _=>exact nns e
theorem rP{v:V}{a:Int}(e:asI v=some a):v=.int a:=by
 cases v with
 | int x=>cases e;rfl
 | _=>exact nns e
theorem vZ{v:V}{a:List V}(e:asT v=some a):v=.tup a:=by
 cases v with
 | tup x=>cases e;rfl
 | _=>exact nns e
theorem rG{vs:List V}:∀ {is:List Int},i3 vs=some is→vs=is.map .int:=by
 induction vs with
 | nil=>intro is e;cases e;rfl
 | cons v r ih=>
  intro is e
  refine byC fun kq=>?_
  obtain⟨i,hi,e⟩:=bE (P:=fun o=>o=some is) nns e
  obtain⟨js,q,rfl⟩:=Option.map_eq_some_iff.mp e
  refine kq ?_;try clear kq
  rw[rP hi,ih q];rfl
theorem AZ{vs:List V}{k:TK}(e:Ay vs=some k):∃ a b c d,vs=[a,b,c,d]:=by
 rcases vs with _|⟨a,_|⟨b,_|⟨c,_|⟨d,_|⟨_,_⟩⟩⟩⟩⟩<;>first|exact⟨_,_,_,_,rfl⟩|cases e
theorem ud{v:V}{k:TK}(e:vG v=some k):v=tkV k:=by
 refine byC fun kq=>?_
 obtain⟨vs,e1,e2⟩:=Option.bind_eq_some_iff.mp e
 obtain⟨a,b,c,d,h⟩:=AZ e2
 rw[h]at e1 e2
 obtain⟨a',ea,e2⟩:=Option.bind_eq_some_iff.mp e2
 obtain⟨b',eb,e2⟩:=Option.bind_eq_some_iff.mp e2
 obtain⟨c',ec,e2⟩:=Option.bind_eq_some_iff.mp e2
 obtain⟨d',ed,e2⟩:=Option.bind_eq_some_iff.mp e2
 obtain⟨is,ei,e2⟩:=Option.map_eq_some_iff.mp e2
 refine kq ?_;try clear kq
 rw[vZ e1,AC ea,vZ eb,rP ec,rP ed,rG ei,← e2]
 rfl
theorem w8{prog w} {ρ:Rho}{h:Heap}{is:List Int}:∀ {xs:List Value},RepVs ρ h (is.map .int) xs→ItemsAre (intKind prog w) is xs:=by
 induction is with
 | nil=>intro xs r;cases r.invN;exact .nil
 | cons i is ih=>
  intro xs q
  exact rsC q fun y ys r rs=>fP r fun t=>.cons (by simp[intKind,Value.isInt]) (ih rs)
theorem sK{prog w} {ρ:Rho}{h:Heap}{k:TK}{y:Value}(r:RepV ρ h (tkV k) y):∃ a,y=.ref a∧IsTK prog w h k a:=by
 unfold tkV at r
 refine mV r fun a o items n hm g c d rs=>⟨a,rfl,?_⟩
 generalize hits:items.toList=its at rs
 revert hits
 refine rsC rs fun y1 _ r1 rs=>rs3 rs fun y2 y3 y4 r2 r3 r4=>uX r1 fun t=>mV r2 fun b o2 i2 n2 hm2 g2 c2 d2 rs2=>fP r3 fun t2=>fP r4 fun t3 hits=>?_
 exact⟨o,items,n,_,_,_,_,g,c,d,hits,⟨_,_,_,g2,c2,d2,w8 rs2⟩⟩
theorem wN{kvs:List (TK × V)}{xs:List (TK × Addr × Value)}{k:TK}(e:kvs.map (·.1)=xs.map (·.1)):(kvs.any fun kv=>decide (kv.1=k))=(atKey xs k).isSome:=by
 have e1:(kvs.map (·.1)).any (fun x=>decide (x=k))=(xs.map (·.1)).any fun x=>decide (x=k):=by rw[e]
 rw[List.any_map,List.any_map]at e1
 unfold atKey
 rw[Option.isSome_map,List.isSome_find?]
 exact e1
theorem xV{ρ:Rho}{h:Heap}{P:List (TK × V)→List (TK × Addr × Value)→Prop}(h0:P [] []) (hc:∀ k v a y r q,RepV ρ h v y→P r q→P ((k,v)::r) ((k,a,y)::q)) {kvs:List (TK × V)}:∀ {xs:List (TK × Addr × Value)},kvs.map (·.1)=xs.map (·.1)→RepVs ρ h (kvs.map (·.2)) (xs.map (·.2.2))→P kvs xs:=by
 induction kvs with
 | nil=>
  intro xs e r
  cases xs with
  | nil=>exact h0
  | cons _ _=>cases e
 | cons p r ih=>
  intro xs e q
  cases xs with
  | nil=>cases e
  | cons b xs=>
   refine byC fun kq=>?_
   obtain⟨k,v⟩:=p
   obtain⟨k',a,y⟩:=b
   obtain⟨e1,e2⟩:=List.cons.inj e
   refine kq ?_;try clear kq
   have e1:k=k':=e1
   subst e1
   refine byC fun kq=>?_
   obtain⟨r1,rs⟩:=q.cc
   refine kq ?_;try clear kq
   exact hc _ _ _ _ _ _ r1 (ih e2 rs)
theorem rQ{a k:TK}{b:Addr}{y:Value}{q:List (TK × Addr × Value)}:(atKey ((a,b,y)::q) k).map (·.2)=if a=k then some y else(atKey q k).map (·.2):=by
 unfold atKey
 rw[List.find?_cons]
 by_cases hk:a=k
 ·rw[if_pos hk,decide_eq_true hk];rfl
 ·rw[if_neg hk,decide_eq_false hk]
theorem u0{ρ:Rho}{h:Heap}{k:TK}{kvs:List (TK × V)}:∀ {xs:List (TK × Addr × Value)},kvs.map (·.1)=xs.map (·.1)→RepVs ρ h (kvs.map (·.2)) (xs.map (·.2.2))→
  (∀ v,dI kvs k=some v→∃ y,(atKey xs k).map (·.2)=some y∧RepV ρ h v y)∧(dI kvs k=none→(atKey xs k).map (·.2)=none):=
 xV (P:=fun kvs xs=>(∀ v,dI kvs k=some v→∃ y,(atKey xs k).map (·.2)=some y∧RepV ρ h v y)∧(dI kvs k=none→(atKey xs k).map (·.2)=none))
  ⟨fun v e=>nns e,fun _=>rfl⟩ fun a v b y r q rv ih=>by
   show(∀ w,dI ((a,v)::r) k=some w→∃ z,(atKey ((a,b,y)::q) k).map (·.2)=some z∧RepV ρ h w z)∧(dI ((a,v)::r) k=none→(atKey ((a,b,y)::q) k).map (·.2)=none)
   rw[kD,rQ]
   by_cases hk:a=k
   ·rw[if_pos hk,if_pos hk]
    exact⟨fun w e=>⟨y,rfl,Option.some.inj e ▸ rv⟩,fun e=>nns e.symm⟩
   ·rw[if_neg hk,if_neg hk]
    exact ih
theorem w9{ρ:Rho}{h:Heap}{k:TK}{v:V}{y:Value}(rv:RepV ρ h v y) {kvs:List (TK × V)}:∀ {xs:List (TK × Addr × Value)},kvs.map (·.1)=xs.map (·.1)→RepVs ρ h (kvs.map (·.2)) (xs.map (·.2.2))→
  (kvs.map fun kv=>if kv.1=k then(kv.1,v)else kv).map (·.1)=(xs.map (putAt k y)).map (·.1)∧RepVs ρ h ((kvs.map fun kv=>if kv.1=k then(kv.1,v)else kv).map (·.2)) ((xs.map (putAt k y)).map (·.2.2)):=
 xV (P:=fun kvs xs=>(kvs.map fun kv=>if kv.1=k then(kv.1,v)else kv).map (·.1)=(xs.map (putAt k y)).map (·.1)∧RepVs ρ h ((kvs.map fun kv=>if kv.1=k then(kv.1,v)else kv).map (·.2)) ((xs.map (putAt k y)).map (·.2.2)))
  ⟨rfl,.nil⟩ fun a w b z r q rw ⟨q1,q2⟩=>by
   rw[List.map_cons,List.map_cons,List.map_cons,List.map_cons,List.map_cons,List.map_cons,q1]
   unfold putAt at q2 ⊢
   by_cases hk:a=k
   ·rw[if_pos hk,if_pos hk]
    exact⟨rfl,.cons rv q2⟩
   ·rw[if_neg hk,if_neg hk]
    exact⟨rfl,.cons rw q2⟩
theorem qV{ρ:Rho}{h:Heap}{k:TK}{a:Addr}{v:V}{y:Value}(rv:RepV ρ h v y) (rk:RepV ρ h (tkV k) (.ref a)) {kvs:List (TK × V)}{xs:List (TK × Addr × Value)}(e:kvs.map (·.1)=xs.map (·.1)) (r:RepVs ρ h (kvs.map (·.2)) (xs.map (·.2.2)))
  (ks:∀ x∈xs,RepV ρ h (tkV x.1) (.ref x.2.1)):(dM kvs k v).map (·.1)=(storedH xs k a y).map (·.1)∧RepVs ρ h ((dM kvs k v).map (·.2)) ((storedH xs k a y).map (·.2.2))∧∀ x∈storedH xs k a y,RepV ρ h (tkV x.1) (.ref x.2.1):=by
 unfold dM storedH
 rw[wN e]
 split
 ·refine byC fun kq=>?_
  obtain⟨q1,q2⟩:=w9 rv e r
  refine kq ?_;try clear kq
  refine⟨q1,q2,fun x hx=>?_⟩
  refine byC fun kq=>?_
  obtain⟨z,hz,rfl⟩:=List.mem_map.mp hx
  refine kq ?_;try clear kq
  unfold putAt
  split<;>exact ks z hz
 ·refine⟨by simp[e],by rw[De,De];exact r.append (.cons rv .nil),fun x hx=>?_⟩
  rcases List.mem_append.mp hx with hx|hx
  ·exact ks x hx
  ·rw[List.mem_singleton.mp hx];exact rk
theorem RepV.put{ρ:Rho}{h h':Heap}{a:Addr}{v y} (r:RepV ρ h v y) (x:Heap.SameBut a h h') (hm:bG ρ a):RepV ρ h' v y:=
 r.keep (X:=No) (.sameBut x) (fun b e n=>absurd (e ▸ hm) n) (fun _ _ z=>z) fun _ _ z=>z
theorem mo{l ρ H} {s:Shared}(st:St C l ρ H s) {i:Nat}{kvs:List (TK × V)}{a dd:Addr}(ho:H[i]? = some (.dictT kvs)) (hp:ρ[i]? = some (a,dd)):
  dd=a∧∃ xs,s.heap.DictOfH (pC C.prog C.w) a xs∧kvs.map (·.1)=xs.map (·.1)∧(∀ x∈xs,RepV ρ s.heap (tkV x.1) (.ref x.2.1))∧RepVs ρ s.heap (kvs.map (·.2)) (xs.map (·.2.2)):=by
 refine byC fun kq=>?_
 obtain⟨e,o,es,ep,xs,g,⟨h1,h2,h3,h4,h5⟩,ks,rs⟩:=st.rep.obj i _ _ ho hp
 refine kq ?_;try clear kq
 refine⟨e.symm,xs,⟨o,es,ep,g,h1,h2,h3,fun x hx=>?_,h4⟩,h5,ks,rs⟩
 refine byC fun kq=>?_
 obtain⟨b,eb,ib⟩:=sK (prog:=C.prog) (w:=C.w) (ks x hx)
 refine kq ?_;try clear kq
 cases eb;exact ib

noncomputable def fc:V→V→V→Hp→Option Hp:=fun v w u H=>match v,w with
 | .ref i,.int k=>onL H[i]? (fun xs=>if 0≤k∧k < xs.length∧k < 1000000000 then some (H.set i (.list (xs.set k.toNat u)))else none) (Bb H[i]? (fun kvs=>if kvs.length≤1000000 then some (H.set i (.dictI (dM kvs k u)))else none) none)
 | .ref i,.str k=>zj H[i]? (fun kvs=>if kvs.length≤1000000 then some (H.set i (.dictS (dM kvs k u)))else none) none
 | .ref i,.tup ks=>Bc H[i]? (fun kvs=>onO (vG (.tup ks)) (fun k=>if kvs.length≤1000000 then some (H.set i (.dictT (dM kvs k u)))else none) none) none
 | _,_=>none
@[elab_as_elim] theorem qO{P:Option Hp→Prop}{H:Hp}{u:V}{G:V→V→Prop}(v w:V) (nb:¬P none) (p:P (fc v w u H))
  (k1:∀ (i:Nat) xs (k:Int),H[i]? = some (.list xs)→(0≤k∧k < xs.length∧k < 1000000000)→P (some (H.set i (.list (xs.set k.toNat u))))→G (.ref i) (.int k))
  (k2:∀ (i:Nat) kvs k,H[i]? = some (.dictI kvs)→kvs.length≤1000000→P (some (H.set i (.dictI (dM kvs k u))))→G (.ref i) (.int k))
  (k3:∀ (i:Nat) kvs k,H[i]? = some (.dictS kvs)→kvs.length≤1000000→P (some (H.set i (.dictS (dM kvs k u))))→G (.ref i) (.str k))
  (k4:∀ (i:Nat) kvs ks k,H[i]? = some (.dictT kvs)→vG (.tup ks)=some k→kvs.length≤1000000→P (some (H.set i (.dictT (dM kvs k u))))→G (.ref i) (.tup ks)):G v w:=by
 cases v<;>try exact absurd p nb
 cases w<;>try exact absurd p nb
 ·rcases wW p with⟨xs,ho,p⟩|p
  ·refine byC fun kq=>?_
   obtain⟨h,p⟩:=br nb p
   refine kq ?_;try clear kq
   exact k1 _ _ _ ho h p
  ·refine byC fun kq=>?_
   obtain⟨xs,ho,p⟩:=nU nb p
   obtain⟨h,p⟩:=br nb p
   refine kq ?_;try clear kq
   exact k2 _ _ _ ho h p
 ·refine byC fun kq=>?_
  obtain⟨xs,ho,p⟩:=nV nb p
  obtain⟨h,p⟩:=br nb p
  refine kq ?_;try clear kq
  exact k3 _ _ _ ho h p
 ·refine byC fun kq=>?_
  obtain⟨xs,ho,p⟩:=nX nb p
  obtain⟨k,hk,p⟩:=bE nb p
  obtain⟨h,p⟩:=br nb p
  refine kq ?_;try clear kq
  exact k4 _ _ _ _ ho hk h p
theorem RepVs.put{ρ:Rho}{h h':Heap}{a:Addr}{vs ys} (r:RepVs ρ h vs ys) (x:Heap.SameBut a h h') (hm:bG ρ a):RepVs ρ h' vs ys:=
 r.keep (X:=No) (.sameBut x) (fun b e n=>absurd (e ▸ hm) n) (fun _ _ z=>z) fun _ _ z=>z
theorem yr{K:Type}{kvs:List (K × V)}{ys:List Value}(h:kvs.length≤1000000):((kvs.map (·.1)).zip ys).length≤1000000:=by
 rw[List.length_zip,C4]
 exact CX (Nat.min_le_left _ _) h
theorem sO{A:Around}{l:List Env}{v w u:V}{x y z:Value}{ρ:Rho}{H H':Hp}{s:Shared}{Q:Unit→Shared→Prop}{E:Value→Shared→Prop}(st:St C l ρ H s) (r1:RepV ρ s.heap v x) (r2:RepV ρ s.heap w y) (r3:RepV ρ s.heap u z) (ho:fc v w u H=some H') (hu:A.units + 2 < cLine)
  (q:∀ s',Ev C l No ρ s ρ H' s'→Q () s'):wpAny (model C.prog C.w) A (setItem x y z) Q E s:=by
 revert r1 r2
 refine qO v w (P:=fun o=>o=some H') nns ho (fun i xs k hi hk e r1 r2=>fP r2 fun t=>?a) (fun i kvs k hi hk e r1 r2=>fP r2 fun t=>mU r1 fun a dd hp=>?b)
  (fun i kvs k hi hk e r1 r2=>uX r2 fun t=>mU r1 fun a dd hp=>?c) (fun i kvs ks k hi hk hl e r1 r2=>mU r1 fun a dd hp=>?d)
 all_goals cases e
 case a=>
  refine byC fun kq=>?_
  obtain⟨a,items,n,sl,rfl,g,rs,hp⟩:=dJ st hi r1
  refine kq ?_;try clear kq
  have hlen:xs.length=items.size:=by rw[rs.length,Array.length_toList]
  rw[hlen]at hk
  have hm:bG ρ a:=⟨_,List.mem_of_getElem? hp,.inl rfl⟩
  refine qY g hk.1 (by omega) (by omega) fun h' n' g' sb=>q _ ?_
  refine Ev.put st hp (.inl rfl) (.sameBut sb) ⟨rfl,rfl,rfl⟩ ⟨rfl,n',_,sl,g',?_⟩
  rw[Array.toList_setIfInBounds]
  exact((rs.set r3 k.toNat)).put sb hm
 case b=>
  refine byC fun kq=>?_
  obtain⟨e,ys,hd,rs⟩:=st.rep.obj i _ _ hi hp
  refine kq ?_;try clear kq
  cases e
  have hm:bG ρ a:=⟨_,List.mem_of_getElem? hp,.inl rfl⟩
  refine byC fun kq=>?_
  obtain⟨ys',e1,rs'⟩:=jM (k:=k) r3 rs
  refine kq ?_;try clear kq
  refine wpAny_setItem_pairs (knd:=intKind C.prog C.w) (k:=k) (by simp[intKind,Value.isInt]) hd (fun h' hd' sb=>q _ ?_) (iY (yr hk))
  rw[e1]at hd'
  exact(Ev.put (s':={ s with heap:=h',toks:=s.toks + 1 }) st hp (.inl rfl) (.sameBut sb) ⟨rfl,rfl,rfl⟩ ⟨rfl,ys',hd',rs'.put sb hm⟩)
 case c=>
  refine byC fun kq=>?_
  obtain⟨e,ys,hd,rs⟩:=st.rep.obj i _ _ hi hp
  refine kq ?_;try clear kq
  cases e
  have hm:bG ρ a:=⟨_,List.mem_of_getElem? hp,.inl rfl⟩
  refine byC fun kq=>?_
  obtain⟨ys',e1,rs'⟩:=jM (k:=k) r3 rs
  refine kq ?_;try clear kq
  refine wpAny_setItem_pairs (knd:=PySem.strKind C.prog C.w) (k:=k) (by simp[PySem.strKind,Value.isStrOf]) hd (fun h' hd' sb=>q _ ?_) (iY (yr hk))
  rw[e1]at hd'
  exact(Ev.put (s':={ s with heap:=h',toks:=s.toks + 1 }) st hp (.inl rfl) (.sameBut sb) ⟨rfl,rfl,rfl⟩ ⟨rfl,ys',hd',rs'.put sb hm⟩)
 case d=>
  have ek:=ud hk
  rw[ek]at r2
  refine byC fun kq=>?_
  obtain⟨b,eb,ib⟩:=sK (prog:=C.prog) (w:=C.w) r2
  refine kq ?_;try clear kq
  subst eb
  refine byC fun kq=>?_
  obtain⟨e,xs,hd,e5,kk,rs⟩:=mo st hi hp
  refine kq ?_;try clear kq
  subst e
  have hm:bG ρ dd:=⟨_,List.mem_of_getElem? hp,.inl rfl⟩
  refine byC fun kq=>?_
  obtain⟨q1,q2,q3⟩:=qV r3 r2 e5 rs kk
  refine kq ?_;try clear kq
  have hlen:kvs.length=xs.length:=by rw[← C4 (f:=(·.1)),e5,C4]
  refine wpAny_setItem_heap (knd:=pC C.prog C.w) (k:=k) hu ib hd (fun h' hd' sb=>q _ ?_) (iY (hlen ▸ hl))
  refine byC fun kq=>?_
  obtain⟨o',es',ep',g',h1,h2,h3,_,h4⟩:=hd'
  refine kq ?_;try clear kq
  exact Ev.put (s':={ s with heap:=h',toks:=s.toks + k.2.1.length + 5 }) st hp (.inl rfl) (.sameBut sb) ⟨rfl,rfl,rfl⟩ ⟨rfl,o',es',ep',_,g',⟨h1,h2,h3,h4,q1⟩,fun x hx=>(q3 x hx).put sb hm,q2.put sb hm⟩

noncomputable def f7(f g:FE):V→FS:=fun u m H=>(f m H).bindS m fun v H1=>(g m H1).bindS m fun w H2=>match fc v w u H2 with
 | some H'=>.ok .next m H'
 | none=>.bad
theorem xf{e i pos f g} (h1:bg C d sc e f) (h2:bg C d sc i g):lT C d sc (.Subscript e i pos) (f7 f g):=by
 intro A env l m ρ H s u z Q E hb ha he fr st r p
 rw[arm_assign_Subscript]
 refine wpAny_bind (wpAny_holding (h1 A env l m ρ H s _ E hb ha he fr st (bJ.bindE p st fr fun v H1 ρ1 x s1 _ e1 fr1 r1 p1=>?_)))
 refine wpAny_bind (wpAny_holding (h2 A env l m ρ1 H1 s1 _ E hb ha he fr1 e1.st (bJ.bindE p1 e1.st fr1 fun w H2 ρ2 y s2 _ e2 fr2 r2 p2=>?_)))
 refine wpAny_bind (wpAny_standAt (wpAny_bind (wpAny_holding ?_)))
 cases hs:fc v w u H2 with
 | none=>rw[hs]at p2;exact p2.elim
 | some H'=>
  rw[hs]at p2
  refine sO e2.st (r1.ev0 e1.st e2) r2 ((r.ev0 st e1).ev0 e1.st e2) hs (hb.roomC (by decide)) fun s' e3=>wpAny_release' ?_
  exact p2 ρ2 .next s' e3.no (fr2.ev e2.st e3) .next rfl

end

noncomputable def cut{α:Type}(xs:List α) (lo hi:Option Int):List α:=(xs.drop (lo.elim 0 (clipAt xs.length))).take (hi.elim xs.length (clipAt xs.length) - lo.elim 0 (clipAt xs.length))
noncomputable def mR:V→Option (Option Int)
 | .none=>some none
 | .int i=>some (some i)
 | _=>none
theorem eU{ρ h v x k} (r:RepV ρ h v x) (hk:mR v=some k):IsPart x k:=by
 cases r with
 | none=>cases hk;exact .none
 | int i t=>cases hk;exact .int i t
 | _=>cases hk
theorem mI{α β:Type}{f g:α→Option β}:∀ l:List α,(∀ x∈l,f x=g x)→l.filterMap f=l.filterMap g
 | [],_=>rfl
 | x::l,h=>by rw[List.filterMap_cons,List.filterMap_cons,h x CY,mI l fun y hy=>h y (CZ _ hy)]
theorem jq{α:Type}(a:List α):(List.range a.length).filterMap (fun i=>a[i]?)=a:=by
 induction a with
 | nil=>rfl
 | cons x a ih=>
  rw[Df,List.range_succ_eq_map,List.filterMap_cons,List.filterMap_map]
  simp only[List.getElem?_cons_zero]
  congr 1
theorem zx(n:Nat):(if (n:Int) - 1 > -1 then((n:Int) - 1 - -1 - -1 - 1) / (- -1)else 0).toNat=n:=by
 cases n with
 | zero=>rfl
 | succ k=>
  have e:((k + 1:Nat):Int) - 1=k:=Int.add_sub_cancel (k:Int) 1
  rw[e,if_pos (Int.lt_of_lt_of_le (by decide) (Dj k))]
  show(((k:Int) + 1 + 1 - 1) / 1).toNat=k + 1
  rw[Int.ediv_one,Int.add_sub_cancel]
  exact Di (k + 1)
theorem zy{n k:Nat}(h:k < n):((n:Int) - 1 + -1 * (k:Int)).toNat=n - 1 - k:=by omega
theorem nA(items:Array Value):slicePick items none none (some (-1))=items.toList.reverse.toArray:=by
 unfold slicePick
 have e:sliceBounds none none (some (-1)) items.size=((items.size:Int) - 1,-1,-1):=by simp[sliceBounds]
 rw[e]
 have e2:sliceRange ((items.size:Int) - 1) (-1) (-1)=(List.range items.size).map fun k=>items.size - 1 - k:=by
  unfold sliceRange
  simp only[show ¬((-1:Int) > 0)by decide,if_false]
  rw[zx]
  exact List.map_congr_left fun k hk=>zy (List.mem_range.mp hk)
 rw[e2]
 congr 1
 rw[List.filterMap_map]
 have e3:((List.range items.size).filterMap ((fun x=>items[x]?) ∘ fun k=>items.size - 1 - k))=((List.range items.size).filterMap fun i=>items.reverse[i]?):=by
  refine mI _ fun k hk=>?_
  have hk:=List.mem_range.mp hk
  simp only[Function.comp]
  rw[Array.getElem?_reverse hk]
 rw[e3]
 have:=jq items.toList.reverse
 rw[List.length_reverse,Array.length_toList]at this
 rw[← this]
 refine mI _ fun k _=>?_
 rw[← Array.toList_reverse,Array.getElem?_toList]

section
variable {C:Cx}{d:Nat}{sc:Scope}

noncomputable def uh(C:Cx) (d:Nat) (sc:Scope) (e:Option Expr) (f:FE):Prop:=
 ∀ (A:Around) (env:Env) (l:List Env) (m:Fm) (ρ:Rho) (H:Hp) (s:Shared) (Q E:Value→Shared→Prop),
  Bud d A→A.frames=some l→env.scope=sc→FrOk C env l m ρ s.heap→St C l ρ H s→aJ C l env.frame ρ s Q E (f m H)→wpAny (model C.prog C.w) A (evalPart e env) Q E s
theorem kO:uh C d sc none (fC .none):=by
 intro A env l m ρ H s Q E _ _ _ _ st p
 exact evalPart_none_step (p ρ _ s (.refl st) .none)
theorem n9{e f} (h:bg C d sc e f):uh C d sc (some e) f:=by
 intro A env l m ρ H s Q E hb ha he fr st p
 exact evalPart_some_step (h A env l m ρ H s Q E hb ha he fr st p)

noncomputable def Cw(xs:List V) (H:Hp) (lo hi:Option Int):V→Out V
 | .none=>eZ (cut xs lo hi) H
 | .int k=>if k=-1∧lo=none∧hi=none then eZ xs.reverse H else .bad
 | _=>.bad
noncomputable def nx(v a b c:V) (H:Hp):Out V:=match v with
 | .ref i=>onL H[i]? (fun xs=>onO (mR a) (fun lo=>onO (mR b) (fun hi=>Cw xs H lo hi c) .bad) .bad) .bad
 | _=>.bad
noncomputable def jO(v:V) (H:Hp):Bool:=match v with
 | .ref i=>(match H[i]? with|some (.list xs)=>decide (xs.length≤1000000)|_=>false)
 | _=>false
noncomputable def cN(f a b c:FE):FE:=fun m H=>(f m H).bind fun v H1=>(a m H1).bind fun x H2=>(b m H2).bind fun y H3=>(c m H3).bind fun z H4=>if jO v H4=true then nx v x y z H4 else .bad
set_option tactic.hygienic true in
@[elab_as_elim] theorem uS{P:Out V→Prop}{H:Hp}{a b:V}{G:V→V→Prop}(v c:V) (nb:¬P .bad) (p:P (nx v a b c H))
  (k1:∀ (i:Nat) (xs:List V) (lo hi:Option Int),H[i]? = some (.list xs)→mR a=some lo→mR b=some hi→P (eZ (cut xs lo hi) H)→G (.ref i) .none)
  (k2:∀ (i:Nat) (xs:List V),H[i]? = some (.list xs)→mR a=some none→mR b=some none→P (eZ xs.reverse H)→G (.ref i) (.int (-1))):G v c:=by
 cases v<;>try exact absurd p nb
 rename_i i
 refine byC fun kq=>?_
 obtain⟨xs,ho,p⟩:=cX nb p
 obtain⟨lo,ka,p⟩:=bE nb p
 obtain⟨hi,kb,p⟩:=bE nb p
 refine kq ?_;try clear kq
 cases c<;>try exact absurd p nb
 ·exact k1 _ _ _ _ ho ka kb p
 ·refine byC fun kq=>?_
  obtain⟨⟨rfl,rfl,rfl⟩,p⟩:=br nb p
  refine kq ?_;try clear kq
  exact k2 _ _ ho ka kb p
theorem xQ{H:Hp}{i:Nat}{xs:List V}(h:jO (.ref i) H=true) (ho:H[i]? = some (.list xs)):xs.length≤1000000:=by
 unfold jO at h
 dsimp only at h
 rw[ho]at h
 exact of_decide_eq_true h
theorem vF{A:Around}{l:List Env}{fr:Option Addr}{e:Expr}{lo hi st:Option Expr}{pos:Pos}{v va vb vc:V}{x xa xb xc:Value}{ρ:Rho}{H:Hp}{s:Shared}{Q E:Value→Shared→Prop}
  (hs:∃ b:Bool,∀ o iv,subscripted (.Slice lo hi st pos) false o iv=operate (if b then [iv,o]else [o,iv]) (getItem o iv)) (st':St C l ρ H s) (q1:RepV ρ s.heap v x) (q2:RepV ρ s.heap va xa) (q3:RepV ρ s.heap vb xb) (q4:RepV ρ s.heap vc xc)
  (p:aJ C l fr ρ s Q E (if jO v H=true then nx v va vb vc H else .bad)):
  wpAny (model C.prog C.w) A (subscriptTail e (.Slice lo hi st pos) x (.ref s.heap.objs.size)) Q E { s with heap:=s.heap.push { cls:=.type "slice",data:=.fields #[xa,xb,xc] } }:=by
 refine byC fun kq=>?_
 obtain⟨hsm,p0⟩:=br (P:=aJ C l fr ρ s Q E) id p
 clear p
 obtain⟨bb,hs⟩:=hs
 refine kq ?_;try clear kq
 have fin:∀ {i:Nat}{xs ys:List V}{lo' hi' k:Option Int},v=.ref i→H[i]? = some (.list xs)→IsPart xa lo'→IsPart xb hi'→IsPart xc k→k ≠ some 0→(∀ items:Array Value,items.toList.length=xs.length→RepVs ρ s.heap xs items.toList→RepVs ρ s.heap ys (slicePick items lo' hi' k).toList)→aJ C l fr ρ s Q E (eZ ys H)→
   wpAny (model C.prog C.w) A (subscriptTail e (.Slice lo hi st pos) x (.ref s.heap.objs.size)) Q E { s with heap:=s.heap.push { cls:=.type "slice",data:=.fields #[xa,xb,xc] } }:=by
  intro i xs ys lo' hi' k ev ho ia ib ic hk hr p
  clear p0
  subst ev
  refine byC fun kq=>?_
  obtain⟨a',items,n,sl,rfl,g,rs,hp⟩:=dJ st' ho q1
  have e5:Ev C l No ρ s ρ H { s with heap:=s.heap.push { cls:=.type "slice",data:=.fields #[xa,xb,xc] } }:=Ev.keepNo st' (bt.push ..) ⟨rfl,rfl,rfl⟩
  have hl:(s.heap.push { cls:=.type "slice",data:=.fields #[xa,xb,xc] }).IsList a' items:=⟨_,Heap.get?_push_of_some _ g,rfl,n,rfl⟩
  obtain⟨hz,q⟩:=jf (n:=0) (p.shift e5) e5.st ((hr items rs.length.symm rs).ev0 st' e5)
  refine kq ?_;try clear kq
  refine tail_any (s:={ s with heap:=s.heap.push { cls:=.type "slice",data:=.fields #[xa,xb,xc] } }) hl.typeIs slot_list_getitem.lookup ?_ (hs _ _)
  exact wpAny_getItem_list_slice (s:={ s with heap:=s.heap.push { cls:=.type "slice",data:=.fields #[xa,xb,xc] } }) hl (Heap.IsSliceOf.new ..) ia ib ic hk q (iY (by rw[← Array.length_toList,← rs.length];exact xQ hsm ho))
 clear q1
 revert q4 fin
 refine uS v vc (P:=aJ C l fr ρ s Q E) id p0 (fun i xs lo' hi' ho ka kb p=>?_) (fun i xs ho ka kb p=>?_)<;>intro q4 fin
 ·refine fin rfl ho (eU q2 ka) (eU q3 kb) (eU q4 rfl) (by simp) (fun items hn rs=>?_) p
  rw[slicePick_plain]
  unfold cut
  rw[← hn,Array.length_toList]
  exact(rs.drop _).take _
 ·refine fin rfl ho (eU q2 ka) (eU q3 kb) (eU q4 rfl) (by simp) (fun items hn rs=>?_) p
  rw[nA]
  exact rs.reverse
theorem sT{e lo hi st p pos f a b c} (h0:bg C d sc e f) (h1:uh C d sc lo a) (h2:uh C d sc hi b) (h3:uh C d sc st c) (hs:∃ b:Bool,∀ o iv,subscripted (.Slice lo hi st p) false o iv=operate (if b then [iv,o]else [o,iv]) (getItem o iv)):
  bg C d sc (.Subscript e (.Slice lo hi st p) pos) (cN f a b c):=by
 intro A env l m ρ H s Q E hb ha he fr st' pp
 refine Subscript_ (h0 A env l m ρ H s _ E hb ha he fr st' (aJ.bind pp fun v H1 ρ1 x s1 _ e1 r1 p1=>?_))
 have fr1:=fr.ev st' e1
 refine wpAny_Slice (h1 A env l m ρ1 H1 s1 _ E hb ha he fr1 e1.st (aJ.bind p1 fun va H2 ρ2 xa s2 _ e2 r2 p2=>?_))
 have fr2:=fr1.ev e1.st e2
 refine h2 A env l m ρ2 H2 s2 _ E hb ha he fr2 e2.st (aJ.bind p2 fun vb H3 ρ3 xb s3 _ e3 r3 p3=>?_)
 have fr3:=fr2.ev e2.st e3
 refine h3 A env l m ρ3 H3 s3 _ E hb ha he fr3 e3.st (aJ.bind p3 fun vc H4 ρ4 xc s4 _ e4 r4 p4=>?_)
 exact vF hs e4.st (((r1.ev0 e1.st e2).ev0 e2.st e3).ev0 e3.st e4) ((r2.ev0 e2.st e3).ev0 e3.st e4) (r3.ev0 e3.st e4) r4 p4
noncomputable def bL(vs:List V) (H:Hp):Out V:=match vs with
 | [.tup xs]=>if xs.length < 1000000000 then .ok (.int xs.length) H else .bad
 | [.ref i]=>(match H[i]? with
  | some (.list xs)=>if xs.length < 1000000000 then .ok (.int xs.length) H else .bad
  | _=>.bad)
 | _=>.bad
set_option tactic.hygienic true in
@[elab_as_elim] theorem uk{P:Out V→Prop}{G:List V→Prop}{H:Hp}(vs:List V) (nb:¬P .bad) (p:P (bL vs H))
  (k1:∀ xs:List V,xs.length < 1000000000→P (.ok (.int xs.length) H)→G [.tup xs])
  (k2:∀ (i:Nat) (xs:List V),H[i]? = some (.list xs)→xs.length < 1000000000→P (.ok (.int xs.length) H)→G [.ref i]):G vs:=by
 rcases vs with _|⟨a,r⟩<;>try exact absurd p nb
 cases a<;>try exact absurd p nb
 all_goals rcases r with _|⟨b,r⟩<;>try exact absurd p nb
 ·refine byC fun kq=>?_
  obtain⟨h,p⟩:=br nb p
  refine kq ?_;try clear kq
  exact k1 _ h p
 ·rename_i i
  refine byC fun kq=>?_
  obtain⟨xs,ho,p⟩:=cX (o:=H[i]?) (k:=fun xs=>(if xs.length < 1000000000 then .ok (.int xs.length) H else .bad:Out V)) nb p
  obtain⟨h,p⟩:=br nb p
  refine kq ?_;try clear kq
  exact k2 _ _ ho h p
theorem xx:jS C d (.builtin "len") bL:=by
 intro A l vs xs ρ H s Q E hb ha st r p
 revert r
 refine uk vs (P:=aJ C l none ρ s Q E) id p (fun ys hl p=>?_) fun i ys ho hl p=>?_<;>intro r
 ·refine rs1 r fun x r=>mV r fun a o items n hm g c dd rs=>?_
  have hlen:ys.length=items.size:=by rw[rs.length,Array.length_toList]
  rw[hlen]at p hl
  exact len_tuple ⟨_,g,c,_,dd⟩ (Cr hl) (p ρ _ { s with toks:=s.toks + 1 + 1 } (.tok st) (.int _ _))
 ·refine rs1 r fun x r=>?_
  refine byC fun kq=>?_
  obtain⟨a,items,n,sl,rfl,g,rs,hp⟩:=dJ st ho r
  refine kq ?_;try clear kq
  have hlen:ys.length=items.size:=by rw[rs.length,Array.length_toList]
  rw[hlen]at p hl
  exact Calls.call_len_list ⟨_,g,rfl,n,rfl⟩ (Cr hl) (p ρ _ { s with toks:=s.toks + 1 + 1 } (.tok st) (.int _ _))

noncomputable def isL:AObj→Bool
 | .list _=>true
 | _=>false
theorem rp:rM C d "append" isL (.builtin "list.append"):=by
 intro A l ρ H s i o a pl Q E hb ha st ho hK ⟨dd,hp⟩ q
 cases o with
 | list xs=>
  refine byC fun kq=>?_
  obtain⟨items,hl,rs,hsz,⟨n,sl,g⟩,e⟩:=dB st ho hp
  refine kq ?_;try clear kq
  exact getMethod_list_of slot_list_append type_list_append hl ⟨_,g,rfl⟩ q
 | _=>cases hK
noncomputable def cr(vs:List V) (H:Hp):Out V:=match vs with
 | [.ref i,v]=>(match H[i]? with
  | some (.list xs)=>if xs.length < 1000000 then .ok .none (H.set i (.list (xs++[v])))else .bad
  | _=>.bad)
 | _=>.bad
set_option tactic.hygienic true in
@[elab_as_elim] theorem oD{P:Out V→Prop}{G:List V→Prop}{H:Hp}(vs:List V) (nb:¬P .bad) (p:P (cr vs H))
  (k:∀ (i:Nat) (v:V) (xs:List V),H[i]? = some (.list xs)→xs.length < 1000000→P (.ok .none (H.set i (.list (xs++[v]))))→G [.ref i,v]):G vs:=by
 rcases vs with _|⟨a,r⟩<;>try exact absurd p nb
 cases a<;>try exact absurd p nb
 rename_i i
 rcases r with _|⟨v,r⟩<;>try exact absurd p nb
 rcases r with _|⟨b,r⟩<;>try exact absurd p nb
 refine byC fun kq=>?_
 obtain⟨xs,ho,p⟩:=cX (o:=H[i]?) (k:=fun xs=>(if xs.length < 1000000 then .ok .none (H.set i (.list (xs++[v])))else .bad:Out V)) nb p
 obtain⟨h,p⟩:=br nb p
 refine kq ?_;try clear kq
 exact k _ _ _ ho h p
theorem lj:jS C d (.builtin "list.append") cr:=by
 intro A l vs xs ρ H s Q E hb ha st r p
 revert r
 refine oD vs (P:=aJ C l none ρ s Q E) id p fun i v ys ho hl p r=>rs2 r fun x y r r'=>?_
 refine byC fun kq=>?_
 obtain⟨a,items,n,sl,rfl,g,rs,hp⟩:=dJ st ho r
 refine kq ?_;try clear kq
 have hlen:ys.length=items.size:=by rw[rs.length,Array.length_toList]
 have hm:bG ρ a:=⟨_,List.mem_of_getElem? hp,.inl rfl⟩
 refine rO g (fun h' n' g' sb=>p ρ _ { s with heap:=h' } ?_ .none) (iY (Nat.le_of_lt (hlen ▸ hl)))
 refine Ev.put st hp (.inl rfl) (.sameBut sb) ⟨rfl,rfl,rfl⟩ ⟨rfl,n',_,sl,g',?_⟩
 rw[Array.toList_push]
 exact(rs.append (.cons r' .nil)).put sb hm
end

theorem v6(k:Str→Option NameKind):∀ (b:List (Str × Value)) (m:Str→Option Value) (x:Str),(b.map (·.1)).Nodup→k x=some .local→bindL k b m x=(b.lookup x).or (m x):=by
 intro b
 induction b with
 | nil=>exact fun m x _ _=>by simp[bindL]
 | cons p r ih=>
  refine byC fun kq=>?_
  obtain⟨n,v⟩:=p
  refine kq ?_;try clear kq
  intro m x hn hx
  rw[List.map_cons,List.nodup_cons]at hn
  unfold bindL
  rw[ih _ x hn.2 hx,List.lookup_cons]
  by_cases hxn:x=n
  ·subst hxn
   rw[if_pos hx]
   have:r.lookup x=none:=by
    cases q:r.lookup x with
    | none=>rfl
    | some w=>exact absurd (List.mem_map.mpr ⟨(x,w),mem_of_lookup q,rfl⟩) hn.1
   simp[this]
  ·have:(x == n)=false:=beq_eq_false_iff_ne.mpr hxn
   rw[this]
   dsimp only
   congr 1
   split
   ·simp[hxn]
   ·rfl
theorem v5(k:Str→Option NameKind):∀ (b:List (Str × Value)) (m:Str→Option Value) (x:Str),(b.map (·.1)).Nodup→k x=some .cell→bindC k b m x=(b.lookup x).or (m x):=by
 intro b
 induction b with
 | nil=>exact fun m x _ _=>by simp[bindC]
 | cons p r ih=>
  refine byC fun kq=>?_
  obtain⟨n,v⟩:=p
  refine kq ?_;try clear kq
  intro m x hn hx
  rw[List.map_cons,List.nodup_cons]at hn
  unfold bindC
  rw[ih _ x hn.2 hx,List.lookup_cons]
  by_cases hxn:x=n
  ·subst hxn
   rw[if_neg (by rw[hx];decide)]
   have:r.lookup x=none:=by
    cases q:r.lookup x with
    | none=>rfl
    | some w=>exact absurd (List.mem_map.mpr ⟨(x,w),mem_of_lookup q,rfl⟩) hn.1
   simp[this]
  ·have:(x == n)=false:=beq_eq_false_iff_ne.mpr hxn
   rw[this]
   dsimp only
   congr 1
   split
   ·rfl
   ·simp[hxn]
theorem tU{ρ:Rho}{h:Heap}:∀ {ps:List Str}{vs:List V}{xs:List Value},RepVs ρ h vs xs→∀ {x:Str}{v:V},(ps.zip vs).lookup x=some v→∃ y,(ps.zip xs).lookup x=some y∧RepV ρ h v y:=by
 intro ps
 induction ps with
 | nil=>intro _ _ _ x v e;cases e
 | cons p ps ih=>
  intro vs xs q x v e
  cases q with
  | nil=>cases e
  | cons r rs=>
   rw[List.zip_cons_cons,List.lookup_cons]at e ⊢
   cases hb:x == p with
   | true=>rw[hb]at e;cases e;exact⟨_,rfl,r⟩
   | false=>rw[hb]at e;exact ih rs e
theorem fD:∀ (names:List (Str × NameKind)) (n:Nat) (acc:List (Str × Addr)) (x:Str),(acc.lookup x).isSome=true∨names.lookup x=some .cell→((cellsFrom n names acc).lookup x).isSome=true:=by
 intro names
 induction names with
 | nil=>exact fun n acc x h=>h.elim id fun h=>nomatch h
 | cons p r ih=>
  refine byC fun kq=>?_
  obtain⟨a,k⟩:=p
  refine kq ?_;try clear kq
  intro n acc x h
  unfold cellsFrom
  by_cases hk:(k == NameKind.cell)=true
  ·rw[if_pos hk]
   refine ih _ _ x ?_
   by_cases hx:x=a
   ·subst hx;left;simp
   ·have hb:(x == a)=false:=beq_eq_false_iff_ne.mpr hx
    rw[List.lookup_cons,hb]at h ⊢
    exact h
  ·rw[if_neg hk]
   refine ih _ _ x ?_
   rcases h with h|h
   ·exact .inl h
   ·rw[List.lookup_cons]at h
    cases hb:x == a with
    | true=>rw[hb]at h;cases h;exact absurd rfl hk
    | false=>rw[hb]at h;exact .inr h

section
variable {C:Cx}{d:Nat}{sc:Scope}

theorem Ev.leave{l ρ H ρ' H'} {s s1 s':Shared}{env:Env}(x:Ev C l No ρ s ρ H s1) (y:Ev C (env::l) (c0 env) ρ s1 ρ' H' s') (ho:∀ b,c0 env b→s.heap.objs.size≤b) (hf:∀ L,env.frame=some L→s.heap.objs.size≤L):Ev C l No ρ s ρ' H' s':=by
 refine byC fun kq=>?_
 obtain⟨t2,e2,ht2⟩:=y.pre
 refine kq ?_;try clear kq
 refine⟨⟨y.st.old,y.st.hi,y.st.lo,y.st.rest,y.st.rep,y.st.frs.2.2,fun b hb=>y.st.frm b (let ⟨e,he,q⟩:=hb;⟨e,.tail _ he,q⟩)⟩,⟨t2,e2,fun p hp=>⟨CX x.keep.1 (ht2 p hp).1,CX x.keep.1 (ht2 p hp).2⟩⟩,CX x.keep.1 y.keep.1,fun b o g w=>?_⟩
 refine byC fun kq=>?_
 obtain⟨sl,g1,q1⟩:=x.keep.2 b o g w
 have lt:=Heap.lt_size g
 obtain⟨sl2,g2,q2⟩:=y.keep.2 b _ g1 (fun z=>z.elim (fun m=>w (.inl m)) fun o=>absurd lt (Nat.not_lt.mpr (ho b o)))
 refine kq ?_;try clear kq
 refine⟨sl2,g2,fun nz=>(q2 fun z=>?_).trans (q1 nz)⟩
 refine byC fun kq=>?_
 obtain⟨e,he,q⟩:=z
 refine kq ?_;try clear kq
 rcases List.mem_cons.mp he with rfl|he
 ·exact absurd lt (Nat.not_lt.mpr (hf b q))
 ·exact nz ⟨e,he,q⟩

noncomputable def ci(ps:List Str) (f:FS) (vs:List V) (H:Hp):Out V:=if vs.length=ps.length then(match f (ps.zip vs) H with
  | .ok (.ret v) _ H'=>.ok v H'
  | .ok _ _ H'=>.ok .none H'
  | .exc _ H'=>.exc H'
  | .bad=>.bad)else .bad
structure DefOk (C:Cx) (a:Addr) (fd:FuncData) (ps:List Str) (body:List Stmt):Prop where
 get:∃ o,C.h0.get? a=some o∧o.data=.func fd
 code:C.h0.CodeRec fd.code fd.qualname
 body:fd.body=.stmts body
 bind:∀ xs:List Value,xs.length=ps.length→bindArgs fd ⟨xs,[]⟩=pure (ps.zip xs)
 clo:fd.closure=[]
 glob:fd.globals=mainGlobals
 bui:fd.builtins=builtinsNs
 sto:ps.all (ej fd.scope)=true
 nodup:ps.Nodup
 kind:fd.scope.kind=.function
 co:fd.scope.isCoroutine=false
 gen:fd.scope.isGenerator=false
theorem Bud.deep{A:Around}{env:Env}(b:Bud (d + 1) A):Bud d (A.deeper env):=by
 refine byC fun kq=>?_
 obtain⟨h1,h2,h3⟩:=b
 refine kq ?_;try clear kq
 refine⟨?_,?_,h3⟩
 ·exact Dc (by rw[Nat.mul_succ];show A.depth + 1 + 2 * d≤_;rw[Dh,Nat.add_comm 1];exact Da (Da (by decide) _) _) h1
 ·exact Dc (by rw[Nat.mul_succ];show A.units + 3 + 20 * d≤_;rw[Dh,Nat.add_comm 3];exact Da (Da (by decide) _) _) h2
theorem pN{α:Type}:∀ {ps:List Str}{vs:List α},vs.length=ps.length→(ps.zip vs).map (·.1)=ps:=fun e=>List.map_fst_zip (Nat.le_of_eq e.symm)

noncomputable def lV(C:Cx) (d:Nat) (f:Value) (F:List V→Hp→Out V):Prop:=
 ∀ (A:Around) (l:List Env) (vs:List V) (xs:List Value) (ρ:Rho) (H:Hp) (s:Shared) (Q E:Value→Shared→Prop),
  Bud d A→A.frames=some l→St C l ρ H s→RepVs ρ s.heap vs xs→aJ C l none ρ s Q E (F vs H)→codeAny (model C.prog C.w) A (.call f ⟨xs,[]⟩) (fun r s'=>match r with | .ok (.ret v)=>Q v s' | .ok _=>False | .error e=>E e s') s
theorem lV.sim{f F} (h:lV C d f F):jS C d f F:=fun A l vs xs ρ H s Q E hb ha st r p=>wpAny_call (h A l vs xs ρ H s Q E hb ha st r p)
theorem xj{a fd ps body f} (O:C.Ok) (D:DefOk C a fd ps body) (h:lU C d fd.scope body f):lV C (d + 1) (.ref a) (ci ps f):=by
 intro A l vs xs ρ H s Q E hb ha st r p
 unfold ci at p
 by_cases hlen:vs.length=ps.length
 ·rw[if_pos hlen]at p
  refine byC fun kq=>?_
  obtain⟨o,ho,hd⟩:=D.get
  refine kq ?_;try clear kq
  have hxl:xs.length=ps.length:=r.length ▸ hlen
  refine(codeAny_call_function hb.room (st.old _ _ ho) hd D.co D.gen D.body (D.code.keeps st.old) ?_)
  rw[D.bind xs hxl,D.clo,D.glob,D.bui]
  have hkind:∀ x∈ps.zip xs,fd.scope.names.lookup x.1=some .local∨(fd.scope.names.lookup x.1=some .cell∧((cellsFrom (s.heap.objs.size + 1) fd.scope.names []).lookup x.1).isSome=true):=fun x hx=>by
   have hm:x.1∈ps:=by rw[← pN hxl];exact List.mem_map_of_mem hx
   have:=List.all_eq_true.mp D.sto _ hm
   unfold ej at this
   cases q:fd.scope.names.lookup x.1 with
   | none=>rw[q]at this;cases this
   | some k=>
    rw[q]at this
    cases k with
    | «local»=>exact .inl rfl
    | cell=>exact .inr ⟨rfl,fD _ _ _ _ (.inr q)⟩
    | _=>cases this
  refine wpAny_pure (wpAny_newFunctionEnv_cells D.kind hkind fun env he s1 x=>⟨(O.nolimit.keeps st.old).keeps x.toInCall.keep,codeAny_func ?_⟩)
  have hloc:env.locals=s.heap.objs.size:=by rw[he];rfl
  have hfrm:env.frame=some s.heap.objs.size:=by rw[he];rfl
  have hsc:env.scope=fd.scope:=by rw[he];rfl
  have hglob:env.globals=mainGlobals:=by rw[he];rfl
  have hbui:env.builtins=builtinsNs:=by rw[he];rfl
  have hcells:env.cells=cellsFrom (s.heap.objs.size + 1) fd.scope.names []:=by rw[he];rfl
  have ns:=x.toInCall.ns
  have hsz:s.heap.objs.size≤s1.heap.objs.size:=by
   refine byC fun kq=>?_
   obtain⟨o',_,_,g',_⟩:=ns
   refine kq ?_;try clear kq
   rw[hloc]at g'
   exact Nat.le_of_lt (Heap.lt_size g')
  have hrest:s1.gens=s.gens∧s1.drawn=s.drawn∧s1.os=s.os:=by
   refine byC fun kq=>?_
   obtain⟨h',tk,e⟩:=x.toInCall.same
   refine kq ?_;try clear kq
   rw[e];exact⟨rfl,rfl,rfl⟩
  have k1:bt No (dA l) s.heap s1.heap:=⟨hsz,fun b o g _=>⟨o.slots,x.toInCall.keep b o g,fun _=>rfl⟩⟩
  have e1:Ev C l No ρ s ρ H s1:=Ev.keepNo st k1 hrest
  have own_ge:∀ b,c0 env b→s.heap.objs.size≤b:=by
   rintro b (rfl|⟨n,hn⟩)
   ·rw[hloc];exact Nat.le_refl _
   ·have:=x.above n b (mem_of_lookup hn)
    rw[hloc]at this
    exact Nat.le_of_lt this
  have none0:C.h0.get? s.heap.objs.size=none:=by
   cases q:C.h0.get? s.heap.objs.size with
   | none=>rfl
   | some o=>exact absurd (Heap.lt_size (st.old _ _ q)) (Nat.lt_irrefl _)
  have st1:St C (env::l) ρ H s1:=by
   refine⟨e1.st.old,e1.st.hi,e1.st.lo,e1.st.rest,e1.st.rep,⟨?_,⟨s.heap.objs.size,?_⟩,e1.st.frs⟩,fun b hb=>?_⟩
   ·rw[hsc,D.kind];decide
   ·refine byC fun kq=>?_
    obtain⟨o',es,ep,g',d',_⟩:=ns
    refine kq ?_;try clear kq
    rw[hloc]at g'
    exact⟨o',hfrm,none0,g',fun vs z=>by rw[d']at z;cases z⟩
   ·refine byC fun kq=>?_
    obtain⟨e,he',q⟩:=hb
    refine kq ?_;try clear kq
    rcases List.mem_cons.mp he' with rfl|he'
    ·rw[hfrm]at q;cases q
     exact st.fresh (Nat.le_refl _)
    ·exact e1.st.frm b ⟨e,he',q⟩
  have hnd:((ps.zip xs).map (·.1)).Nodup:=by rw[pN hxl];exact D.nodup
  have r1:RepVs ρ s1.heap vs xs:=r.ev0 st e1
  have fr1:FrOk C env (env::l) (ps.zip vs) ρ s1.heap:=by
   refine⟨by rw[hsc];exact D.kind,hglob,hbui,⟨env,l,rfl,rfl⟩,⟨_,ns,fun y v hv hk=>?_⟩,fun y v hv hk=>?_,fun y c hc=>⟨_,x.cell y c hc⟩,fun y y' c hc hc'=>name_of_addr x.apart (mem_of_lookup hc) (mem_of_lookup hc'),
    ⟨by rw[hloc];exact st.lo,by rw[hloc];exact st.fresh (Nat.le_refl _)⟩,fun y c hc=>⟨CX st.lo (own_ge c (.inr ⟨y,hc⟩)),st.fresh (own_ge c (.inr ⟨y,hc⟩))⟩,fun y hk=>?_⟩
   ·refine byC fun kq=>?_
    obtain⟨z,hz,rz⟩:=tU r1 hv
    refine kq ?_;try clear kq
    exact⟨z,by rw[v6 _ _ _ _ hnd hk,hz];rfl,rz⟩
   ·refine byC fun kq=>?_
    obtain⟨z,hz,rz⟩:=tU r1 hv
    have hk':env.kindOf y=some .cell:=by
     have hm:y∈ps:=by rw[← pN hlen];exact List.mem_map.mpr ⟨_,mem_of_lookup hv,rfl⟩
     have:=List.all_eq_true.mp D.sto _ hm
     unfold ej at this
     unfold Env.kindOf at hk ⊢
     rw[hsc]at hk ⊢
     rcases hk with hk|hk
     ·exact hk
     ·rw[hk]at this;cases this
    have hs:(env.cells.lookup y).isSome=true:=by
     rw[hcells]
     refine fD _ _ _ _ (.inr ?_)
     unfold Env.kindOf at hk'
     rw[hsc]at hk';exact hk'
    obtain⟨c,hc⟩:=Option.isSome_iff_exists.mp hs
    refine kq ?_;try clear kq
    have ic:=x.cell y c hc
    rw[v5 _ _ _ _ hnd hk',hz]at ic
    exact⟨c,z,hc,ic,rz⟩
   ·rw[hcells]
    refine fD _ _ _ _ (.inr ?_)
    unfold Env.kindOf at hk
    rw[hsc]at hk;exact hk
  have hfr:(A.deeper env).frames=some (env::l):=by show A.frames.map _=_;rw[ha];rfl
  refine h (A.deeper env) env (env::l) (ps.zip vs) ρ H s1 _ _ hb.deep hfr hsc fr1 st1 ?_
  cases hf:f (ps.zip vs) H with
  | bad=>rw[hf]at p;exact p.elim
  | ok fl m' H'=>
   rw[hf]at p
   intro ρ' F s' y fr' rf
   have e2:=e1.leave y own_ge fun L hL=>by rw[hfrm]at hL;cases hL;exact Nat.le_refl _
   cases rf with
   | ret rv=>exact p ρ' _ s' e2 rv
   | next=>exact p ρ' _ s' e2 .none
   | cont=>exact p ρ' _ s' e2 .none
   | brk=>exact p ρ' _ s' e2 .none
  | exc m' H'=>
   rw[hf]at p
   intro ρ' e s' y fr' fly
   rw[hfrm]at fly
   refine w5 hfr hfrm y.st.frs y.keep.1 fly fun h' fa k=>?_
   have y2:=y.thru (s':={ s' with heap:=h' }) k st1.lo ⟨rfl,rfl,rfl⟩
   have e2:=e1.leave y2 own_ge fun L hL=>by rw[hfrm]at hL;cases hL;exact Nat.le_refl _
   exact p ρ' e { s' with heap:=h' } e2 (.inr (.inl (fa.mono hsz)))
 ·rw[if_neg hlen]at p;exact p.elim
end

noncomputable def bC:List Value:=[.type "Exception",.type "BaseException",.type "object"]
structure ExcOk (C:Cx) (sm fI:Addr) (nm q:Str) (N:Addr) (bs:List Value) (hdct:Bool) (sn:List Str) (sub:List Value) (ab:Bool) (col:Option Bool) (dd:Option Addr) (k0 k1 k2 k3 k5:Option Value):Prop where
 sf:C.K.lookup C.sf=some (excClassObj nm q C.sf N bs (.ref sm::bC) hdct sn sub ab col dd k0 k1 k2 k3 k5 "Exception.__new__")
 init:findIn C.K (.ref C.sf) "__init__"=some (some (.ref fI))
 fn:typeIn C.K (.ref fI)=some (.type "function")

section
variable {C:Cx}{d:Nat}{sc:Scope}
variable {sm fI:Addr}{nm q:Str}{N:Addr}{bs:List Value}{hdct:Bool}{sn:List Str}{sub:List Value}{ab:Bool}{col:Option Bool}{dd:Option Addr}{k0 k1 k2 k3 k5:Option Value}

theorem gC{h:Heap}:∀ (X:String),(Value.ref sm::bC).contains (.type X)=bC.contains (.type X):=fun X=>by
 rw[List.contains_cons];rfl

theorem oM{M:Model}{A:Around}{E:Value→Shared→Prop}{h:Heap}{g d t os} {rest:List Value}{Q:Unit→Shared→Prop}(hC:h.get? C.sf=some (excClassObj nm q C.sf N bs (.ref sm::bC) hdct sn sub ab col dd k0 k1 k2 k3 k5 "Exception.__new__"))
  (hq:Q () ⟨h,g,d,t,os⟩):wpAny M A (checkBuiltinCall "Exception.__new__" ⟨.ref C.sf::rest,[]⟩) Q E ⟨h,g,d,t,os⟩:=by
 have F:=F.excBase_Exception
 have hcont:(Value.ref C.sf::.ref sm::bC).contains (.type "Exception")=true:=by rw[List.contains_cons,gC (h:=h)];rfl
 have hstar:=F.noStar
 simp only[checkBuiltinCall,F.newKind,F.newSplit,F.newRow]
 repeat (first|refine wpAny_loadPart_at hC ?_|(refine wpAny_isSubtype_exc hC ?_;rw[hcont])|refine wpAny_staticBase_exc hC ?_|refine wpAny_madeBy_exc hC ?_|simp only[bne_self_eq_false,Bool.false_eq_true,if_false]|wp_step)
 exact hq

theorem qi{prog w} {A:Around}{R:Result→Shared→Prop}{h:Heap}{g d t os} {rest:List Value}(hC:h.get? C.sf=some (excClassObj nm q C.sf N bs (.ref sm::bC) hdct sn sub ab col dd k0 k1 k2 k3 k5 "Exception.__new__"))
  (hq:R (.ok (.ret (.ref (h.objs.size + 1)))) ⟨(h.push { cls:=.type "tuple",data:=.seq rest.toArray }).push
   { cls:=.ref C.sf,data:=.fields #[.ref h.objs.size,.none,.none,.none,.bool false,.none] },g,d,t,os⟩) (hrest:rest.length≤sizeLine):
  codeAny (model prog w) A (.builtin "Exception.__new__" ⟨.ref C.sf::rest,[]⟩) R ⟨h,g,d,t,os⟩:=by
 have F:=F.excBase_Exception
 have hends:=F.ends
 have hcB:(Value.ref C.sf::.ref sm::bC).contains (.type "Exception")=true:=by rw[List.contains_cons,gC (h:=h)];rfl
 have hcA:(Value.ref C.sf::.ref sm::bC).contains (.type "AttributeError")=false:=by rw[List.contains_cons,gC (h:=h)];rfl
 have hcN:(Value.ref C.sf::.ref sm::bC).contains (.type "NameError")=false:=by rw[List.contains_cons,gC (h:=h)];rfl
 refine codeAny_builtinAt F.entry ?_
 unfold Builtin.«BaseException.__new__»
 refine PySem.wpAt_bind ?_
 show PySem.wpAt _ _ _ (stack >>= _) _ _ _
 refine PySem.wpAt_bind (PySem.wpAt_stack fun p below=>PySem.wpAt_of_wpAny ?_)
 wp_walk
 refine PySem.wpAt_of_wpAny ?_
 rw[F.owner]
 repeat (first|with_reducible refine wpAny_madeHere_exc F.canon hC ?_|with_reducible refine wpAny_loadPart_at hC ?_|(with_reducible refine wpAny_isSubtype_exc hC ?_;first|rw[hcB]|rw[hcA]|rw[hcN])|wp_step)
 show R _ _
 rw[Heap.size_push]
 exact hq

theorem pE{prog w} {A:Around}{E:Value→Shared→Prop}{h:Heap}{g d t os} {rest:List Value}{Q:Fin→Shared→Prop}(X:C.K.In h) (O:ExcOk C sm fI nm q N bs hdct sn sub ab col dd k0 k1 k2 k3 k5)
  (hq:∀ h' e,h.objs.size≤e→Heap.MadeExcOf h h' e (.ref C.sf) rest→
   wpAny (model prog w) A (call (.ref fI) (.ref e::rest)) (fun r s'=>r=.none∧Q (.done (.ret (.ref e))) s') E ⟨h',g,d,t,os⟩) (hrest:rest.length≤sizeLine):
  wpAny (model prog w) A (Builtin.«type.__call__» ⟨.ref C.sf::rest,[]⟩) Q E ⟨h,g,d,t,os⟩:=by
 have F:=F.excBase_Exception
 have hC:=X _ _ O.sf
 repeat (first|with_reducible refine wpAny_loadPart_at hC ?_|with_reducible refine wpAny_madeBy_exc hC ?_|wp_step)
 refine codeAny_call_builtin_code (Code.quiet_builtin _ F.quiet) (oM hC ?_)
 refine qi hC ?_ hrest
 show wpAny _ _ _ _ _ _
 have kk:∀ b o,h.get? b=some o→((h.push { cls:=.type "tuple",data:=.seq rest.toArray }).push { cls:=.ref C.sf,data:=.fields #[.ref h.objs.size,.none,.none,.none,.bool false,.none] }).get? b=some o:=
  fun b o e=>Heap.get?_push_of_some _ (Heap.get?_push_of_some _ e)
 have hC₁:=kk _ _ hC
 have X₁:=X.keeps kk
 have hget:((h.push { cls:=.type "tuple",data:=.seq rest.toArray }).push
   { cls:=.ref C.sf,data:=.fields #[.ref h.objs.size,.none,.none,.none,.bool false,.none] }).get? (h.objs.size + 1)=some
   { cls:=.ref C.sf,data:=.fields #[.ref h.objs.size,.none,.none,.none,.bool false,.none] }:=by heap_get
 have hcC:(Value.ref C.sf::.ref sm::bC).contains (.ref C.sf)=true:=by simp
 unfold isInstance
 repeat (first|with_reducible refine wpAny_loadPart_at hget ?_|(with_reducible refine wpAny_isSubtype_exc hC₁ ?_;rw[hcC])|wp_step)
 show wpAny _ _ (typeLookup (.ref C.sf) _) _ _ _
 refine(looks_findIn X₁ O.init).at ?_
 refine wpAny_holding (wpAny_bind ?_)
 refine(bind_fn X₁ _ O.fn).at ?_
 refine(wpAny_bind (wpAny_mono (hq _ (h.objs.size + 1) (Nat.le_succ _) ⟨kk,Heap.get?_none_of_le (Nat.le_succ _),h.objs.size,hget,Heap.get?_none_of_le (Nat.le_refl _),?_⟩) (fun r s' hr=>?_) fun _ _ x=>x))
 ·exact Heap.get?_push_of_some _ (Heap.get?_push_at rfl rfl)
 ·refine byC fun kq=>?_
  obtain⟨rfl,hQ⟩:=hr
  refine kq ?_;try clear kq
  wp_walk
  exact hQ
theorem yD{prog w} {A:Around}{E:Value→Shared→Prop}{h:Heap}{g d t os} {rest:List Value}{Q:Value→Shared→Prop}(X:C.K.In h) (O:ExcOk C sm fI nm q N bs hdct sn sub ab col dd k0 k1 k2 k3 k5)
  (hq:∀ h' e,h.objs.size≤e→Heap.MadeExcOf h h' e (.ref C.sf) rest→
   wpAny (model prog w) (A.under (.builtin "type.__call__" ⟨.ref C.sf::rest,[]⟩)) (call (.ref fI) (.ref e::rest)) (fun r s'=>r=.none∧Q (.ref e) s') E ⟨h',g,d,t,os⟩) (hrest:rest.length≤sizeLine):
  wpAny (model prog w) A (call (.ref C.sf) rest) Q E ⟨h,g,d,t,os⟩:=by
 have hC:=X _ _ O.sf
 have f1:=tc_lookup
 have f2:=tc_bind (.ref C.sf)
 have hT:(⟨h,g,d,t,os⟩:Shared).TypeIs (.ref C.sf) "type":=⟨_,hC,rfl⟩
 refine wpAny_call (codeAny_of_tree ?_)
 show wpAny _ _ (callAny (.ref C.sf) _) _ _ _
 repeat (any_goals (first|assumption|with_reducible refine wpAny_loadPart_at hC ?_|wp_step))
 refine⟨rfl,?_⟩
 refine codeAny_call_builtin_at (Code.quiet_builtin _ (by decide +kernel)) entry_typeCall (wpAny_check_type_call_sub hC (pE X O (fun h' e hle hm=>?_) hrest))
 exact hq h' e hle hm
end

noncomputable def dl:Scope:={ kind:=.function,names:=[(CW "self",.local),(CW "what",.local),(CW "__class__",.free),(CW "super",.globalImplicit)],isGenerator:=false,isCoroutine:=false }
noncomputable def mK(p1 p2 p3 p4 p5 p6 p7 p8 p9 pa:Pos):List Stmt:=[
 .Expr (.Call (.Attribute (.Call (.Name (CW "super") p1) [] [] p2) (CW "__init__") p3) [.Name (CW "what") p4] [] p5) p6,
 .Assign [.Attribute (.Name (CW "self") p7) (CW "what") p8] (.Name (CW "what") p9) pa]
structure InitOk (C:Cx) (sm fI ce cd:Addr) (fd:FuncData) (file:Str) (p1 p2 p3 p4 p5 p6 p7 p8 p9 pa:Pos):Prop where
 fn:∃ o,C.h0.get? fI=some o∧o.data=.func fd
 first:(fd.params.posonlyargs++fd.params.args).head?.map (·.arg)=some (CW "self")
 bind:∀ a b:Value,bindArgs fd ⟨[a,b],[]⟩=pure [(CW "self",a),(CW "what",b)]
 body:fd.body=.stmts (mK p1 p2 p3 p4 p5 p6 p7 p8 p9 pa)
 scope:fd.scope=dl
 clo:fd.closure=[(CW "__class__",ce)]
 glob:fd.globals=mainGlobals
 bui:fd.builtins=builtinsNs
 code:fd.code=.ref cd
 qual:∃ o vs t t',C.h0.get? cd=some o∧o.data=.fields vs∧vs[1]? = some (.str fd.qualname t)∧vs[2]? = some (.str file t')
 cell:C.h0.IsCell ce (some (.ref sm))
 main:C.prog.main.file=file
 free:(C.prog.main.scope.names.lookup (CW "super")).isSome=false
 sup:C.mg (CW "super")=none∧C.mb (CW "super")=some (.type "super")
 isT:Looks (model C.prog C.w) C.h0 (isType (.ref sm)) true
 sub:Looks (model C.prog C.w) C.h0 (isSubtype (.ref C.sf) (.ref sm)) true
 ne:C.sf ≠ sm
 sfT:∃ o,C.h0.get? C.sf=some o∧o.cls=.type "type"
 mro:Looks (model C.prog C.w) C.h0 (mroOf (.ref C.sf)) (.ref C.sf::.ref sm::bC)
 opq:∀ x y,Looks (model C.prog C.w) C.h0 (notOfAnOpaqueClass x y (.ref C.sf)) ()
 subE:Looks (model C.prog C.w) C.h0 (isSubtype (.ref C.sf) (.type "Exception")) true

section
variable {C:Cx}{sm fI ce cd:Addr}{fd:FuncData}{file:Str}{p1 p2 p3 p4 p5 p6 p7 p8 p9 pa:Pos}
noncomputable def ck(fd:FuncData) (L fI:Addr) (ce:Addr):Env:=newEnv dl L mainGlobals [(CW "__class__",ce)] (fd.qualname++".<locals>.") (some fI) fd.code none builtinsNs

theorem rY{M:Model}{A:Around}{body:List Stmt}{env:Env}{s:Shared}{Q:List Env→Shared→Prop}{E:Value→Shared→Prop}(q:Q [] s):PySem.wpAt M A (.func body env) comprehensionsAround Q E s:=by
 unfold comprehensionsAround callersCodes
 refine PySem.wpAt_bind (PySem.wpAt_bind (PySem.wpAt_stack fun p below=>?_))
 have e1:pastTheWaiting ((Code.func body env,p)::below)=(Code.func body env,p)::pastTheWaiting.go false (some (.func body env)) below:=by
  unfold pastTheWaiting
  rw[pastTheWaiting.go]
  rfl
 rw[e1]
 refine PySem.wpAt_of_wpAny ?_
 show wpAny M A (if (some env.frame != some env.frame)=true then _ else pure _) _ _ _
 rw[if_neg (by rw[bne_self_eq_false];exact Bool.false_ne_true)]
 refine wpAny_pure (PySem.wpAt_of_wpAny (wpAny_pure ?_))
 exact q

theorem vM{α:Type}{M:Model}{A:Around}{c:Code}{m:Sem α}{Q:α→Shared→Prop}{E:Value→Shared→Prop}{s:Shared}(h:∀ Q':α→Shared→Prop,(∀ v s',Q v s'→Q' v s')→PySem.wpAt M A c m Q' E s):PySem.wpAt M A c m Q E s:=h Q fun _ _ q=>q
theorem atS{α:Type}{M:Model}{A:Around}{c:Code}{p:Pos}{s:Shared}{Q:α→Shared→Prop}{E:Value→Shared→Prop}{k:Unit→Sem α}(h:PySem.wpAt M A c (k ()) Q E s):PySem.wpAt M A c (standAt p >>= k) Q E s:=
 PySem.wpAt_bind (PySem.wpAt_of_wpAny (wpAny_standAt h))

theorem te{A:Around}{s:Shared}{L e:Addr}{mm:Str→Option Value}{whole:Sem Value}{Q:Value→Shared→Prop}{E:Value→Shared→Prop}{bd:List Stmt}(OC:C.Ok) (O:InitOk C sm fI ce cd fd file p1 p2 p3 p4 p5 p6 p7 p8 p9 pa)
  (hk:∀ b o,C.h0.get? b=some o→s.heap.get? b=some o) (hn:s.heap.Ns L mm) (hs:mm (CW "self")=some (.ref e))
  (q:wpAny (model C.prog C.w) A (call (.type "super") [.ref sm,.ref e]) Q E s):
  PySem.wpAt (model C.prog C.w) A (.func bd (ck fd L fI ce)) (attributeBase (.Call (.Name (CW "super") p1) [] [] p2) (CW "__init__") (ck fd L fI ce) whole) Q E s:=by
 unfold attributeBase
 refine byC fun kq=>?_
 obtain⟨o,ho,hd⟩:=O.fn
 obtain⟨oc,vs,t,t',hoc,hdc,h1,h2⟩:=O.qual
 refine kq ?_;try clear kq
 dsimp only
 have k1:(ck fd L fI ce).kindOf (CW "super")=some .globalImplicit:=by show dl.names.lookup _=_;decide +kernel
 have k2:(ck fd L fI ce).kindOf (CW "__class__")=some .free:=by show dl.names.lookup _=_;decide +kernel
 have k3:(ck fd L fI ce).kindOf (CW "self")=some .local:=by show dl.names.lookup _=_;decide +kernel
 rw[k1,k2]
 rw[if_neg (by decide +kernel)]
 show PySem.wpAt _ _ _ (pure (ck fd L fI ce) >>= _) _ _ _
 refine PySem.wpAt_bind (PySem.wpAt_of_wpAny (wpAny_pure ?_))
 show PySem.wpAt _ _ _ (if ((ck fd L fI ce).kindOf (CW "__class__") != some NameKind.free)=true then _ else _) _ _ _
 rw[k2,if_neg (by decide +kernel)]
 refine PySem.wpAt_bind (PySem.wpAt_of_wpAny ?_)
 unfold funcData
 refine wpAny_bind (wpAny_load (hk _ _ ho) ?_)
 rw[hd]
 refine wpAny_pure ?_
 have hf:∃ a,(fd.params.posonlyargs++fd.params.args).head? = some a∧a.arg=CW "self":=Option.map_eq_some_iff.mp O.first
 refine byC fun kq=>?_
 obtain⟨a,ha,har⟩:=hf
 refine kq ?_;try clear kq
 show PySem.wpAt _ _ _ (match (fd.params.posonlyargs++fd.params.args).head? with|some first=>_|_=>_) _ _ _
 rw[ha]
 dsimp only
 refine PySem.wpAt_bind (PySem.wpAt_of_wpAny (wpAny_askSetting ?_))
 have hcd:(ck fd L fI ce).code=.ref cd:=O.code
 rw[hcd]
 refine PySem.wpAt_bind (PySem.wpAt_of_wpAny (wpAny_field (hk _ _ hoc) hdc h2 ?_))
 show PySem.wpAt _ _ _ (match if (C.prog.main.file == file)=true then some C.prog.main else _ with|some top=>_|_=>_) _ _ _
 rw[if_pos (by rw[O.main];exact beq_self_eq_true _)]
 dsimp only
 rw[O.free,if_neg (by decide)]
 refine PySem.wpAt_bind (PySem.wpAt_of_wpAny (wpAny_rule ?_))
 refine atS (PySem.wpAt_bind (PySem.wpAt_of_wpAny ?_))
 rw[loadName_read rfl k1]
 refine Calls.loadGlobal_builtin (mg:=C.mg) (mb:=C.mb) (OC.g.keeps hk) O.sup.1 (OC.b.keeps hk) O.sup.2 ?_
 refine PySem.wpAt_bind (PySem.wpAt_of_wpAny (wpAny_loadName_free rfl k2 (by show List.lookup _ [(CW "__class__",ce)]=some ce;simp) (O.cell.keeps hk) ?_ (by decide +kernel)))
 refine PySem.wpAt_bind (rY ?_)
 rw[har]
 refine PySem.wpAt_bind (PySem.wpAt_of_wpAny (wpAny_loadName_local (env:=ck fd L fI ce) rfl k3 hn hs ?_))
 refine PySem.wpAt_bind (PySem.wpAt_of_wpAny ((O.isT.keeps hk).here ?_))
 rw[if_pos (by decide +kernel)]
 exact PySem.wpAt_of_wpAny q
end
section
variable {C:Cx}{sm fI ce cd:Addr}{fd:FuncData}{file:Str}{p1 p2 p3 p4 p5 p6 p7 p8 p9 pa:Pos}

theorem nP:mroOf (.type "super")=pure [.type "super",.type "object"]:=by rw[mroOf_type];kernel_rfl
theorem kK:typeLookup (.type "super") "__new__"=pure (some (.builtin "super.__new__")):=by rw[typeLookup_type,builtinLookup_eq_fast];kernel_rfl
theorem fg:Slot "super" "__init__" "super.__init__":=
 .of (owner:="super") (n:="__init__") (by rw[typeLookup_type,builtinLookup_eq_fast];kernel_rfl) (by decide +kernel) (by decide +kernel) (by decide +kernel) (by first|exact .inl (by decide +kernel)|exact .inr (by decide +kernel)) (by rw[isSubtype_type];kernel_rfl)
theorem oK:TypeCalled "super" "super.__new__" "super.__init__":=
 ⟨by decide +kernel,by decide +kernel,⟨_,_,nP⟩,madeBy_type nP kK (by decide +kernel),by decide +kernel,by rw[isSubtype_type];kernel_rfl,fg⟩
theorem lF:entryFor table "super.__new__"=some Builtin.«super.__new__»:=entryFor_of_tree (by kernel_rfl)
theorem kF:entryFor table "super.__init__"=some Builtin.«super.__init__»:=entryFor_of_tree (by kernel_rfl)
theorem nw(a b:Value):checkBuiltinCall "super.__new__" ⟨[.type "super",a,b],[]⟩=pure ():=by kernel_rfl
theorem lA(a b c:Value):argsOk "super.__init__" ⟨[a,b,c],[]⟩:=by unfold argsOk;kernel_rfl
theorem nB(a b:Value):(match Manifest.signature? "type.super" with|some sig=>Bind.checkArgs "type.super" sig ⟨[a,b],[]⟩|none=>pure ())=pure ():=by kernel_rfl

noncomputable def eV(a b c:Value):Obj:={ cls:=.type "super",data:=.fields #[a,b,c] }
theorem rV{A:Around}{s:Shared}{e:Addr}{oe:Obj}{Q:Value→Shared→Prop}{E:Value→Shared→Prop}(O:InitOk C sm fI ce cd fd file p1 p2 p3 p4 p5 p6 p7 p8 p9 pa)
  (hk:∀ b o,C.h0.get? b=some o→s.heap.get? b=some o) (he:s.heap.get? e=some oe) (hce:oe.cls=.ref C.sf) (hnc:∀ c,oe.data ≠ .cls c)
  (q:∀ h',(∀ b o,s.heap.get? b=some o→h'.get? b=some o)→h'.get? s.heap.objs.size=some (eV (.ref sm) (.ref e) (.ref C.sf))→Q (.ref s.heap.objs.size) { s with heap:=h' }):
  wpAny (model C.prog C.w) A (call (.type "super") [.ref sm,.ref e]) Q E s:=by
 have ft:=oK
 refine byC fun kq=>?_
 obtain⟨c,tl,hmro⟩:=ft.mro
 refine kq ?_;try clear kq
 have hmade:=ft.made
 have hsub:=ft.sub
 refine wpAny_call (codeAny_of_tree ?_)
 show wpAny _ _ (callAny (.type "super") _) _ _ _
 refine wpAny_pure ⟨Code.quiet_builtin _ (by decide +kernel),codeAny_builtin F.entry_type_call ?_⟩
 rw[Around.under_plain (weight_type_call_type "super" [.ref sm,.ref e] []) rfl]
 have h1:=ft.notType
 have h2:=ft.canCreate
 have hct:∀ A' (Q':Unit→Shared→Prop) (E':Value→Shared→Prop),Q' () s→wpAny (model C.prog C.w) A' (checkTypeCall "super" ⟨[.ref sm,.ref e],[]⟩) Q' E' s:=by
  intro A' Q' E' q'
  have hsig:=nB (.ref sm) (.ref e)
  unfold checkTypeCall
  rw[if_pos (by rfl)]
  dsimp only
  rw[if_neg (by simp)]
  refine wpAny_bind ((O.isT.keeps hk).here ?_)
  rw[if_neg (by decide +kernel)]
  exact wpAny_of_eq hsig q'
 repeat (any_goals (first|assumption|with_reducible refine wpAny_bind (hct _ _ _ ?_)|wp_step))
 refine codeAny_call_builtin_code (Code.quiet_builtin _ (by decide +kernel)) (wpAny_of_eq (nw _ _) ?_)
 refine codeAny_builtin lF ?_
 unfold Builtin.«super.__new__»
 dsimp only
 rw[if_neg (by decide +kernel)]
 unfold newFields
 refine wpAny_bind (wpAny_newObj_type ?_)
 refine wpAny_pure ?_
 dsimp only
 have g0:(s.heap.push (eV .none .none .none)).get? s.heap.objs.size=some (eV .none .none .none):=Heap.get?_push_size _ rfl
 have hT:({ s with heap:=s.heap.push (eV .none .none .none) }:Shared).TypeIs (.ref s.heap.objs.size) "super":=⟨_,g0,rfl⟩
 refine wpAny_bind (wpAny_isInstance (T:="super") (b:=true) hT (by rw[isSubtype_type];kernel_rfl) ?_)
 rw[if_neg (by decide +kernel)]
 refine wpAny_bind (wpAny_holding (wpAny_callSpecial?_slot (name:=CW "__init__") hT fg (wpAny_call_entry fg hT kF ?_ (lA _ _ _))))
 unfold Builtin.«super.__init__»
 refine wpAny_bind (wpAny_of_eq (a:=()) rfl ?_)
 dsimp only
 refine wpAny_bind (wpAny_pure ?_)
 dsimp only
 have hk1:∀ b o,C.h0.get? b=some o→(s.heap.push (eV .none .none .none)).get? b=some o:=fun b o g=>Heap.get?_push_of_some _ (hk b o g)
 have he1:(s.heap.push (eV .none .none .none)).get? e=some oe:=Heap.get?_push_of_some _ he
 refine wpAny_bind ((O.isT.keeps hk1).here ?_)
 rw[if_neg (by decide +kernel),if_neg (show ¬((Value.ref e == Value.none)=true) from by simp)]
 refine wpAny_bind ?_
 show wpAny _ _ (isType (.ref e) >>= _) _ _ _
 refine wpAny_bind (ks_wpAny_isType_inst he1 hnc ?_)
 rw[if_neg (by decide +kernel)]
 show wpAny _ _ (typeOf (.ref e) >>= _) _ _ _
 refine wpAny_bind (wpAny_bind (wpAny_load he1 (wpAny_pure ?_)))
 rw[hce]
 refine wpAny_bind ((O.sub.keeps hk1).here ?_)
 rw[if_pos (by decide +kernel)]
 refine wpAny_pure ?_
 refine wpAny_bind (wpAny_setField_rec g0 (by decide) fun h1' g1 s1=>?_)
 refine wpAny_bind (wpAny_setField_rec g1 (by simp) fun h2' g2 s2=>?_)
 refine wpAny_bind (wpAny_setField_rec g2 (by simp) fun h3' g3 s3=>?_)
 refine wpAny_pure ⟨_,rfl,?_⟩
 rw[if_neg (by decide +kernel)]
 refine wpAny_pure ?_
 refine q h3' (fun b o g=>?_) g3
 have hb:b ≠ s.heap.objs.size:=Nat.ne_of_lt (Heap.lt_size g)
 exact s3.extBut b o hb (s2.extBut b o hb (s1.extBut b o hb (Heap.get?_push_of_some _ g)))
end
section
variable {C:Cx}{sm fI ce cd:Addr}{fd:FuncData}{file:Str}{p1 p2 p3 p4 p5 p6 p7 p8 p9 pa:Pos}

theorem eP:Slot "super" "__getattribute__" "super.__getattribute__":=
 .of (owner:="super") (n:="__getattribute__") (by rw[typeLookup_type,builtinLookup_eq_fast];kernel_rfl) (by decide +kernel) (by decide +kernel) (by decide +kernel) (by first|exact .inl (by decide +kernel)|exact .inr (by decide +kernel)) (by rw[isSubtype_type];kernel_rfl)
theorem mz:entryFor table "super.__getattribute__"=some Builtin.«super.__getattribute__»:=entryFor_of_tree (by kernel_rfl)
theorem nr(a b:Value):argsOk "super.__getattribute__" ⟨[a,b],[]⟩:=by unfold argsOk;kernel_rfl
theorem lq:typeLookup (.type "wrapper_descriptor") "__get__"=pure (some (.builtin "wrapper_descriptor.__get__")):=by rw[typeLookup_type,builtinLookup_eq_fast];kernel_rfl
theorem oQ:entryFor table "wrapper_descriptor.__get__"=some Builtin.«wrapper_descriptor.__get__»:=entryFor_of_tree (by kernel_rfl)
theorem jx:typeOf (.builtin "Exception.__init__")=pure (.type "wrapper_descriptor"):=by show builtinType _=_;rw[builtinType_eq_fast];kernel_rfl
theorem pw:classOwn (.type "Exception") "__init__"=pure (some (.builtin "Exception.__init__")):=by kernel_rfl
theorem mj:(Manifest.canonical "super.__getattribute__" != "object.__getattribute__")=true:=by decide +kernel

theorem zJ:Slot "wrapper_descriptor" "__get__" "wrapper_descriptor.__get__":=
 .of (owner:="wrapper_descriptor") (n:="__get__") lq (by decide +kernel) (by decide +kernel) (by decide +kernel) (by first|exact .inl (by decide +kernel)|exact .inr (by decide +kernel)) (by rw[isSubtype_type];kernel_rfl)
theorem pR(a b c:Value):argsOk "wrapper_descriptor.__get__" ⟨[a,b,c],[]⟩:=by unfold argsOk;kernel_rfl
theorem td{A:Around}{s:Shared}{e z:Addr}{oe:Obj}{Q:Value × List Value→Shared→Prop}{E:Value→Shared→Prop}{pl:Sem Bool}(O:InitOk C sm fI ce cd fd file p1 p2 p3 p4 p5 p6 p7 p8 p9 pa)
  (hk:∀ b o,C.h0.get? b=some o→s.heap.get? b=some o) (he:s.heap.get? e=some oe) (hce:oe.cls=.ref C.sf) (hz:s.heap.get? z=some (eV (.ref sm) (.ref e) (.ref C.sf)))
  (q:∀ tk,Q (.ref s.heap.objs.size,[]) { s with heap:=s.heap.push { cls:=.type "method-wrapper",data:=.fields #[.builtin "Exception.__init__",.ref e] },toks:=tk }):
  wpAny (model C.prog C.w) A (getMethod (.ref z) (CW "__init__") pl) Q E s:=by
 have hT:∀ tk:Nat,({ s with toks:=tk }:Shared).TypeIs (.ref z) "super":=fun _=>⟨_,hz,rfl⟩
 unfold getMethod
 refine wpAny_bind (wpAny_specialOf (hT s.toks) eP.lookup ?_)
 dsimp only
 rw[if_pos mj]
 refine wpAny_bind ?_
 refine wpAny_bind ?_
 refine wpAny_mkText ?_
 unfold getAttrBy
 refine wpAny_holding (wpAny_bind (wpAny_typeOf (hT (s.toks + 1)) (wpAny_bind (wpAny_of_eq eP.lookup ?_))))
 dsimp only
 rw[if_neg (by decide +kernel)]
 unfold getAttrByItsOwn
 refine wpAny_bind (wpAny_of_eq (a:=none) rfl ?_)
 refine wpAny_bind (wpAny_attempt (wpAny_holding ?_))
 unfold callGetattribute
 rw[if_neg (by decide +kernel)]
 unfold boundAndCalled
 refine wpAny_bind (wpAny_of_eq (eP.bind _) ?_)
 dsimp only
 refine wpAny_call_entry eP (hT (s.toks + 1)) mz (dD fun Q1 q1=>?_) (nr _ _)
 unfold Builtin.«super.__getattribute__»
 refine wpAny_bind (wpAny_pure ?_)
 rw[if_neg (by decide +kernel)]
 refine wpAny_bind (wpAny_pure ?_)
 dsimp only
 have hz':({ s with toks:=s.toks + 1 }:Shared).heap.get? z=some (eV (.ref sm) (.ref e) (.ref C.sf)):=hz
 refine wpAny_bind (wpAny_field hz' rfl (x:=.ref sm) rfl ?_)
 refine wpAny_bind (wpAny_field hz' rfl (x:=.ref e) rfl ?_)
 refine wpAny_bind (wpAny_field hz' rfl (x:=.ref C.sf) rfl ?_)
 rw[if_neg (by rw[show(Value.ref C.sf == Value.none)=false from by simp];decide +kernel)]
 refine wpAny_bind (O.opq _ _ _ _ _ { s with toks:=s.toks + 1 } hk ?_)
 rw[if_neg (show ¬((Value.ref C.sf == Value.type "module")=true) from by simp)]
 refine wpAny_bind (O.mro _ _ _ { s with toks:=s.toks + 1 } hk ?_)
 have hdrop:List.drop 1 (List.dropWhile (fun x=>x != Value.ref sm) (.ref C.sf::.ref sm::bC))=bC:=by
  have:(Value.ref C.sf != Value.ref sm)=true:=by simp[O.ne]
  rw[List.dropWhile_cons,if_pos this,List.dropWhile_cons,if_neg (by simp)]
  rfl
 rw[hdrop]
 unfold bC
 rw[List.forIn_cons]
 refine wpAny_bind (wpAny_bind (wpAny_bind (wpAny_of_eq pw ?_)))
 dsimp only
 refine wpAny_bind (wpAny_of_eq jx (wpAny_bind (wpAny_of_eq lq ?_)))
 dsimp only
 refine wpAny_bind (wpAny_holding ?_)
 have hes:e ≠ C.sf:=by
  rintro rfl
  refine byC fun kq=>?_
  obtain⟨o,g,c⟩:=O.sfT
  refine kq ?_;try clear kq
  rw[hk _ _ g]at he;cases he
  rw[c]at hce;cases hce
 rw[if_neg (show ¬((Value.ref e == Value.ref C.sf)=true) from by simp[hes])]
 have hTw:({ s with toks:=s.toks + 1 }:Shared).TypeIs (.builtin "Exception.__init__") "wrapper_descriptor":=jx
 refine wpAny_call_entry zJ hTw oQ (dD fun Q2 q2=>?_) (pR _ _ _)
 unfold Builtin.«wrapper_descriptor.__get__»
 refine wpAny_bind (wpAny_of_eq (a:=(Value.builtin "Exception.__init__",some (Value.ref e),some (Value.ref C.sf))) (by kernel_rfl) ?_)
 dsimp only
 show wpAny _ _ ((pure ((CW "__init__",Value.type "Exception"):Str × Value) >>= _) >>= _) _ _ _
 refine wpAny_bind (wpAny_bind (wpAny_pure ?_))
 dsimp only
 have ht:Looks (model C.prog C.w) s.heap (typeOf (.ref e)) (.ref C.sf):=hce ▸ (Looks.ld he).andThen .now
 refine wpAny_bind (wpAny_bind (ht _ _ _ { s with toks:=s.toks + 1 } (fun _ _ g=>g) ?_))
 refine O.subE _ _ _ { s with toks:=s.toks + 1 } hk ?_
 rw[if_neg (by decide +kernel)]
 refine wpAny_pure ?_
 unfold newFields
 refine wpAny_bind (wpAny_newObj_type (wpAny_pure (q2 _ _ ⟨_,rfl,?_⟩)))
 refine wpAny_bind (wpAny_pure (wpAny_pure ?_))
 dsimp only
 refine wpAny_pure ?_
 dsimp only
 refine wpAny_pure (q1 _ _ ⟨_,rfl,?_⟩)
 refine wpAny_pure (wpAny_pure ?_)
 exact q _
end
section
variable {nm qn:Str}{N:Addr}{bs:List Value}{hdct:Bool}{sn:List Str}{sub:List Value}{ab:Bool}{col:Option Bool}{dd:Option Addr}{k0 k1 k2 k3 k5:Option Value}
variable {C:Cx}{sm fI ce cd:Addr}{fd:FuncData}{file:Str}{p1 p2 p3 p4 p5 p6 p7 p8 p9 pa:Pos}

theorem md{M:Model}{A:Around}{E:Value→Shared→Prop}{s:Shared}{Q:Unit→Shared→Prop}{oe:Obj}(e:Addr) (x:Value) (hC:s.heap.get? C.sf=some (excClassObj nm qn C.sf N bs (.ref sm::bC) hdct sn sub ab col dd k0 k1 k2 k3 k5 "Exception.__new__")) (he:s.heap.get? e=some oe) (hce:oe.cls=.ref C.sf) (qq:Q () s):wpAny M A (checkBoundCall "Exception.__init__" ⟨[.ref e,x],[]⟩) Q E s:=by
 have F:=F.excBase_Exception
 have hshort:=F.noStar
 refine byC fun kq=>?_
 obtain⟨h,g,d,t,os⟩:=s
 refine kq ?_;try clear kq
 simp only[checkBoundCall,F.initKind,F.initRow]
 rw[if_pos (by decide +kernel)]
 repeat (first|(with_reducible refine wpAny_loadPart_at he ?_;rw[hce])|with_reducible refine wpAny_loadPart_at hC ?_|wp_step)
 exact qq

theorem oJ{A:Around}{s:Shared}{e z:Addr}{oe:Obj}{vs:Array Value}{x:Value}{Q:Value→Shared→Prop}{E:Value→Shared→Prop}
  (hw:s.heap.get? z=some { cls:=.type "method-wrapper",data:=.fields #[.builtin "Exception.__init__",.ref e] }) (he:s.heap.get? e=some oe) (hd:oe.data=.fields vs) (hv:0 < vs.size) (hce:oe.cls=.ref C.sf) (hC:s.heap.get? C.sf=some (excClassObj nm qn C.sf N bs (.ref sm::bC) hdct sn sub ab col dd k0 k1 k2 k3 k5 "Exception.__new__"))
  (q:∀ h',h'.get? e=some { oe with data:=.fields (vs.setIfInBounds 0 (.ref s.heap.objs.size)) }→(∀ b o,b ≠ e→s.heap.get? b=some o→h'.get? b=some o)→Q .none { s with heap:=h' }):
  wpAny (model C.prog C.w) A (call (.ref z) [x]) Q E s:=by
 refine wpAny_call (codeAny_of_tree ?_)
 show wpAny _ _ (callAny (.ref z) _) _ _ _
 unfold callAny
 refine wpAny_bind (wpAny_load hw ?_)
 dsimp only
 rw[if_pos (by decide +kernel)]
 show wpAny _ _ (if _ then _ else _) _ _ _
 rw[if_pos (by decide +kernel)]
 refine wpAny_bind (md e x hC he hce ?_)
 refine wpAny_bind (wpAny_pure ?_)
 refine wpAny_pure ⟨Code.quiet_builtin _ (by decide +kernel),codeAny_builtin F.excBase_Exception.initEntry ?_⟩
 unfold Builtin.«BaseException.__init__»
 show wpAny _ (A.under (Code.builtin "Exception.__init__" ⟨[.ref e,x],[]⟩)) (newTuple [x] >>= fun t=>Builtin.BaseException.bexcPut (.ref e) 0 t >>= fun _=>ret .none) _ _ _
 refine wpAny_bind (wpAny_newObj_type ?_)
 have he1:=Heap.get?_push_of_some { cls:=.type "tuple",data:=.seq #[x] } he
 unfold Builtin.BaseException.bexcPut
 refine wpAny_bind (wpAny_bind (wpAny_field he1 hd (x:=vs[0]) (Array.getElem?_eq_getElem hv) ?_))
 refine wpAny_bind (wpAny_setField he1 hd hv ?_)
 have fin:wpAny (model C.prog C.w) (A.under (Code.builtin "Exception.__init__" ⟨[.ref e,x],[]⟩)) (ret .none) (fun fin s'=>
   match fin with
   | Fin.done f=>
    match Except.ok f with
    | Except.ok (Flow.ret v)=>Q v s'
    | Except.ok a=>False
    | Except.error e=>E e s'
   | Fin.again c'=>
    c'.quiet=true∧
     codeAny (model C.prog C.w) A c'
      (fun r s'=>
       match r with
       | Except.ok (Flow.ret v)=>Q v s'
       | Except.ok a=>False
       | Except.error e=>E e s')
      s') E { s with heap:=(s.heap.push { cls:=.type "tuple",data:=.seq #[x] }).update e (Obj.mapFields (·.setIfInBounds 0 (.ref s.heap.objs.size))) }:=by
  refine wpAny_pure (q _ ?_ fun b o hb g=>?_)
  ·rw[Heap.get?_update_self _ he1 (Obj.isFreed_of_fields (Obj.data_mapFields hd _))]
   refine byC fun kq=>?_
   obtain⟨c,dt,da,sl⟩:=oe
   refine kq ?_;try clear kq
   dsimp only at hd
   subst hd
   rfl
  ·rw[Heap.get?_update_other _ _ (Ne.symm hb)]
   exact Heap.get?_push_of_some _ g
 cases vs[0]with
 | ref a=>exact wpAny_letGo fin
 | _=>exact wpAny_pure fin
end
section
variable {C:Cx}

theorem sG(self:Value) (a b:Addr):refuseLoop self "__setattr__" (.ref a::.ref b::bC)=pure ():=by
 rw[refuseLoop_ref,refuseLoop_ref];kernel_rfl

structure SetOk (C:Cx) (sm:Addr):Prop where
 set:findIn C.K (.ref C.sf) "__setattr__"=some (some (.builtin "object.__setattr__"))
 what:findIn C.K (.ref C.sf) (CW "what")=some none
 cls:∃ cd,clsIn C.K C.sf=some cd∧cd.mro=.ref C.sf::.ref sm::bC∧cd.hasDict=true

theorem zB{A:Around}{s:Shared}{e sm:Addr}{vs:Array Value}{y:Value}{Q:Unit→Shared→Prop}{E:Value→Shared→Prop}{slx:Array (Option Value)}(X:C.K.In s.heap) (S:SetOk C sm)
  (he:s.heap.get? e=some ⟨.ref C.sf,none,.fields vs,slx⟩)
  (q:∀ h' tk,h'.get? e=some ⟨.ref C.sf,some s.heap.objs.size,.fields vs,slx⟩→(∀ b o,b ≠ e→s.heap.get? b=some o→h'.get? b=some o)→Q () { s with heap:=h',toks:=tk }):
  wpAny (model C.prog C.w) A (setAttr (.ref e) (CW "what") y) Q E s:=by
 refine byC fun kq=>?_
 obtain⟨cd,hc,hmro,hdict⟩:=S.cls
 refine kq ?_;try clear kq
 have I:PySem.W.InstAt s.heap e ⟨.ref C.sf,none,.fields vs,slx⟩ C.sf none:=⟨he,rfl,rfl,trivial⟩
 refine set_plain X I S.set ?_
 have SF:=PySem.F.store_object
 have ne:cd.mro.isEmpty=false:=by rw[hmro];rfl
 have sub:Looks (model C.prog C.w) s.heap (isInstance (.ref e) (.type "object")) true:=I.type.andThen (looks_mroIn X (by unfold mroIn;rw[hc,Option.bind_some,if_neg (by rw[ne];decide),hmro];simp[bC]))
 refine codeAny_call_builtin SF.slot.plain SF.entry (@check_slot (model C.prog C.w) _ _ { s with toks:=s.toks + 1 } "object.__setattr__" "object" "__setattr__" (.ref e) [.str (CW "what") s.toks,y] [] _ SF.kind SF.split sub (SF.args (.ref e) (.str (CW "what") s.toks) y) ?_)
 have hm:Looks (model C.prog C.w) s.heap (mroOf (.ref C.sf)) cd.mro:=(looks_clsIn X hc).andThen .now
 rw[osa_eq,refuse_eq]
 refine wpAny_bind (wpAny_bind (I.type _ _ _ _ (fun _ _ g=>g) (wpAny_bind (hm _ _ _ _ (fun _ _ g=>g) ?_))))
 rw[hmro,sG]
 refine wpAny_pure (wpAny_bind (I.type _ _ _ _ (fun _ _ g=>g) (wpAny_bind (looks_findIn X S.what _ _ _ _ (fun _ _ g=>g) (wpAny_bind (wpAny_pure ?_))))))
 refine wpAny_bind (wpAny_pure ?_)
 refine wpAny_bind ?_
 refine wpAny_bind (wpAny_loadPart (s:={ s with toks:=s.toks + 1 }) he ?_)
 refine wpAny_bind (looks_clsIn X hc _ _ _ { s with toks:=s.toks + 1 } (fun _ _ g=>g) ?_)
 rw[hdict]
 dsimp only
 show wpAny _ _ (alloc emptyDict >>= fun d=>update e (fun o=>{ o with dict:=some d }) >>= fun _=>dictMade (.ref C.sf) e d) _ _ _
 refine wpAny_bind (wpAny_alloc ?_)
 have he1:(s.heap.push emptyDict).get? e=some ⟨.ref C.sf,none,.fields vs,slx⟩:=Heap.get?_push_of_some _ he
 have gd1:(s.heap.push emptyDict).get? s.heap.objs.size=some emptyDict:=Heap.get?_push_size _ rfl
 have hne:e ≠ s.heap.objs.size:=Nat.ne_of_lt (Heap.lt_size he)
 refine wpAny_bind (wpAny_update (s:={ s with heap:=s.heap.push emptyDict,toks:=s.toks + 1 }) he1 ?_)
 have he2:((s.heap.push emptyDict).update e fun o=>{ o with dict:=some s.heap.objs.size }).get? e=some ⟨.ref C.sf,some s.heap.objs.size,.fields vs,slx⟩:=Heap.get?_update_self _ he1 rfl
 have gd2:((s.heap.push emptyDict).update e fun o=>{ o with dict:=some s.heap.objs.size }).get? s.heap.objs.size=some emptyDict:=(Heap.get?_update_other _ _ hne).trans gd1
 refine wpAny_bind (wpAny_pure (wpAny_pure ?_))
 dsimp only
 refine wpAny_bind (wpAny_pure (wpAny_bind ?_))
 refine nQ gd2 rfl (fun e he=>by simp at he) fun h' o' es' ep' g' hd' sk' sz' hfi hs=>?_
 refine wpAny_bind (wpAny_lookBehind g' (by rw[hd'];exact pastItsLine_dict (by rw[sizeLine_eq];simp at sz';omega)) ?_)
 refine wpAny_pure ?_
 refine q h' _ ((hs.2 e hne).trans he2) fun b o hb g=>?_
 rw[hs.2 b (Nat.ne_of_lt (Heap.lt_size g)),Heap.get?_update_other _ _ (Ne.symm hb)]
 exact Heap.get?_push_of_some _ g
end

theorem pH{α:Type}{M:Model}{A:Around}{c:Code}{m:Sem α}{k:Value→Sem Unit}{Q:α→Shared→Prop}{E:Value→Shared→Prop}{s:Shared}
  (h:PySem.wpAt M A c m Q (fun e s'=>wpAny M A (k e) (fun _ s''=>E e s'') E s') s):PySem.wpAt M A c (m.onRaise k) Q E s:=fun Γ p hc hΓ=>by
 rw[Sem.wp_onRaise]
 exact Sem.wp_mono M Γ m (fun _ _ _ h'=>h') (fun e p' s' h'=>h' Γ p' hΓ) p s (h Γ p hc hΓ)
theorem lD{M:Model}{A:Around}{R:Result→Shared→Prop}{s:Shared}{body:List Stmt}{env:Env}(hden:M.den (.func body env)=(do point;match ← (execs body env).onRaise (leaving env)with | .ret v=>ret v|_=>ret .none))
  (h:PySem.wpAt M (A.deeper env) (.func body env) (execs body env) (fun f s'=>R (.ok (.ret (match f with | .ret v=>v|_=>.none))) s')
   (fun e s'=>wpAny M (A.deeper env) (leaving env e) (fun _ s''=>R (.error e) s'') (fun e' s''=>R (.error e') s'') s') s):
  codeAny M A (.func body env) R s:=by
 refine PySem.codeAny_of_treeAt ?_
 rw[hden]
 show PySem.wpAt _ (A.deeper env) _ (do point;match ← (execs body env).onRaise (leaving env)with | .ret v=>ret v|_=>ret .none) _ _ s
 refine PySem.wpAt_bind (PySem.wpAt_of_wpAny (wpAny_point (PySem.wpAt_bind (pH (PySem.wpAt_mono h (fun f s' h'=>?_) fun _ _ h'=>h')))))
 refine PySem.wpAt_of_wpAny ?_
 cases f<;>exact wpAny_pure h'
theorem lJ{M:Model}{A:Around}{c:Code}{st:Stmt}{rest:List Stmt}{env:Env}{Q:Flow→Shared→Prop}{E:Value→Shared→Prop}{s:Shared}
  (h:PySem.wpAt M A c (exec st env) (fun f s'=>match f with | .next=>wpAny M A (execs rest env) Q E s'|f=>Q f s') E s):
  PySem.wpAt M A c (execs (st::rest) env) Q E s:=fun Γ p hc hΓ=>by
 rw[execs_cons,Sem.wp_bind']
 refine Sem.wp_mono M Γ _ (fun f p' s' h'=>?_) (fun _ _ _ h'=>h') _ _ (h Γ p hc hΓ)
 cases f<;>first|exact h' Γ p' hΓ|exact h'

section
variable {C:Cx}{sm fI ce cd:Addr}{fd:FuncData}{file:Str}{p1 p2 p3 p4 p5 p6 p7 p8 p9 pa:Pos}
variable {nm qn:Str}{N:Addr}{bs:List Value}{hdct:Bool}{sn:List Str}{sub:List Value}{ab:Bool}{col:Option Bool}{dd:Option Addr}{k0 k1 k2 k3 k5:Option Value}

theorem uI{A:Around}{bd:List Stmt}{L:Addr}{mm:Str→Option Value}{s:Shared}{e t0:Addr}{y:Value}{Q:Flow→Shared→Prop}{E:Value→Shared→Prop}(OC:C.Ok) (O:InitOk C sm fI ce cd fd file p1 p2 p3 p4 p5 p6 p7 p8 p9 pa) (S:SetOk C sm)
  (EO:ExcOk C sm fI nm qn N bs hdct sn sub ab col dd k0 k1 k2 k3 k5) (hline:(p3.endLine == p5.line)=true) (kk:∀ b o,C.h0.get? b=some o→s.heap.get? b=some o) (he0:C.h0.get? e=none) (nL:L ≠ e)
  (he:s.heap.get? e=some { cls:=.ref C.sf,data:=.fields #[.ref t0,.none,.none,.none,.bool false,.none] }) (hn:s.heap.Ns L mm) (L1:mm (CW "self")=some (.ref e)) (L2:mm (CW "what")=some y)
  (q:∀ h' tk t1 dx,h'.get? e=some ⟨.ref C.sf,some dx,.fields #[.ref t1,.none,.none,.none,.bool false,.none],#[]⟩→(∀ b o,b ≠ e→s.heap.get? b=some o→h'.get? b=some o)→Q .next { s with heap:=h',toks:=tk }):
  PySem.wpAt (model C.prog C.w) A (.func bd (ck fd L fI ce)) (execs (mK p1 p2 p3 p4 p5 p6 p7 p8 p9 pa) (ck fd L fI ce)) Q E s:=by
 have k2:(ck fd L fI ce).kindOf (CW "what")=some .local:=show dl.names.lookup _=_ by decide +kernel
 have k1:(ck fd L fI ce).kindOf (CW "self")=some .local:=show dl.names.lookup _=_ by decide +kernel
 refine lJ ?_
 rw[exec_Expr _ _ _ rfl rfl]
 refine atS (PySem.wpAt_bind (vM fun Q1 q1=>?_))
 rw[arm_eval_Call]
 refine PySem.wpAt_bind (te OC O kk hn L1 ?_)
 refine rV O kk he rfl (fun _ z=>by cases z) fun h2 hk2 gz=>?_
 refine atS (PySem.wpAt_of_wpAny ?_)
 have few:methodCallForm ([Expr.Name (CW "what") p4].length + ([]:List Keyword).length) (backTo p5 (starEach [Expr.Name (CW "what") p4] (ck fd L fI ce))) (backToKw p5 (keywordEach [] (ck fd L fI ce)))=true:=rfl
 unfold methodCall
 rw[few]
 refine wpAny_bind (wpAny_holding ?_)
 unfold calleeOf
 rw[if_pos rfl]
 refine td (s:={ s with heap:=h2 }) O (fun b o g=>hk2 b o (kk b o g)) (hk2 _ _ he) rfl gz fun tk=>?_
 dsimp only
 have hpos:∀ o env,methodCallPos true o env p3 p5=pure p5:=fun o env=>by
  unfold methodCallPos
  rw[hline];rfl
 refine wpAny_bind (wpAny_of_eq (hpos _ _) ?_)
 refine byC fun kq=>?_
 obtain⟨h3,eh3⟩:∃ h3,h3=h2.push { cls:=.type "method-wrapper",data:=.fields #[.builtin "Exception.__init__",.ref e] }:=⟨_,rfl⟩
 refine kq ?_;try clear kq
 have hw:h3.get? h2.objs.size=some { cls:=.type "method-wrapper",data:=.fields #[.builtin "Exception.__init__",.ref e] }:=eh3 ▸ Heap.get?_push_size _ rfl
 have hk3:∀ b o,s.heap.get? b=some o→h3.get? b=some o:=fun b o g=>eh3 ▸ Heap.get?_push_of_some _ (hk2 b o g)
 rw[← eh3]
 clear eh3 gz
 have hL:Looks (model C.prog C.w) h3 (keeperOf (.ref h2.objs.size)) .machine:=fun A' Q' E' s' k' q'=>by
  unfold keeperOf
  refine wpAny_bind (wpAny_load (k' _ _ hw) ?_)
  dsimp only
  rw[if_pos (by decide +kernel),if_pos (by decide +kernel)]
  exact wpAny_pure q'
 have hn3:h3.Ns L mm:=hn.keeps hk3
 refine d6 (h₀:=h3) (k:=.machine) rfl hL (wpAny_items_cons (wpAny_Name (wpAny_loadName_local (env:=ck fd L fI ce) rfl k2 hn3 L2 (wpAny_items_nil ?_)) (by decide +kernel)))
 refine⟨fun _ _ g=>g,?_⟩
 refine oJ (s:={ s with heap:=h3,toks:=tk }) hw (hk3 _ _ he) rfl (by simp) rfl (hk3 _ _ (kk _ _ (OC.kin _ _ EO.sf))) fun h4 ge4 hk4=>?_
 refine q1 _ _ (PySem.wpAt_of_wpAny (wpAny_pure ?_))
 dsimp only
 have hn4:h4.Ns L mm:=let ⟨o,es,ep,g,r⟩:=hn3;⟨o,es,ep,hk4 _ _ nL g,r⟩
 refine wpAny_execs_cons (wpAny_Assign_stores (wpAny_Name (wpAny_loadName_local (env:=ck fd L fI ce) rfl k2 hn4 L2 ?_) (by decide +kernel)) rfl rfl)
 show wpAny _ _ (assign (.Attribute (.Name (CW "self") p7) (CW "what") p8) (ck fd L fI ce) y) _ _ _
 show wpAny _ _ (do
  let ov ← holding [y] (eval (.Name (CW "self") p7) (ck fd L fI ce))
  standAt p8.atName
  holding [y,ov] (setAttr ov (CW "what") y)
  release [y,ov] []) _ _ _
 refine wpAny_bind (wpAny_holding (wpAny_Name (wpAny_loadName_local (env:=ck fd L fI ce) rfl k1 hn4 L1 ?_) (by decide +kernel)))
 refine wpAny_bind (wpAny_standAt (wpAny_bind (wpAny_holding ?_)))
 have kk4:∀ b o,C.h0.get? b=some o→h4.get? b=some o:=fun b o g=>hk4 b o (fun z=>by rw[z,he0]at g;cases g) (hk3 b o (kk b o g))
 refine zB (s:={ s with heap:=h4,toks:=tk }) (OC.kin.keeps kk4) S ge4 fun h5 tk5 ge5 hk5=>?_
 refine wpAny_release' ?_
 dsimp only
 refine wpAny_execs_nil (q h5 tk5 _ _ ge5 fun b o hb g=>hk5 b o hb (hk4 b o hb (hk3 b o g)))
theorem uJ{A:Around}{s:Shared}{e t0:Addr}{y:Value}{Q:Value→Shared→Prop}{E:Value→Shared→Prop}(OC:C.Ok) (O:InitOk C sm fI ce cd fd file p1 p2 p3 p4 p5 p6 p7 p8 p9 pa) (S:SetOk C sm)
  (EO:ExcOk C sm fI nm qn N bs hdct sn sub ab col dd k0 k1 k2 k3 k5) (hline:(p3.endLine == p5.line)=true) (hk:∀ b o,C.h0.get? b=some o→s.heap.get? b=some o) (he0:C.h0.get? e=none) (hroom:A.depth < recursionLimit)
  (he:s.heap.get? e=some { cls:=.ref C.sf,data:=.fields #[.ref t0,.none,.none,.none,.bool false,.none] })
  (q:∀ h' tk t1 dx,h'.get? e=some ⟨.ref C.sf,some dx,.fields #[.ref t1,.none,.none,.none,.bool false,.none],#[]⟩→(∀ b o,b ≠ e→s.heap.get? b=some o→h'.get? b=some o)→Q .none { s with heap:=h',toks:=tk }):
  wpAny (model C.prog C.w) A (call (.ref fI) [.ref e,y]) Q E s:=by
 refine byC fun kq=>?_
 obtain⟨o,ho,hd⟩:=O.fn
 obtain⟨oc,vc,t,t',hoc,hdc,h1,h2⟩:=O.qual
 refine kq ?_;try clear kq
 have hco:fd.scope.isCoroutine=false:=by rw[O.scope];rfl
 have hgen:fd.scope.isGenerator=false:=by rw[O.scope];rfl
 have hcode:C.h0.CodeRec fd.code fd.qualname:=⟨cd,oc,vc,t,O.code,hoc,hdc,h1⟩
 refine wpAny_call (codeAny_call_function hroom (hk _ _ ho) hd hco hgen O.body (hcode.keeps hk) ?_)
 have kl1:dl.names.lookup (CW "self")=some .local:=by decide +kernel
 have kl2:dl.names.lookup (CW "what")=some .local:=by decide +kernel
 rw[O.bind,O.clo,O.glob,O.bui,O.scope]
 refine wpAny_pure (wpAny_newFunctionEnv (by decide +kernel) (by intro x hx;simp only[List.mem_cons,List.not_mem_nil,or_false]at hx;rcases hx with rfl|rfl<;>first|exact kl1|exact kl2) (fun h' hn hs=>?_) rfl)
 have hk1:∀ b o,s.heap.get? b=some o→h'.get? b=some o:=fun b o g=>(hs.2 b (Nat.ne_of_lt (Heap.lt_size g))).trans (Heap.get?_push_of_some _ g)
 refine⟨(OC.nolimit.keeps hk).keeps hk1,lD rfl ?_⟩
 exact uI (y:=y) (s:={ s with heap:=h',toks:=s.toks + 2 }) OC O S EO hline (fun b o g=>hk1 b o (hk b o g)) he0 (Nat.ne_of_gt (Heap.lt_size he)) (hk1 _ _ he) hn (by kernel_rfl) (by kernel_rfl) fun h5 tk5 t1 dx ge5 hk5=>q h5 tk5 t1 dx ge5 fun b o hb g=>hk5 b o hb (hk1 b o g)
end
section
variable {M:Model}{A:Around}{E:Value→Shared→Prop}{env:Env}
variable {nm qn:Str}{sfA N:Addr}{bs bm:List Value}{hdct:Bool}{sn:List Str}{sub:List Value}{ab:Bool}{col:Option Bool}{dd:Option Addr}{k0 k1 k2 k3 k5:Option Value}{newId:String}
theorem uY{s:Shared}{x:Sem Value}{Q:Flow→Shared→Prop}(hbase:bm.contains (.type "BaseException")=true) (hh:A.handled=none)
  (h:wpAny M A x (fun v s₁=>∃ e t dx,v=.ref e∧s₁.heap.get? sfA=some (excClassObj nm qn sfA N bs bm hdct sn sub ab col dd k0 k1 k2 k3 k5 newId)∧
   s₁.heap.get? e=some ⟨.ref sfA,some dx,.fields #[.ref t,.none,.none,.none,.bool false,.none],#[]⟩∧E (.ref e) s₁) E s):
  wpAny M A (raiseStmt env (some x) none) Q E s:=by
 have hcB:(Value.ref sfA::bm).contains (.type "BaseException")=true:=by rw[List.contains_cons,hbase,Bool.or_true]
 unfold raiseStmt
 refine wpAny_bind (wpAny_mono h (fun v s₁ h₁=>?_) fun _ _ x=>x)
 refine byC fun kq=>?_
 obtain⟨e,t,dx,rfl,hC,he,hE⟩:=h₁
 obtain⟨hp,g,d,tk,os⟩:=s₁
 refine kq ?_;try clear kq
 repeat (first|with_reducible refine wpAny_loadPart_at he ?_|with_reducible refine wpAny_loadPart_at hC ?_|(with_reducible refine wpAny_isSubtype_exc hC ?_;rw[hcB])|wp_step)
 exact wpAny_raiseNew_none hh hE
end
section
variable {C:Cx}{d:Nat}{sc:Scope}{sm fI ce cd:Addr}{fd:FuncData}{file:Str}{p1 p2 p3 p4 p5 p6 p7 p8 p9 pa:Pos}
variable {nm qn:Str}{N:Addr}{bs:List Value}{hdct:Bool}{sn:List Str}{sub:List Value}{ab:Bool}{col:Option Bool}{dd:Option Addr}{k0 k1 k2 k3 k5:Option Value}

inductive RaiseOk (C:Cx):Prop where
 | mk (sm fI ce cd:Addr) (fd:FuncData) (file:Str) (p1 p2 p3 p4 p5 p6 p7 p8 p9 pa:Pos) (nm qn:Str) (N:Addr) (bs:List Value) (hdct:Bool) (sn:List Str) (sub:List Value) (ab:Bool) (col:Option Bool) (dd:Option Addr) (k0 k1 k2 k3 k5:Option Value)
  (IO:InitOk C sm fI ce cd fd file p1 p2 p3 p4 p5 p6 p7 p8 p9 pa) (SO:SetOk C sm) (EO:ExcOk C sm fI nm qn N bs hdct sn sub ab col dd k0 k1 k2 k3 k5) (hline:(p3.endLine == p5.line)=true):RaiseOk C

noncomputable def iH(g:FE):FS:=fun m H=>(g m H).bindS m fun _ H1=>.exc m H1
set_option tactic.hygienic true in
theorem s9{x np arg cpos pos g} (O:C.Ok) (R:RaiseOk C) (hn:eI sc x=true) (hx:C.mg x=some (.ref C.sf)) (hs:noStar arg=true) (h:bg C d sc arg g):
  jU C d sc (.Raise (some (.Call (.Name x np) [arg] [] cpos)) none pos) (iH g):=by
 intro A env l m ρ H s Q E hb ha he fr st p
 refine byC fun kq=>?_
 obtain⟨sm,fI,ce,cd,fd,file,p1,p2,p3,p4,p5,p6,p7,p8,p9,pa,nm,qn,N,bs,hdct,sn,sub,ab,col,dd,k0,k1,k2,k3,k5,IO,SO,EO,hline⟩:=R
 refine kq ?_;try clear kq
 have hC:=O.kin _ _ EO.sf
 rw[arm_exec_Raise]
 refine wpAny_bind (wpAny_standAt ?_)
 show wpAny _ _ (raiseStmt env (some (do let v ← eval (.Call (.Name x np) [arg] [] cpos) env;standAt pos;pure v)) none) _ _ _
 refine uY (sfA:=C.sf) (nm:=nm) (qn:=qn) (N:=N) (bs:=bs) (bm:=.ref sm::bC) (hdct:=hdct) (sn:=sn) (sub:=sub) (ab:=ab) (col:=col) (dd:=dd) (k0:=k0) (k1:=k1) (k2:=k2) (k3:=k3) (k5:=k5) (newId:="Exception.__new__") (by simp[bC]) hb.2.2 (dD fun Q' hQ=>wpAny_bind (wpAny_Call_ofName (gO O hn hx he fr st ?_)))
 have hL:Looks (model C.prog C.w) C.h0 (keeperOf (.ref C.sf)) .machine:=fun A' Q' E' s' k' q'=>by
  refine byC fun kq=>?_
  obtain⟨hp,g',d',tk,os⟩:=s'
  refine kq ?_;try clear kq
  exact wpAny_keeperOf_exc (k' _ _ hC) q'
 have hall:[arg].all noStar=true:=by simp[hs]
 refine d6 (h₀:=C.h0) (k:=.machine) hall hL (n8 hs h rn A env l m ρ H s _ E cpos hb ha he fr st ?_)
 unfold iH at p
 unfold ad ao
 cases o:g m H with
 | bad=>rw[o]at p;exact p.elim
 | exc H1=>rw[o]at p;exact fun ρ' e s' e1 fl=>p ρ' e s' e1.no (fr.ev st e1) fl
 | ok v H1=>
  rw[o]at p
  intro ρ1 ys s1 e1 r1
  cases r1 with
  | cons r rs=>
  cases rs
  rename_i y
  refine⟨e1.st.old,?_⟩
  refine byC fun kq=>?_
  obtain⟨h1,gg,dr,tk,os⟩:=s1
  refine kq ?_;try clear kq
  have hw:(Code.builtin "type.__call__" ⟨.ref C.sf::([]++[y]),[]⟩).weight≤50:=by
   rw[show(Code.builtin "type.__call__" ⟨.ref C.sf::([]++[y]),[]⟩).weight=1 from by kernel_rfl];decide
  refine yD (O.kin.keeps e1.st.old) EO (fun h' e hle hm=>?_) (by rw[sizeLine_eq];simp)
  refine byC fun kq=>?_
  obtain⟨t,ge,gt,gt'⟩:=hm.there
  refine kq ?_;try clear kq
  have k':∀ b o,C.h0.get? b=some o→h'.get? b=some o:=fun b o g=>hm.keeps _ _ (e1.st.old b o g)
  have he0:C.h0.get? e=none:=by
   cases q:C.h0.get? e with
   | none=>rfl
   | some o'=>exact absurd (Dd (Heap.lt_size q) e1.st.lo) (Nat.not_lt.mpr hle)
  refine uJ (s:=⟨h',gg,dr,tk,os⟩) O IO SO EO hline k' he0 (by have:=hb.1;show A.depth + _ < 1000;omega) ge fun h2 tk2 t1 dx ge2 hk2=>?_
  refine⟨rfl,wpAny_bind (wpAny_standAt (wpAny_pure (hQ _ _ ⟨e,t1,dx,rfl,?_,ge2,?_⟩)))⟩
  ·exact hk2 _ _ (fun z=>by rw[z,he0]at hC;cases hC) (k' _ _ hC)
  ·have ks:bt No (dA l) h1 h2:=by
    refine⟨Nat.le_of_lt (Dc hle (Heap.lt_size ge2)),fun b o gb _=>⟨o.slots,?_,fun _=>rfl⟩⟩
    exact hk2 b o (fun z=>absurd (z ▸ Heap.lt_size gb) (Nat.not_lt.mpr hle)) (hm.keeps b o gb)
   have e2:Ev C l No ρ1 ⟨h1,gg,dr,tk,os⟩ ρ1 H1 ⟨h2,gg,dr,tk2,os⟩:=Ev.keepNo e1.st ks ⟨rfl,rfl,rfl⟩
   have e3:=e1.trans e2
   exact p ρ1 e _ e3.no (fr.ev st e3) (.inl ⟨CX e1.keep.1 hle,_,_,ge2,rfl,rfl,rfl⟩)
end
section
variable {C:Cx}{d:Nat}{sc:Scope}{sm fI ce cd:Addr}{fd:FuncData}{file:Str}{p1 p2 p3 p4 p5 p6 p7 p8 p9 pa:Pos}
variable {nm qn:Str}{N:Addr}{bs:List Value}{hdct:Bool}{sn:List Str}{sub:List Value}{ab:Bool}{col:Option Bool}{dd:Option Addr}{k0 k1 k2 k3 k5:Option Value}

theorem sB{M:Model}{A:Around}{E:Value→Shared→Prop}{s:Shared}{e:Addr}{oe:Obj}{Q:Bool→Shared→Prop}(hC:s.heap.get? C.sf=some (excClassObj nm qn C.sf N bs (.ref sm::bC) hdct sn sub ab col dd k0 k1 k2 k3 k5 "Exception.__new__"))
  (he:s.heap.get? e=some oe) (hce:oe.cls=.ref C.sf) (q:Q true s):wpAny M A (excMatches (.ref e) (.ref C.sf)) Q E s:=by
 have hcB:(Value.ref C.sf::.ref sm::bC).contains (.type "BaseException")=true:=by simp[bC]
 have hcS:(Value.ref C.sf::.ref sm::bC).contains (.ref C.sf)=true:=by simp
 refine byC fun kq=>?_
 obtain⟨hp,g,dr,tk,os⟩:=s
 refine kq ?_;try clear kq
 have hTT:isSubtype (.type "type") (.type "tuple")=pure false:=by rw[isSubtype_type];kernel_rfl
 unfold excMatches
 repeat (first|(with_reducible show wpAny _ _ (isSubtype (.type "type") (.type "tuple")) _ _ _;with_reducible refine wpAny_of_eq hTT ?_)|(with_reducible refine wpAny_loadPart_at he ?_;rw[hce])|with_reducible refine wpAny_loadPart_at hC ?_|(with_reducible refine wpAny_isSubtype_exc hC ?_;first|rw[hcB]|rw[hcS])|wp_step)
 exact q

noncomputable def AB(C:Cx) (sc:Scope) (e:Expr) (f:FE):Prop:=
 ∀ (A:Around) (env:Env) (l:List Env) (m:Fm) (ρ:Rho) (H:Hp) (s:Shared) (Q E:Value→Shared→Prop),
  A.frames=some l→env.scope=sc→FrOk C env l m ρ s.heap→St C l ρ H s→aJ C l env.frame ρ s Q E (f m H)→wpAny (model C.prog C.w) A (eval e env) Q E s
theorem vE{k pos}:AB C sc (.Constant .none k pos) (fC .none):=by
 intro A env l m ρ H s Q E _ _ _ st p
 exact wpAny_pure (p ρ _ s (.refl st) .none)

noncomputable def sj(fb:FS) (fe:FE):FS:=fun m H=>match fb m H with
 | .exc m1 H1=>(match fe m1 H1 with
  | .ok v H2=>.ok (.ret v) m1 H2
  | _=>.bad)
 | o=>o
theorem xL{body x np e rpos hpos pos fb fe} (O:C.Ok) (R:RaiseOk C) (hn:eI sc x=true) (hx:C.mg x=some (.ref C.sf)) (h:lU C d sc body fb) (he':AB C sc e fe):
  jU C d sc (.Try body [.ExceptHandler (some (.Name x np)) none [.Return (some e) rpos] hpos] [] [] pos) (sj fb fe):=by
 intro A env l m ρ H s Q E hb ha he fr st p
 refine byC fun kq=>?_
 obtain⟨sm,fI,ce,cd,fd,file,p1,p2,p3,p4,p5,p6,p7,p8,p9,pa,nm,qn,N,bs,hdct,sn,sub,ab,col,dd,k0,k1,k2,k3,k5,IO,SO,EO,hline⟩:=R
 refine kq ?_;try clear kq
 have hC:=O.kin _ _ EO.sf
 refine wpAny_Try_except (h A env l m ρ H s _ _ hb ha he fr st ?_)
 unfold sj at p
 cases o:fb m H with
 | bad=>rw[o]at p;exact p.elim
 | ok fl m1 H1=>
  rw[o]at p
  intro ρ1 F s1 e1 fr1 rf
  cases rf with
  | next=>exact wpAny_execs_nil (p ρ1 _ s1 e1 fr1 .next)
  | cont=>exact p ρ1 _ s1 e1 fr1 .cont
  | brk=>exact p ρ1 _ s1 e1 fr1 .brk
  | ret r=>exact p ρ1 _ s1 e1 fr1 (.ret r)
 | exc m1 H1=>
  rw[o]at p
  dsimp only at p
  intro ρ1 x1 s1 e1 fr1 fly
  refine byC fun kq=>?_
  obtain⟨e0,r,L,rfl,h0,hf⟩:=fr1.frame ⟨_,_,_,e1.st⟩
  refine kq ?_;try clear kq
  rw[hf]at fly
  refine ke ha e1.st.frs h0 hf e1.keep.1 fly fun h2 y2 k2=>?_
  have e2:=e1.thru (s':={ s1 with heap:=h2 }) k2 st.lo ⟨rfl,rfl,rfl⟩
  have fr2:=fr1.thru k2
  refine fM (X:=dA (e0::r)) (fr:=none) y2 fun h3 y3 k3=>?_
  have e3:=e2.thru (s':={ s1 with heap:=h3 }) k3 st.lo ⟨rfl,rfl,rfl⟩
  have fr3:=fr2.thru k3
  refine wpAny_handleBy_cons (codeAny_handlers_test (gO O hn hx he fr3 e3.st (dD fun Q' hQ=>jP fun E' _=>?_))) (by intro z;cases z)
  refine byC fun kq=>?_
  obtain⟨hne,oe,vs,T,oT,ts,hT,gx,gc,gd,g1,hTe,gT,dT,g3⟩:=id y3
  refine kq ?_;try clear kq
  refine sB (e3.st.old _ _ hC) gx gc (hQ _ _ ?_)
  refine codeAny_handlers_suite (fM (X:=dA (e0::r)) (fr:=none) y3 fun h4 y4 k4=>?_)
  have e4:=e3.thru (s':={ s1 with heap:=h4 }) k4 st.lo ⟨rfl,rfl,rfl⟩
  have fr4:=fr3.thru k4
  refine wpAny_execs_cons (wpAny_Return_some (he' (A.mark (some (.ref x1))) env (e0::r) m1 ρ1 H1 { s1 with heap:=h4 } _ _ ha he fr4 e4.st ?_))
  cases oo:fe m1 H1 with
  | ok v H2=>
   rw[oo]at p
   intro ρ5 y5 s5 e5 r5
   exact p ρ5 _ s5 (e4.trans e5.no) (fr4.ev e4.st e5) (.ret r5)
  | exc H2=>rw[oo]at p;exact p.elim
  | bad=>rw[oo]at p;exact p.elim
end
section
variable {C:Cx}{d:Nat}{sc:Scope}

noncomputable def fj(Kc:Addr) (F:List V→Hp→Out V) (vs:List V) (H:Hp):Out V:=(F (.ref H.length::vs) (H++[.inst Kc []])).bind fun v H1=>match v with
 | .none=>.ok (.ref H.length) H1
 | _=>.bad
theorem u7{Kc fI F} (O:C.Ok) (hm:makesIn C.K Kc=true) (hi:findIn C.K (.ref Kc) "__init__"=some (some (.ref fI))) (hf:typeIn C.K (.ref fI)=some (.type "function")) (hF:lV C d (.ref fI) F):lV C (d + 1) (.ref Kc) (fj Kc F):=by
 intro A l vs xs ρ H s Q E hb ha st r p
 have X:=O.kin.keeps st.old
 have Y:Makes (model C.prog C.w) s.heap Kc:=makes_of X hm
 have e1:Ev C l No ρ s (ρ++[(s.heap.objs.size + 1,s.heap.objs.size)]) (H++[.inst Kc []]) { s with heap:=(s.heap.push emptyDict).push (instObj Kc s.heap.objs.size) }:=by
  refine Ev.grow st ⟨by rw[Heap.size_push,Heap.size_push];exact Nat.le_succ_of_le (Nat.le_succ _),fun b o g _=>⟨o.slots,Heap.get?_push_of_some _ (Heap.get?_push_of_some _ g),fun _=>rfl⟩⟩ ⟨rfl,rfl,rfl⟩ ⟨Nat.le_succ _,Nat.le_refl _⟩ ?_
  have g1:((s.heap.push emptyDict).push (instObj Kc s.heap.objs.size)).get? (s.heap.objs.size + 1)=some (instObj Kc s.heap.objs.size):=by
   have:=Heap.get?_push_size (s.heap.push emptyDict) (o:=instObj Kc s.heap.objs.size) rfl
   rwa [Heap.size_push]at this
  have g2:((s.heap.push emptyDict).push (instObj Kc s.heap.objs.size)).get? s.heap.objs.size=some emptyDict:=Heap.get?_push_of_some _ (Heap.get?_push_size _ rfl)
  exact⟨⟨_,g1⟩,emptyDict,_,_,g2,rfl,fun e he=>by simp at he,by simp,fun x=>⟨fun v hv=>(by cases hv),fun _=>rfl⟩⟩
 have rv:RepV (ρ++[(s.heap.objs.size + 1,s.heap.objs.size)]) ((s.heap.push emptyDict).push (instObj Kc s.heap.objs.size)) (.ref H.length) (.ref (s.heap.objs.size + 1)):=by
  refine .ref (d:=s.heap.objs.size) ?_
  rw[← st.rep.len];simp
 have hw:(Code.builtin "type.__call__" ⟨.ref Kc::xs,[]⟩).weight=1:=by kernel_rfl
 have hu:(Code.builtin "type.__call__" ⟨.ref Kc::xs,[]⟩).cUnits=1:=by kernel_rfl
 have hb':Bud d (A.under (.builtin "type.__call__" ⟨.ref Kc::xs,[]⟩)):=by
  refine byC fun kq=>?_
  obtain⟨b1,b2,b3⟩:=hb
  refine kq ?_;try clear kq
  refine⟨?_,?_,b3⟩
  ·show A.depth + _ + 2 * d < 900;omega
  ·show A.units + _ + 20 * d < 9800;omega
 have ha':(A.under (.builtin "type.__call__" ⟨.ref Kc::xs,[]⟩)).frames=some l:=ha
 refine byC fun kq=>?_
 obtain⟨h,g,dr,t,os⟩:=s
 refine kq ?_;try clear kq
 refine make_core Y (looks_findIn X hi) (fun self=>bind_fn X self hf) (.inl (by simp)) ?_
 have rs:RepVs (ρ++[(h.objs.size + 1,h.objs.size)]) ((h.push emptyDict).push (instObj Kc h.objs.size)) (.ref H.length::vs) (.ref (h.objs.size + 1)::xs):=.cons rv (r.ev0 st e1)
 refine codeAny_mono (hF _ l _ _ _ _ _ (fun v s'=>v=.none∧Q (.ref (h.objs.size + 1)) s') E hb' ha' e1.st rs ?_) fun r s' z=>?_
 ·unfold fj at p
  cases o:F (.ref H.length::vs) (H++[.inst Kc []])with
  | bad=>rw[o]at p;exact p.elim
  | exc H1=>
   rw[o]at p
   exact fun ρ' e s' e2 fl=>p ρ' e s' (e1.trans e2) (fl.mono e1.keep.1)
  | ok v H1=>
   rw[o]at p
   intro ρ' y s' e2 r2
   cases v with
   | none=>
    cases r2
    exact⟨rfl,p ρ' _ s' (e1.trans e2) (rv.ev0 e1.st e2)⟩
   | _=>exact p.elim
 ·rcases r with e|(v|_|_|_)
  ·exact z
  ·exact z.elim
  ·exact z.elim
  ·exact z.elim
  ·exact z
end

theorem mX{K:Type} [DecidableEq K] {ρ:Rho}{h:Heap}{more:List (K × V)}:∀ {mv:List Value},RepVs ρ h (more.map (·.2)) mv→∀ {kvs:List (K × V)}{ys:List Value},RepVs ρ h (kvs.map (·.2)) ys→
  ∃ ys',merged ((kvs.map (·.1)).zip ys) ((more.map (·.1)).zip mv)=((more.foldl (fun a kv=>dM a kv.1 kv.2) kvs).map (·.1)).zip ys'∧RepVs ρ h ((more.foldl (fun a kv=>dM a kv.1 kv.2) kvs).map (·.2)) ys':=by
 induction more with
 | nil=>intro mv q kvs ys r;cases q.invN;exact⟨ys,rfl,r⟩
 | cons p more ih=>
  intro mv q kvs ys r
  refine byC fun kq=>?_
  obtain⟨k,v⟩:=p
  obtain⟨y,mv,rfl,r1,rs⟩:=q.inv
  have r1:RepV ρ h v y:=r1
  obtain⟨ys1,e1,q1⟩:=jM (k:=k) r1 r
  obtain⟨ys2,e2,q2⟩:=ih rs q1
  refine kq ?_;try clear kq
  refine⟨ys2,?_,q2⟩
  rw[List.map_cons,List.zip_cons_cons]
  show merged (stored ((kvs.map (·.1)).zip ys) k y) ((more.map (·.1)).zip mv)=_
  rw[e1]
  exact e2

section
variable {C:Cx}{d:Nat}{sc:Scope}

noncomputable def qx(ps:List (Value × Value)):List Value:=ps.flatMap fun p=>[p.1,p.2]
noncomputable def gD(pos:Pos) (env:Env):List Expr→List Expr→List (Sem Value × Sem Value)
 | k::ks,v::vs=>(eval k env,do let x ← eval v env;standAt pos;pure x)::gD pos env ks vs
 | _,_=>[]
noncomputable def jT(C:Cx) (d:Nat) (sc:Scope) (pos:Pos) (ks vs:List Expr) (f:Fm→Hp→Out (List V)):Prop:=
 ∀ (A:Around) (env:Env) (l:List Env) (m:Fm) (ρ:Rho) (H:Hp) (s:Shared) (Q:List Value→Shared→Prop) (E:Value→Shared→Prop),
  Bud d A→A.frames=some l→env.scope=sc→FrOk C env l m ρ s.heap→St C l ρ H s→dW C l env.frame ρ s Q E (f m H)→wpAny (model C.prog C.w) A (evalPairs (gD pos env ks vs)) (fun ps s'=>Q (qx ps) s') E s
theorem vw{pos}:jT C d sc pos [] [] ao:=by
 intro A env l m ρ H s Q E _ _ _ _ st p
 exact evalPairs_nil (p ρ _ s (.refl st) .nil)
theorem s8{pos k ks v vs f g h} (h1:bg C d sc k f) (h2:bg C d sc v g) (h3:jT C d sc pos ks vs h):jT C d sc pos (k::ks) (v::vs) (ad f (ad g h)):=by
 intro A env l m ρ H s Q E hb ha he fr st p
 refine evalPairs_cons (h1 A env l m ρ H s _ E hb ha he fr st (dW.bind p fun a H1 ρ1 x s1 _ e1 r1 p1=>?_))
 have fr1:=fr.ev st e1
 unfold ad at p1
 have p1':dW C l env.frame ρ1 s1 Q E ((g m H1).bind fun b H2=>(h m H2).bind fun vs H3=>.ok (a::b::vs) H3):=by
  cases o:g m H1 with
  | ok b H2=>
   rw[o]at p1
   cases o2:h m H2 with
   | ok vs H3=>simp only[Out.bind,o2]at p1 ⊢;exact p1
   | exc H3=>simp only[Out.bind,o2]at p1 ⊢;exact p1
   | bad=>simp only[Out.bind,o2]at p1 ⊢;exact p1
  | exc H2=>rw[o]at p1;exact p1
  | bad=>rw[o]at p1;exact p1
 refine wpAny_bind (h2 A env l m ρ1 H1 s1 _ E hb ha he fr1 e1.st (dW.bind p1' fun b H2 ρ2 y s2 _ e2 r2 p2=>wpAny_bind (wpAny_standAt (wpAny_pure ?_))))
 refine h3 A env l m ρ2 H2 s2 (fun zs s3=>Q (x::y::zs) s3) E hb ha he (fr1.ev e1.st e2) e2.st (dW.bindL p2 fun vs H3 ρ3 ys s3 _ e3 r3 p3=>?_)
 exact p3 ρ3 _ s3 (.refl e3.st) (.cons ((r1.ev0 e1.st e2).ev0 e2.st e3) (.cons (r2.ev0 e2.st e3) r3))

theorem qA{l ρ H} {s:Shared}{a d:Addr}(st:St C l ρ H s) (h:Heap):RepV (ρ++[(a,d)]) h (.ref H.length) (.ref a):=by
 refine .ref (d:=d) ?_
 rw[← st.rep.len];simp

noncomputable def gY:FE:=fun _ H=>.ok (.ref H.length) (H++[.dictS []])
theorem q0{pos}:bg C d sc (.Dict [] [] pos) gY:=by
 intro A env l m ρ H s Q E hb ha he fr st p
 refine wpAny_Dict_empty ?_
 have e0:Ev C l No ρ s (ρ++[(s.heap.objs.size,s.heap.objs.size)]) (H++[.dictS []]) { s with heap:=s.heap.push { cls:=.type "dict",data:=.dict #[] } }:=
  Ev.grow st (bt.push ..) ⟨rfl,rfl,rfl⟩ ⟨Nat.le_refl _,Nat.le_refl _⟩ ⟨rfl,[],Heap.DictOf.new _,.nil⟩
 exact p _ _ _ e0 (qA st _)
noncomputable def hY:List V→Option (List (Str × V))
 | []=>some []
 | .str k::v::r=>(hY r).map ((k,v)::·)
 | _=>none
theorem wa{ρ:Rho}{h:Heap}{ps:List (Value × Value)}:∀ {vs:List V}{kvs:List (Str × V)},RepVs ρ h vs (qx ps)→hY vs=some kvs→∃ mv,Carries (PySem.strKind C.prog C.w) ps ((kvs.map (·.1)).zip mv)∧RepVs ρ h (kvs.map (·.2)) mv:=by
 induction ps with
 | nil=>
  intro vs kvs r e
  cases vs with
  | nil=>cases e;exact⟨[],trivial,.nil⟩
  | cons _ _=>cases r
 | cons p ps ih=>
  intro vs kvs r e
  refine byC fun kq=>?_
  obtain⟨x,y⟩:=p
  refine kq ?_;try clear kq
  cases vs with
  | nil=>cases r
  | cons a vs=>?_
  refine byC fun kq=>?_
  obtain⟨_,_,e1,r1,r⟩:=r.inv
  refine kq ?_;try clear kq
  cases e1
  cases vs with
  | nil=>cases r
  | cons b vs=>?_
  refine byC fun kq=>?_
  obtain⟨_,_,e1,r2,rs⟩:=r.inv
  refine kq ?_;try clear kq
  cases e1
  cases a with
  | str k=>
   unfold hY at e
   cases q:hY vs with
   | none=>rw[q]at e;cases e
   | some r=>
    rw[q]at e;cases e
    refine byC fun kq=>?_
    obtain⟨mv,c,rr⟩:=ih rs q
    refine kq ?_;try clear kq
    cases r1
    exact⟨y::mv,⟨by simp[PySem.strKind,Value.isStrOf],rfl,c⟩,.cons r2 rr⟩
  | _=>cases e
noncomputable def eG(g:Fm→Hp→Out (List V)):FE:=fun m H=>(g m (H++[.dictS []])).bind fun vs H1=>match hY vs,H1[H.length]? with
 | some kvs,some (.dictS [])=>.ok (.ref H.length) (H1.set H.length (.dictS (kvs.foldl (fun a kv=>dM a kv.1 kv.2) [])))
 | _,_=>.bad
theorem mY{ks vs pos g} (h:jT C d sc pos ks vs g) (h0:ks ≠ []∧ks.length=vs.length∧ks.length≤15) (hshape:∀ env,(evalEachOpt (ks.map some) env).zip ((evalEach vs env).map fun v=>do let x ← v;standAt pos;pure x)=(gD pos env ks vs).map fun p=>(some p.1,p.2)):
  bg C d sc (.Dict (ks.map some) vs pos) (eG g):=by
 intro A env l m ρ H s Q E hb ha he fr st p
 have hlen:∀ ks vs:List Expr,ks.length=vs.length→(gD pos env ks vs).length=ks.length:=by
  intro ks
  induction ks with
  | nil=>intro vs _;cases vs<;>rfl
  | cons k ks ih=>intro vs e;cases vs with
   | nil=>cases e
   | cons v vs=>simp only[gD,Df];rw[ih vs (by simpa using e)]
 have hl:=hlen ks vs h0.2.1
 refine wpAny_Dict_pairs (knd:=PySem.strKind C.prog C.w) (hshape env) (fun z=>h0.1 (by rw[z]at hl;exact List.eq_nil_of_length_eq_zero hl.symm)) (by rw[hl];exact h0.2.2) ?_
 let T:List (Value × Value)→Shared→Prop:=fun ps s1=>∃ kvs,Carries (PySem.strKind C.prog C.w) ps kvs∧s1.heap.DictOf (PySem.strKind C.prog C.w) s.heap.objs.size []∧
  ∀ h',h'.DictOf (PySem.strKind C.prog C.w) s.heap.objs.size (merged [] kvs)→Heap.SameBut s.heap.objs.size s1.heap h'→Q (.ref s.heap.objs.size) { s1 with heap:=h',toks:=s1.toks + ps.length }
 have e0:Ev C l No ρ s (ρ++[(s.heap.objs.size,s.heap.objs.size)]) (H++[.dictS []]) { s with heap:=s.heap.push { cls:=.type "dict",data:=.dict #[] } }:=
  Ev.grow st (bt.push ..) ⟨rfl,rfl,rfl⟩ ⟨Nat.le_refl _,Nat.le_refl _⟩ ⟨rfl,[],Heap.DictOf.new _,.nil⟩
 have lk:(ρ++[(s.heap.objs.size,s.heap.objs.size)])[H.length]? = some (s.heap.objs.size,s.heap.objs.size):=by rw[← st.rep.len];simp
 refine h A env l m _ _ _ (fun ys s1=>∀ ps,qx ps=ys→T ps s1) E hb ha he (fr.ev st e0) e0.st (aJ.bindL (p.shift e0) fun xs H1 ρ1 ys s1 _ e1 r1 p1=>?_) |> fun z=>wpAny_mono z (fun ps s1 q=>q ps rfl) fun _ _ z=>z
 intro ps hps
 subst hps
 cases hu:hY xs with
 | none=>rw[hu]at p1;exact p1.elim
 | some kvs=>
  rw[hu]at p1
  cases ho:H1[H.length]? with
  | none=>rw[ho]at p1;exact p1.elim
  | some ob=>
   rw[ho]at p1
   cases ob with
   | dictS k0=>
    cases k0 with
    | cons _ _=>exact p1.elim
    | nil=>
     dsimp only at p1
     have lk1:=e1.look _ _ lk
     refine byC fun kq=>?_
     obtain⟨_,ys0,hd,_⟩:=e1.st.rep.obj _ _ _ ho lk1
     obtain⟨mv,hc,rm⟩:=wa (C:=C) r1 hu
     refine kq ?_;try clear kq
     refine⟨_,hc,by simpa using hd,fun h' hd' sb=>?_⟩
     refine byC fun kq=>?_
     obtain⟨ys',em,rr⟩:=mX rm (kvs:=[]) (ys:=[]) .nil
     refine kq ?_;try clear kq
     have hm:bG ρ1 s.heap.objs.size:=⟨_,List.mem_of_getElem? lk1,.inl rfl⟩
     have em':merged [] ((kvs.map (·.1)).zip mv)=((kvs.foldl (fun a kv=>dM a kv.1 kv.2) []).map (·.1)).zip ys':=em
     rw[em']at hd'
     have e2:Ev C l No ρ1 s1 ρ1 (H1.set H.length (.dictS (kvs.foldl (fun a kv=>dM a kv.1 kv.2) []))) { s1 with heap:=h',toks:=s1.toks + ps.length }:=
      Ev.put e1.st lk1 (.inl rfl) (.sameBut sb) ⟨rfl,rfl,rfl⟩ ⟨rfl,ys',hd',rr.put sb hm⟩
     exact p1 ρ1 _ _ e2 (.ref (d:=s.heap.objs.size) (e2.look _ _ lk1))
   | _=>exact p1.elim

noncomputable def hW:List V→Option (List (Int × V))
 | []=>some []
 | .int k::v::r=>(hW r).map ((k,v)::·)
 | _=>none
theorem v9{ρ:Rho}{h:Heap}{ps:List (Value × Value)}:∀ {vs:List V}{kvs:List (Int × V)},RepVs ρ h vs (qx ps)→hW vs=some kvs→∃ mv,Carries (intKind C.prog C.w) ps ((kvs.map (·.1)).zip mv)∧RepVs ρ h (kvs.map (·.2)) mv:=by
 induction ps with
 | nil=>
  intro vs kvs r e
  cases vs with
  | nil=>cases e;exact⟨[],trivial,.nil⟩
  | cons _ _=>cases r
 | cons p ps ih=>
  intro vs kvs r e
  refine byC fun kq=>?_
  obtain⟨x,y⟩:=p
  refine kq ?_;try clear kq
  cases vs with
  | nil=>cases r
  | cons a vs=>?_
  refine byC fun kq=>?_
  obtain⟨_,_,e1,r1,r⟩:=r.inv
  refine kq ?_;try clear kq
  cases e1
  cases vs with
  | nil=>cases r
  | cons b vs=>?_
  refine byC fun kq=>?_
  obtain⟨_,_,e1,r2,rs⟩:=r.inv
  refine kq ?_;try clear kq
  cases e1
  cases a with
  | int k=>
   unfold hW at e
   cases q:hW vs with
   | none=>rw[q]at e;cases e
   | some r=>
    rw[q]at e;cases e
    refine byC fun kq=>?_
    obtain⟨mv,c,rr⟩:=ih rs q
    refine kq ?_;try clear kq
    cases r1
    exact⟨y::mv,⟨by simp[intKind,Value.isInt],rfl,c⟩,.cons r2 rr⟩
  | _=>cases e
noncomputable def kG(g:Fm→Hp→Out (List V)):FE:=fun m H=>(g m (H++[.dictI []])).bind fun vs H1=>match hW vs,H1[H.length]? with
 | some kvs,some (.dictI [])=>.ok (.ref H.length) (H1.set H.length (.dictI (kvs.foldl (fun a kv=>dM a kv.1 kv.2) [])))
 | _,_=>.bad
theorem sR{ks vs pos g} (h:jT C d sc pos ks vs g) (h0:ks ≠ []∧ks.length=vs.length∧ks.length≤15) (hshape:∀ env,(evalEachOpt (ks.map some) env).zip ((evalEach vs env).map fun v=>do let x ← v;standAt pos;pure x)=(gD pos env ks vs).map fun p=>(some p.1,p.2)):
  bg C d sc (.Dict (ks.map some) vs pos) (kG g):=by
 intro A env l m ρ H s Q E hb ha he fr st p
 have hlen:∀ ks vs:List Expr,ks.length=vs.length→(gD pos env ks vs).length=ks.length:=by
  intro ks
  induction ks with
  | nil=>intro vs _;cases vs<;>rfl
  | cons k ks ih=>intro vs e;cases vs with
   | nil=>cases e
   | cons v vs=>simp only[gD,Df];rw[ih vs (by simpa using e)]
 have hl:=hlen ks vs h0.2.1
 refine wpAny_Dict_pairs (knd:=intKind C.prog C.w) (hshape env) (fun z=>h0.1 (by rw[z]at hl;exact List.eq_nil_of_length_eq_zero hl.symm)) (by rw[hl];exact h0.2.2) ?_
 let T:List (Value × Value)→Shared→Prop:=fun ps s1=>∃ kvs,Carries (intKind C.prog C.w) ps kvs∧s1.heap.DictOf (intKind C.prog C.w) s.heap.objs.size []∧
  ∀ h',h'.DictOf (intKind C.prog C.w) s.heap.objs.size (merged [] kvs)→Heap.SameBut s.heap.objs.size s1.heap h'→Q (.ref s.heap.objs.size) { s1 with heap:=h',toks:=s1.toks + ps.length }
 have e0:Ev C l No ρ s (ρ++[(s.heap.objs.size,s.heap.objs.size)]) (H++[.dictI []]) { s with heap:=s.heap.push { cls:=.type "dict",data:=.dict #[] } }:=
  Ev.grow st (bt.push ..) ⟨rfl,rfl,rfl⟩ ⟨Nat.le_refl _,Nat.le_refl _⟩ ⟨rfl,[],Heap.DictOf.new _,.nil⟩
 have lk:(ρ++[(s.heap.objs.size,s.heap.objs.size)])[H.length]? = some (s.heap.objs.size,s.heap.objs.size):=by rw[← st.rep.len];simp
 refine h A env l m _ _ _ (fun ys s1=>∀ ps,qx ps=ys→T ps s1) E hb ha he (fr.ev st e0) e0.st (aJ.bindL (p.shift e0) fun xs H1 ρ1 ys s1 _ e1 r1 p1=>?_) |> fun z=>wpAny_mono z (fun ps s1 q=>q ps rfl) fun _ _ z=>z
 intro ps hps
 subst hps
 cases hu:hW xs with
 | none=>rw[hu]at p1;exact p1.elim
 | some kvs=>
  rw[hu]at p1
  cases ho:H1[H.length]? with
  | none=>rw[ho]at p1;exact p1.elim
  | some ob=>
   rw[ho]at p1
   cases ob with
   | dictI k0=>
    cases k0 with
    | cons _ _=>exact p1.elim
    | nil=>
     dsimp only at p1
     have lk1:=e1.look _ _ lk
     refine byC fun kq=>?_
     obtain⟨_,ys0,hd,_⟩:=e1.st.rep.obj _ _ _ ho lk1
     obtain⟨mv,hc,rm⟩:=v9 (C:=C) r1 hu
     refine kq ?_;try clear kq
     refine⟨_,hc,by simpa using hd,fun h' hd' sb=>?_⟩
     refine byC fun kq=>?_
     obtain⟨ys',em,rr⟩:=mX rm (kvs:=[]) (ys:=[]) .nil
     refine kq ?_;try clear kq
     have hm:bG ρ1 s.heap.objs.size:=⟨_,List.mem_of_getElem? lk1,.inl rfl⟩
     have em':merged [] ((kvs.map (·.1)).zip mv)=((kvs.foldl (fun a kv=>dM a kv.1 kv.2) []).map (·.1)).zip ys':=em
     rw[em']at hd'
     have e2:Ev C l No ρ1 s1 ρ1 (H1.set H.length (.dictI (kvs.foldl (fun a kv=>dM a kv.1 kv.2) []))) { s1 with heap:=h',toks:=s1.toks + ps.length }:=
      Ev.put e1.st lk1 (.inl rfl) (.sameBut sb) ⟨rfl,rfl,rfl⟩ ⟨rfl,ys',hd',rr.put sb hm⟩
     exact p1 ρ1 _ _ e2 (.ref (d:=s.heap.objs.size) (e2.look _ _ lk1))
   | _=>exact p1.elim
end
section
variable {C:Cx}{d:Nat}{sc:Scope}

theorem St.notSys{l ρ H} {s:Shared}(O:C.Ok) (st:St C l ρ H s) {i:Nat}{p:Addr × Addr}(hp:ρ[i]? = some p):(p.1 == sysModules)=false:=by
 have:=(st.hi p (List.mem_of_getElem? hp)).1
 exact beq_eq_false_iff_ne.mpr fun e=>absurd O.sys (Nat.not_lt.mpr (this.2 e))


noncomputable def oU:FE:=fun _ H=>.ok (.ref H.length) (H++[.dictT []])
theorem q8{pos}:bg C d sc (.Dict [] [] pos) oU:=by
 intro A env l m ρ H s Q E hb ha he fr st p
 refine wpAny_Dict_empty ?_
 have e0:Ev C l No ρ s (ρ++[(s.heap.objs.size,s.heap.objs.size)]) (H++[.dictT []]) { s with heap:=s.heap.push { cls:=.type "dict",data:=.dict #[] } }:=
  Ev.grow st (bt.push ..) ⟨rfl,rfl,rfl⟩ ⟨Nat.le_refl _,Nat.le_refl _⟩ ⟨rfl,_,#[],0,[],Heap.get?_push_size _ rfl,⟨⟨rfl,rfl,rfl⟩,rfl,rfl,List.nodup_nil,rfl⟩,fun _ hx=>by simp at hx,.nil⟩
 exact p _ _ _ e0 (qA st _)
noncomputable def isT:AObj→Bool
 | .dictT _=>true
 | _=>false
theorem vq:rM C d "get" isT (.builtin "dict.get"):=by
 intro A l ρ H s i o a pl Q E hb ha st ho hK ⟨dd,hp⟩ q
 cases o with
 | dictT kvs=>
  refine byC fun kq=>?_
  obtain⟨e,xs,hd,_⟩:=mo st ho hp
  refine kq ?_;try clear kq
  exact getMethod_builtin hd.typeIs F.plainAttrs_dict F.slot_dict_get F.type_dict_get (fun b e=>by cases e;obtain⟨o,_,_,g,hx,_⟩:=hd;exact⟨o,g,hx.2.1⟩) q
 | _=>cases hK
noncomputable def nF(vs:List V) (H:Hp):Out V:=match vs with
 | [.ref i,k,w]=>Bc H[i]? (fun kvs=>onO (vG k) (fun k=>.ok ((dI kvs k).getD w) H) .bad) .bad
 | _=>.bad
@[elab_as_elim] theorem rR{P:Out V→Prop}{H:Hp}{G:List V→Prop}(vs:List V) (nb:¬P .bad) (p:P (nF vs H)) (k:∀ (i:Nat) k w kvs k',H[i]? = some (.dictT kvs)→vG k=some k'→P (.ok ((dI kvs k').getD w) H)→G [.ref i,k,w]):G vs:=by
 rcases vs with _|⟨a,r⟩<;>try exact absurd p nb
 cases a<;>try exact absurd p nb
 rcases r with _|⟨b,_|⟨c,_|⟨e,r⟩⟩⟩<;>try exact absurd p nb
 refine byC fun kq=>?_
 obtain⟨xs,ho,p⟩:=nX nb p
 obtain⟨x,hx,p⟩:=bE nb p
 refine kq ?_;try clear kq
 exact k _ _ _ _ _ ho hx p
theorem vj(O:C.Ok):jS C d (.builtin "dict.get") nF:=by
 intro A l vs xs ρ H s Q E hb ha st r p
 revert r
 refine rR vs (P:=aJ C l none ρ s Q E) id p fun i k w kvs k' ho hk p r=>rs3 r fun y1 y2 y3 r1 r2 r3=>mU r1 fun a1 d1 hp=>?_
 rw[ud hk]at r2
 refine byC fun kq=>?_
 obtain⟨b,eb,ib⟩:=sK (prog:=C.prog) (w:=C.w) r2
 refine kq ?_;try clear kq
 subst eb
 refine byC fun kq=>?_
 obtain⟨e,xs,hd,e5,kk,rr⟩:=mo st ho hp
 refine kq ?_;try clear kq
 refine call_meetsIn F.slot_dict_get hd.typeIs F.entry_dict_get (F.args_dict_get_3 _ _ _) (meetsH_dict_get_default (pC C.prog C.w) _ _ (st.notSys O hp) _) ⟨show A.units + 1 + 1 < cLine from hb.roomC (n:=2) (by decide),k',xs,ib,hd,?_⟩
 refine byC fun kq=>?_
 obtain⟨h1,h2⟩:=u0 (k:=k') e5 rr
 refine kq ?_;try clear kq
 cases hg:dI kvs k' with
 | none=>rw[h2 hg];rw[hg]at p;exact p ρ _ _ (.tok st) (r3.ev0 st (.tok (W:=No) st))
 | some v=>obtain⟨y,hy,ry⟩:=h1 v hg;rw[hy];rw[hg]at p;exact p ρ _ _ (.tok st) (ry.ev0 st (.tok (W:=No) st))
end
section
variable {C:Cx}{d:Nat}{sc:Scope}

noncomputable def fFv(f:FE):FE:=fun m H=>(f m H).bind fun v H1=>match v with
 | .str x=>if x.length≤100000 then .ok (.str x) H1 else .bad
 | .int a=>if a.natAbs < 1000000000000 then .ok (.str (CW (toString a))) H1 else .bad
 | _=>.bad
theorem vf{e pos f} (h:bg C d sc e f):bg C d sc (.FormattedValue e (-1) none pos) (fFv f):=by
 intro A env l m ρ H s Q E hb ha he fr st p
 refine wpAny_FormattedValue_plain (h A env l m ρ H s _ E hb ha he fr st (aJ.bind p fun v H1 ρ1 y s1 _ e1 r1 p1=>?_))
 cases r1 with
 | str x t=>
  dsimp only at p1
  by_cases hx:x.length≤100000
  ·rw[if_pos hx]at p1
   exact wpAny_formatField_str (p1 ρ1 _ s1 (.refl e1.st) (.str _ _)) (p1 ρ1 _ _ (.tok e1.st) (.str _ _)) (by rw[sizeLine_eq];omega)
  ·rw[if_neg hx]at p1;exact p1.elim
 | int a t=>
  dsimp only at p1
  by_cases hx:a.natAbs < 1000000000000
  ·rw[if_pos hx]at p1
   refine wpAny_formatField_int ?_ (p1 ρ1 _ { s1 with toks:=s1.toks + 1 + 1 } (.tok e1.st) (.str _ _))
   by_cases h0:a.natAbs=0
   ·rw[h0];decide
   ·exact Nat.lt_trans ((Nat.log2_lt h0).mpr (show a.natAbs < 2 ^ 40 by omega)) (by omega)
  ·rw[if_neg hx]at p1;exact p1.elim
 | _=>exact p1.elim
noncomputable def vX(C:Cx) (d:Nat) (sc:Scope) (es:List Expr) (f:Str→FE):Prop:=
 ∀ (A:Around) (env:Env) (l:List Env) (m:Fm) (ρ:Rho) (H:Hp) (s:Shared) (acc:Str) (Q E:Value→Shared→Prop),
  Bud d A→A.frames=some l→env.scope=sc→FrOk C env l m ρ s.heap→St C l ρ H s→aJ C l env.frame ρ s Q E (f acc m H)→
  Joins (model C.prog C.w) A E (evalEach es env) acc (fun out s₁=>out.length≤sizeLine∧Q (.str out s₁.toks) { s₁ with toks:=s₁.toks + 1 }) s
noncomputable def fJ0:Str→FE:=fun acc _ H=>if acc.length≤1000000 then .ok (.str acc) H else .bad
noncomputable def fJ(g:FE) (r:Str→FE):Str→FE:=fun acc m H=>(g m H).bind fun v H1=>match v with
 | .str y=>if (acc++y).length≤1000000 then r (acc++y) m H1 else .bad
 | _=>.bad
theorem xC:vX C d sc [] fJ0:=by
 intro A env l m ρ H s acc Q E hb ha he fr st p
 unfold fJ0 at p
 by_cases hx:acc.length≤1000000
 ·rw[if_pos hx]at p
  exact⟨by rw[sizeLine_eq];omega,p ρ _ _ (.tok st) (.str _ _)⟩
 ·rw[if_neg hx]at p;exact p.elim
theorem vp{e es g r} (h1:bg C d sc e g) (h2:vX C d sc es r):vX C d sc (e::es) (fJ g r):=by
 intro A env l m ρ H s acc Q E hb ha he fr st p
 refine h1 A env l m ρ H s _ E hb ha he fr st (aJ.bind p fun v H1 ρ1 y s1 _ e1 r1 p1=>?_)
 cases r1 with
 | str x t=>
  dsimp only at p1
  by_cases hx:(acc++x).length≤1000000
  ·rw[if_pos hx]at p1
   exact⟨x,t,rfl,by rw[sizeLine_eq];omega,h2 A env l m ρ1 H1 s1 _ Q E hb ha he (fr.ev st e1) e1.st p1⟩
  ·rw[if_neg hx]at p1;exact p1.elim
 | _=>exact p1.elim
theorem ri{a b es pos f} (h:vX C d sc (a::b::es) f):bg C d sc (.JoinedStr (a::b::es) pos) (f Str.empty):=by
 intro A env l m ρ H s Q E hb ha he fr st p
 exact wpAny_JoinedStr (h A env l m ρ H s Str.empty Q E hb ha he fr st p)

noncomputable def pQ(C:Cx) (d:Nat) (sc:Scope) (ts:List Expr) (f:List V→FS):Prop:=
 ∀ (A:Around) (env:Env) (l:List Env) (m:Fm) (ρ:Rho) (H:Hp) (s:Shared) (vs:List V) (ys:List Value) (Q:Unit→Shared→Prop) (E:Value→Shared→Prop),
  Bud d A→A.frames=some l→env.scope=sc→FrOk C env l m ρ s.heap→St C l ρ H s→RepVs ρ s.heap vs ys→vs.length=ts.length→bJ C env l ρ s (fun F s'=>F=.next→Q () s') E (f vs m H)→
  wpAny (model C.prog C.w) A (assignInOrder ((assignEach ts env).map (·.2)) ys) Q E s

noncomputable def fT0:List V→FS:=fun vs m H=>match vs with
 | []=>.ok .next m H
 | _=>.bad
noncomputable def fT(fa:V→FS) (r:List V→FS):List V→FS:=fun vs m H=>match vs with
 | v::vs=>(fa v m H).bind fun fl m1 H1=>(match fl with
  | .next=>r vs m1 H1
  | _=>.bad)
 | []=>.bad
theorem vA:pQ C d sc [] fT0:=by
 intro A env l m ρ H s vs ys Q E hb ha he fr st r hl p
 cases r with
 | nil=>exact wpAny_pure (p ρ .next s (.refl st) fr .next rfl)
 | cons _ _=>cases hl
theorem lB{t:Expr}{r:List Expr}{env:Env}(h:noStar t=true):(assignEach (t::r) env).map (·.2)=assign t env::(assignEach r env).map (·.2):=by
 cases t<;>first|rfl|cases h
set_option tactic.hygienic true in
theorem tb{t ts fa r} (ht:noStar t=true) (h1:lT C d sc t fa) (h2:pQ C d sc ts r):pQ C d sc (t::ts) (fT fa r):=by
 intro A env l m ρ H s vs ys Q E hb ha he fr st rs hl p
 cases rs with
 | nil=>cases hl
 | cons r1 rs=>
  rename_i v y vs ys
  rw[lB ht]
  refine wpAny_bind (wpAny_holding (h1 A env l m ρ H s v y _ E hb ha he fr st r1 (bJ.bind p fun fl m1 H1 ρ1 F s1 _ e1 fr1 rf p1=>?_)))
  rintro rfl
  cases rf
  exact h2 A env l m1 ρ1 H1 s1 vs ys Q E hb ha he fr1 e1.st (rs.evS st fr e1) (by simpa using hl) p1
noncomputable def j1(n:Nat) (f:List V→FS):V→FS:=fun v m H=>match v with
 | .tup vs=>if vs.length=n then f vs m H else .bad
 | _=>.bad
set_option tactic.hygienic true in
theorem hZ{A:Around}{l:List Env}{ρ:Rho}{H:Hp}{s:Shared}{vs:List V}{y:Value}{Q:List Value→Shared→Prop}{E:Value→Shared→Prop}(hb:Bud d A) (st:St C l ρ H s) (r:RepV ρ s.heap (.tup vs) y)
  (q:∀ ys s',Ev C l No ρ s ρ H s'→RepVs ρ s'.heap vs ys→Q ys s'):wpAny (model C.prog C.w) A (unpackItems y vs.length none) Q E s:=by
 cases r with
 | tup hm g c dd rs=>
  rename_i a o items n
  have hlen:vs.length=items.size:=by rw[rs.length,Array.length_toList]
  rw[hlen]
  refine dE (wpAny_unpackItems_tuple hb.2.2 ⟨o,g,c,n,dd⟩ fun h' hx sz=>?_)
  have k:bt No (dA l) s.heap h':=⟨sz,fun b o g _=>⟨o.slots,hx b o (Nat.ne_of_lt (Heap.lt_size g)) g,fun _=>rfl⟩⟩
  have e:Ev C l No ρ s ρ H { s with heap:=h' }:=Ev.keepNo st k ⟨rfl,rfl,rfl⟩
  exact q _ _ e (rs.ev0 st e)
theorem sP{ts k pos f} (h:pQ C d sc ts f) (hs:ts.all noStar=true):lT C d sc (.Tuple ts k pos) (j1 ts.length f):=by
 intro A env l m ρ H s v y Q E hb ha he fr st r p
 unfold j1 at p
 cases v with
 | tup vs=>
  dsimp only at p
  by_cases hl:vs.length=ts.length
  ·rw[if_pos hl]at p
   have hn:∀ ts:List Expr,ts.all noStar=true→(assignEach ts env).length=ts.length∧(assignEach ts env).findIdx? (·.1)=none:=by
    intro ts
    induction ts with
    | nil=>intro _;exact⟨rfl,rfl⟩
    | cons t r ih=>
     intro h
     rw[List.all_cons,Bool.and_eq_true]at h
     refine byC fun kq=>?_
     obtain⟨i1,i2⟩:=ih h.2
     refine kq ?_;try clear kq
     have:assignEach (t::r) env=(false,assign t env)::assignEach r env:=by cases t<;>first|rfl|(have:=h.1;cases this)
     rw[this]
     exact⟨by simp[i1],by simp[List.findIdx?_cons,i2]⟩
   refine byC fun kq=>?_
   obtain⟨n1,n2⟩:=hn ts hs
   refine kq ?_;try clear kq
   rw[arm_assign_Tuple]
   refine wpAny_bind (wpAny_standAt ?_)
   unfold unpack
   rw[n1,n2,← hl]
   refine wpAny_bind (wpAny_holding (hZ hb st r fun ys s1 e1 r1=>?_))
   exact h A env l m ρ H s1 vs ys Q E hb ha he (fr.ev st e1) e1.st r1 hl (p.shift e1.no)
  ·rw[if_neg hl]at p;exact p.elim
 | _=>exact p.elim

noncomputable def oE:List Str→List V→Fm→Fm
 | n::ns,v::vs,m=>oE ns vs ((n,v)::m)
 | _,_,m=>m
noncomputable def ig(ns:List Str):V→FS:=fun v m H=>match v with
 | .tup vs=>if vs.length=ns.length then .ok .next (oE ns.reverse vs.reverse m) H else .bad
 | _=>.bad
theorem v7{A:Around}{env:Env}{l:List Env}{E:Value→Shared→Prop}{ρ:Rho}{H:Hp}{Q:Unit→Shared→Prop}(he:env.scope=sc) (ns:List Str):∀ (vs:List V) (ys:List Value) (m:Fm) (s:Shared),ns.all (ej sc)=true→vs.length=ns.length→FrOk C env l m ρ s.heap→St C l ρ H s→RepVs ρ s.heap vs ys→
  (∀ s',Ev C l (c0 env) ρ s ρ H s'→FrOk C env l (oE ns vs m) ρ s'.heap→Q () s')→wpAny (model C.prog C.w) A (assignInOrder (ns.map fun n=>bindName env n) ys) Q E s:=by
 induction ns with
 | nil=>
  intro vs ys m s hs hl fr st r q
  cases r with
  | nil=>exact wpAny_pure (q s (.refl st) fr)
  | cons _ _=>cases hl
 | cons n ns ih=>
  intro vs ys m s hs hl fr st r q
  cases r with
  | nil=>cases hl
  | cons r rs=>
   rw[List.all_cons,Bool.and_eq_true]at hs
   refine wpAny_bind (wpAny_holding (wpAny_bindName (oh hs.1 he fr st r fun s1 e1 fr1=>?_)))
   exact ih _ _ _ s1 hs.2 (by simpa using hl) fr1 e1.st (rs.evS st fr e1) fun s' e2 fr2=>q s' (e1.trans e2) fr2
theorem vy{ts k tp e pos fe ns} (h:bg C d sc e fe) (hs:∀ env,swapsWithSole [.Tuple ts k tp] e pos.line env=pure false) (hw:∀ env,env.scope=sc→swappedStores [.Tuple ts k tp] e env=pure (some ns)) (hn:ns.reverse.all (ej sc)=true):
  jU C d sc (.Assign [.Tuple ts k tp] e pos) (aH fe (ig ns)):=by
 intro A env l m ρ H s Q E hb ha he fr st p
 rw[exec_Assign_arm]
 refine wpAny_bind (wpAny_standAt ?_)
 rw[hs]
 refine wpAny_bind (wpAny_pure ?_)
 rw[if_neg (by decide)]
 refine wpAny_bind (h A env l m ρ H s _ E hb ha he fr st (bJ.bindE p st fr fun v H1 ρ1 y s1 _ e1 fr1 r1 p1=>?_))
 rw[hw env he]
 refine wpAny_bind (wpAny_pure ?_)
 unfold ig at p1
 cases v with
 | tup vs=>
  dsimp only at p1
  by_cases hl:vs.length=ns.length
  ·rw[if_pos hl]at p1
   unfold assignStores
   refine wpAny_bind (wpAny_rule ?_)
   rw[← hl]
   refine wpAny_bind (hZ hb e1.st r1 fun ys s2 e2 r2=>?_)
   refine wpAny_bind (v7 he ns.reverse vs.reverse ys.reverse m s2 hn (by simpa using hl) (fr1.ev e1.st e2) e2.st r2.reverse fun s3 e3 fr3=>wpAny_pure ?_)
   exact p1 ρ1 .next s3 (e2.no.trans e3) fr3 .next
  ·rw[if_neg hl]at p1;exact p1.elim
 | _=>exact p1.elim
end
section
variable {C:Cx}{d:Nat}{sc:Scope}

theorem Ev.ownW{l ρ H} {s s':Shared}{W:Addr→Prop}{b:Addr}(st:St C l ρ H s) (hb:W b) (nm:¬bG ρ b) (nt:NT s.heap b) (hi:C.h0.objs.size≤b) (k:bt (fun c=>c=b) No s.heap s'.heap)
  (ex:∃ o',s'.heap.get? b=some o'∧∀ vs,o'.data ≠ .fields vs) (hr:s'.gens=s.gens∧s'.drawn=s.drawn∧s'.os=s.os):Ev C l W ρ s ρ H s':=by
 refine⟨⟨fun a o e=>k.exact (st.old a o e) (fun z=>?_) id,st.hi,CX st.lo k.1,⟨hr.1.trans st.rest.1,hr.2.1.trans st.rest.2.1,hr.2.2.trans st.rest.2.2⟩,⟨st.rep.len,fun i o p ho hp=>?_,st.rep.apart⟩,?_,st.frm⟩,
  ⟨[],by simp,fun _ h=>nomatch h⟩,⟨k.1,fun a o e n=>?_⟩⟩
 ·have:=Heap.lt_size e
  rw[z]at this
  exact absurd this (Nat.not_lt.mpr hi)
 ·exact(st.rep.obj i o p ho hp).keep k (fun c e _=>by rw[e];exact nt) (fun _ _ z=>z) (fun _ _ z=>z) ⟨fun z=>nm ⟨p,List.mem_of_getElem? hp,.inl z.symm⟩,id⟩ ⟨fun z=>nm ⟨p,List.mem_of_getElem? hp,.inr z.symm⟩,id⟩
 ·have go:∀ {l':List Env},s.heap.FunFrames C.h0 l'→s'.heap.FunFrames C.h0 l':=by
   intro l'
   induction l' with
   | nil=>intro _;trivial
   | cons e0 r ih=>
    rintro ⟨hk,⟨L,o,hf,hn,ho,hd⟩,hr⟩
    by_cases hL:L=b
    ·refine byC fun kq=>?_
     obtain⟨o',g',hd'⟩:=ex
     refine kq ?_;try clear kq
     exact⟨hk,⟨L,o',hf,hn,hL ▸ g',hd'⟩,ih hr⟩
    ·exact⟨hk,⟨L,o,hf,hn,k.exact ho hL id,hd⟩,ih hr⟩
  exact go st.frs
 ·exact⟨o.slots,k.exact e (fun z=>n (.inr (z ▸ hb))) id,fun _=>rfl⟩

noncomputable def uP(env:Env):Addr→Prop:=fun b=>b=env.locals
theorem kP{A:Around}{env:Env}{l:List Env}{m:Fm}{ρ:Rho}{H:Hp}{s:Shared}{v:V}{y:Value}{x:Str}{Q:Unit→Shared→Prop}{E:Value→Shared→Prop}(hk:env.kindOf x=some .local) (fr:FrOk C env l m ρ s.heap) (st:St C l ρ H s) (r:RepV ρ s.heap v y)
  (q:∀ s',Ev C l (uP env) ρ s ρ H s'→FrOk C env l ((x,v)::m) ρ s'.heap→Q () s'):wpAny (model C.prog C.w) A (storeName env x y) Q E s:=by
 have lk:∀ z w,((x,v)::m).lookup z=some w→(z=x∧w=v)∨(z ≠ x∧m.lookup z=some w):=fun z w hz=>by
  rw[List.lookup_cons]at hz
  by_cases hzx:z=x
  ·subst hzx;simp at hz;exact .inl ⟨rfl,hz.symm⟩
  ·have:(z == x)=false:=beq_eq_false_iff_ne.mpr hzx
   rw[this]at hz
   exact .inr ⟨hzx,hz⟩
 refine byC fun kq=>?_
 obtain⟨mm,hn,hm⟩:=fr.loc
 refine kq ?_;try clear kq
 refine wpAny_storeName_local hk hn (fun h' hn' hs=>?_) (by rw[fr.kind];rfl)
 have e1:Ev C l (uP env) ρ s ρ H { s with heap:=h',toks:=s.toks + 1 }:=.ownW st rfl fr.hiL.2 (fr.nt (.inl rfl)) fr.hiL.1 (.sameBut hs) (by obtain⟨o',es,ep,g,d',_⟩:=hn';exact⟨o',g,fun vs z=>by rw[d']at z;cases z⟩) ⟨rfl,rfl,rfl⟩
 have rv:∀ {v y},RepV ρ s.heap v y→RepV ρ h' v y:=fun r=>r.ev st e1 fun b hb=>fr.nt (.inl hb)
 have ncell:∀ z c,env.cells.lookup z=some c→c ≠ env.locals:=fun z c hz=>by
  rintro rfl
  refine byC fun kq=>?_
  obtain⟨ov,o',g',d'⟩:=fr.celX z _ hz
  obtain⟨o2,es,ep,g2,d2,_⟩:=hn
  refine kq ?_;try clear kq
  rw[g2]at g';cases g';rw[d2]at d';cases d'
 refine q _ e1 ⟨fr.kind,fr.glob,fr.bui,fr.top,⟨_,hn',fun z w hz hkz=>?_⟩,fun z w hz hkz=>?_,fun z c hz=>?_,fr.celI,fr.hiL,fr.hiC,fr.celE⟩
 ·rcases lk z w hz with⟨rfl,rfl⟩|⟨hne,hz⟩
  ·exact⟨y,if_pos rfl,rv r⟩
  ·refine byC fun kq=>?_
   obtain⟨y',hy',r'⟩:=hm z w hz hkz
   refine kq ?_;try clear kq
   exact⟨y',(if_neg hne).trans hy',rv r'⟩
 ·rcases lk z w hz with⟨rfl,rfl⟩|⟨hne,hz⟩
  ·rw[hk]at hkz;rcases hkz with h|h<;>cases h
  ·refine byC fun kq=>?_
   obtain⟨c,y',hc',ic,r'⟩:=fr.cel z w hz hkz
   refine kq ?_;try clear kq
   exact⟨c,y',hc',ic.sameBut hs (ncell z c hc'),rv r'⟩
 ·refine byC fun kq=>?_
  obtain⟨ov,ic⟩:=fr.celX z c hz
  refine kq ?_;try clear kq
  exact⟨ov,ic.sameBut hs (ncell z c hz)⟩

noncomputable def ox(C:Cx) (d:Nat) (sc:Scope) (t:Expr) (f:V→Fm→Option Fm):Prop:=
 ∀ (A:Around) (env:Env) (l:List Env) (m m':Fm) (ρ:Rho) (H:Hp) (s:Shared) (v:V) (y:Value) (Q:Unit→Shared→Prop) (E:Value→Shared→Prop),
  Bud d A→env.scope=sc→FrOk C env l m ρ s.heap→St C l ρ H s→RepV ρ s.heap v y→f v m=some m'→(∀ s',Ev C l (uP env) ρ s ρ H s'→FrOk C env l m' ρ s'.heap→Q () s')→wpAny (model C.prog C.w) A (assign t env y) Q E s
noncomputable def gj(sc:Scope) (x:Str):Bool:=match sc.names.lookup x with|some .local=>true|_=>false
theorem jH{env:Env}{x:Str}(h:gj sc x=true) (he:env.scope=sc):env.kindOf x=some .local:=by
 subst he
 unfold gj at h
 unfold Env.kindOf
 cases q:env.scope.names.lookup x with
 | none=>rw[q]at h;cases h
 | some k=>rw[q]at h;cases k<;>first|rfl|cases h
noncomputable def cz(x:Str):V→Fm→Option Fm:=fun v m=>some ((x,v)::m)
theorem vC{x pos} (h:gj sc x=true):ox C d sc (.Name x pos) (cz x):=by
 intro A env l m m' ρ H s v y Q E hb he fr st r e q
 cases e
 exact wpAny_assign_Name (kP (jH h he) fr st r q)
noncomputable def m9(x y:Str):V→Fm→Option Fm:=fun v m=>match v with
 | .tup [a,b]=>some ((y,b)::(x,a)::m)
 | _=>none
set_option tactic.hygienic true in
@[elab_as_elim] theorem ti{x y:Str}{m m':Fm}{G:V→Prop}(v:V) (e:m9 x y v m=some m') (k:∀ a b,(y,b)::(x,a)::m=m'→G (.tup [a,b])):G v:=by
 cases v<;>try exact nns e
 rename_i vs
 rcases vs with _|⟨a,_|⟨b,_|⟨c,r⟩⟩⟩<;>try exact nns e
 exact k _ _ (Option.some.inj e)
theorem vD{x y p1 p2 k pos} (h1:gj sc x=true) (h2:gj sc y=true):ox C d sc (.Tuple [.Name x p1,.Name y p2] k pos) (m9 x y):=by
 intro A env l m m' ρ H s v yv Q E hb he fr st r e q
 revert r
 refine ti v e fun a b em r=>?_
 subst em
 rw[arm_assign_Tuple]
 refine wpAny_bind (wpAny_standAt ?_)
 unfold unpack
 show wpAny _ _ (do assignInOrder [assign (.Name x p1) env,assign (.Name y p2) env] (← holding [yv] (unpackItems yv [a,b].length none))) _ _ _
 refine wpAny_bind (wpAny_holding (hZ hb st r fun ys s1 e1 r1=>rs2 r1 fun x1 x2 ra rb=>?_))
 have fr1:=fr.ev st e1
 refine wpAny_bind (wpAny_holding (wpAny_assign_Name (kP (jH h1 he) fr1 e1.st ra fun s2 e2 fr2=>?_)))
 refine wpAny_bind (wpAny_holding (wpAny_assign_Name (kP (jH h2 he) fr2 e2.st (rb.ev e1.st e2 fun b hb=>fr1.nt (.inl hb)) fun s3 e3 fr3=>wpAny_pure ?_)))
 exact q s3 ((e1.no.trans e2).trans e3) fr3

noncomputable def oz(C:Cx) (d:Nat) (sc:Scope) (ifs:List Expr) (f:FE):Prop:=
 ∀ (A:Around) (env:Env) (l:List Env) (m:Fm) (ρ:Rho) (H:Hp) (s:Shared) (Q:Bool→Shared→Prop) (E:Value→Shared→Prop),
  Bud d A→A.frames=some l→env.scope=sc→FrOk C env l m ρ s.heap→St C l ρ H s→aJ C l env.frame ρ s (fun v s'=>∃ b,v=.bool b∧Q b s') E (f m H)→
  wpAny (model C.prog C.w) A (forIn ifs true fun c r=>if r=true then do let ok ← isTrue c env (eval c env);pure (ForInStep.yield ok)else pure (ForInStep.yield r)) Q E s
theorem xO:oz C d sc [] (fC (.bool true)):=by
 intro A env l m ρ H s Q E hb ha he fr st p
 refine byC fun kq=>?_
 obtain⟨b,e,q⟩:=p ρ _ s (.refl st) (.bool true)
 refine kq ?_;try clear kq
 cases e
 exact wpAny_tests_nil q
theorem xP{t f} (h:lz C d sc t f):oz C d sc [t] f:=by
 intro A env l m ρ H s Q E hb ha he fr st p
 exact wpAny_tests_one (h A env l m ρ H s Q E hb ha he fr st p)

open Classical in
noncomputable def bN(G:Hp→Prop) (fa:V→Fm→Option Fm) (ft fe:FE) (i:Nat):List V→Fm→Hp→Out Unit
 | [],_,H=>if G H then .ok () H else .bad
 | v::r,m,H=>if G H then(match fa v m with
  | none=>.bad
  | some m1=>(ft m1 H).bind fun b H1=>match b with
   | .bool true=>(fe m1 H1).bind fun x H2=>(match H2[i]? with
    | some (.list xs)=>if xs.length < 1000000 then bN G fa ft fe i r m1 (H2.set i (.list (xs++[x])))else .bad
    | _=>.bad)
   | .bool false=>bN G fa ft fe i r m1 H1
   | _=>.bad)else .bad
noncomputable def b7(fv:List Str) (fit:Fm→Hp→Out It) (fa:V→Fm→Option Fm) (ft fe:FE):FE:=fun m H=>(fit m H).bind fun t H1=>match t with
 | .mk items G=>(bN G fa ft fe H1.length items (m.filter fun p=>fv.contains p.1) (H1++[.list []])).bind fun _ H2=>.ok (.ref H1.length) H2
noncomputable def cD(scope sc:Scope):Scope:={ scope with names:=scope.names.map fun(n,k)=>if (k == .free && sc.kind == .function && sc.names.lookup n == some .cell)then(n,.cell)else(n,k) }
theorem sI{env:Env}{scope:Scope}(he:env.scope=sc):relabel scope env=cD scope sc:=by subst he;rfl
end
section
variable {C:Cx}{d:Nat}{sc:Scope}

noncomputable def tB(C:Cx) (env:Env) (l:List Env) (i:Nat) (pa:Addr × Addr) (ρ0:Rho) (s0:Shared) (R:Result→Shared→Prop):Out Unit→Prop
 | .ok _ H'=>∀ ρ' m' s',Ev C l No ρ0 s0 ρ' H' s'→FrOk C env l m' ρ' s'.heap→ρ'[i]? = some pa→R (.ok .next) s'
 | .exc H'=>∀ ρ' m' e L s',Ev C l No ρ0 s0 ρ' H' s'→FrOk C env l m' ρ' s'.heap→env.frame=some L→FlyAt C s0.heap.objs.size e (rawInt L) s'.heap→R (.error (.ref e)) s'
 | .bad=>False

theorem uy{A:Around}{env:Env}{l:List Env}{m:Fm}{ρ0 ρ:Rho}{H:Hp}{s0 s:Shared}{e:Addr}{R:Result→Shared→Prop}(ha:A.frames=some l) (hl:C.h0.objs.size≤s0.heap.objs.size) (x:Ev C l No ρ0 s0 ρ H s) (fr:FrOk C env l m ρ s.heap)
  (fl:Fly C env.frame s0.heap.objs.size e s.heap)
  (q:∀ ρ' m' e L s',Ev C l No ρ0 s0 ρ' H s'→FrOk C env l m' ρ' s'.heap→env.frame=some L→FlyAt C s0.heap.objs.size e (rawInt L) s'.heap→R (.error (.ref e)) s'):
  notedBy (model C.prog C.w) A env (fun e s'=>R (.error e) s') (.ref e) s:=by
 refine byC fun kq=>?_
 obtain⟨e0,r,L,rfl,h0,hf⟩:=fr.frame ⟨_,_,_,x.st⟩
 refine kq ?_;try clear kq
 rw[hf]at fl
 refine ke ha x.st.frs h0 hf x.keep.1 fl fun h' y k=>?_
 exact q ρ m e L _ (x.thru (s':={ s with heap:=h' }) k hl ⟨rfl,rfl,rfl⟩) (fr.thru k) hf y

theorem Ev.dropL{l ρ0 ρ1 ρ2 H1 H2} {s0 s1 s2:Shared}{env:Env}(x:Ev C l No ρ0 s0 ρ1 H1 s1) (y:Ev C l (uP env) ρ1 s1 ρ2 H2 s2) (h:s0.heap.objs.size≤env.locals):Ev C l No ρ0 s0 ρ2 H2 s2:=
 x.trans2 y fun _ hb w=>absurd (w ▸ hb) (Nat.not_lt.mpr h)

@[elab_as_elim] theorem gen{α:Sort _}{P:α→Prop}(a:α) (h:∀ x,P x):P a:=h a
theorem ut{G:Hp→Prop}{fa:V→Fm→Option Fm}{ft fe:FE}{i:Nat}{v:V}{r:List V}{m:Fm}{H:Hp}{Pu:Out Unit→Prop}(nb:¬Pu .bad) (h:Pu (bN G fa ft fe i (v::r) m H)):
  G H∧∃ m1,fa v m=some m1∧((∃ H1,ft m1 H=.exc H1∧Pu (.exc H1))∨∃ b H1,ft m1 H=.ok (.bool b) H1∧(b=false→Pu (bN G fa ft fe i r m1 H1))∧
   (b=true→(∃ H2,fe m1 H1=.exc H2∧Pu (.exc H2))∨∃ x H2 xs,fe m1 H1=.ok x H2∧H2[i]? = some (.list xs)∧xs.length < 1000000∧Pu (bN G fa ft fe i r m1 (H2.set i (.list (xs++[x])))))):=by
 unfold bN at h
 by_cases hG:G H
 ·rw[if_pos hG]at h
  refine⟨hG,?_⟩
  cases hf:fa v m with
  | none=>rw[hf]at h;exact(nb h).elim
  | some m1=>
   rw[hf]at h
   refine⟨m1,rfl,?_⟩
   dsimp only at h
   cases ht:ft m1 H with
   | bad=>rw[ht]at h;exact(nb h).elim
   | exc H1=>rw[ht]at h;exact .inl ⟨H1,rfl,h⟩
   | ok bv H1=>
    rw[ht]at h
    cases bv with
    | bool b=>
     refine .inr ⟨b,H1,rfl,fun z=>by rw[z]at h;exact h,fun z=>?_⟩
     rw[z]at h
     replace h:Pu ((fe m1 H1).bind _):=h
     cases he:fe m1 H1 with
     | bad=>rw[he]at h;exact(nb h).elim
     | exc H2=>rw[he]at h;exact .inl ⟨H2,rfl,h⟩
     | ok x H2=>
      rw[he]at h
      replace h:Pu (match H2[i]? with|some (.list xs)=>_|_=>_):=h
      cases ho:H2[i]? with
      | none=>rw[ho]at h;exact(nb h).elim
      | some o=>
       rw[ho]at h
       cases o with
       | list xs=>
        by_cases hx:xs.length < 1000000
        ·exact .inr ⟨x,H2,xs,rfl,ho,hx,(if_pos hx:(if xs.length < 1000000 then bN G fa ft fe i r m1 (H2.set i (.list (xs++[x])))else Out.bad)=_) ▸ h⟩
        ·exact(nb ((if_neg hx:(if xs.length < 1000000 then bN G fa ft fe i r m1 (H2.set i (.list (xs++[x])))else Out.bad)=_) ▸ h)).elim
       | _=>exact(nb h).elim
    | _=>exact(nb h).elim
 ·rw[if_neg hG]at h;exact(nb h).elim
structure CIn (C:Cx) (env:Env) (l:List Env) (ρ0:Rho) (s0:Shared) (P:Nat→Rho→Heap→Prop) (F:Addr→Prop) (pa:Addr × Addr) (i j:Nat) (m:Fm) (ρ:Rho) (H:Hp) (s:Shared):Prop where
 x:Ev C l No ρ0 s0 ρ H s
 fr:FrOk C env l m ρ s.heap
 p:P j ρ s.heap
 pr:∀ b,F b→¬bG ρ b∧b ≠ env.locals
 hi:ρ[i]? = some pa
theorem CIn.step{A:Around}{env:Env}{l:List Env}{tgt:Expr}{I:Addr}{items:List V}{G:Hp→Prop}{P:Nat→Rho→Heap→Prop}{F:Addr→Prop}{pa:Addr × Addr}{i j:Nat}{m m':Fm}{ρ0 ρ ρ':Rho}{H0 H H':Hp}{s0 s s':Shared}
  (T:Itr C A l tgt s0.heap.objs.size I F items G P) (st0:St C l ρ0 H0 s0) (hL:s0.heap.objs.size≤env.locals) (c:CIn C env l ρ0 s0 P F pa i j m ρ H s) (e:Ev C l (uP env) ρ s ρ' H' s') (fr:FrOk C env l m' ρ' s'.heap):CIn C env l ρ0 s0 P F pa i j m' ρ' H' s':=
 ⟨c.x.dropL e hL,fr,T.frame j ρ ρ' _ _ c.p (fun b _ hF g=>e.keep.exact g (fun z=>z.elim (c.pr b hF).1 (c.pr b hF).2) fun z=>absurd (T.foot j ρ _ b c.p hF).1 (Nat.not_le.mpr (st0.fr_lt z).2)) fun _ _ r=>r.ev c.x.st e fun _ hb=>hb ▸ c.fr.nt (.inl rfl),
  fun b hF=>⟨e.nm b (Heap.lt_size (T.foot j ρ _ b c.p hF).2.choose_spec) (c.pr b hF).1,(c.pr b hF).2⟩,e.look _ _ c.hi⟩
theorem CIn.no{A:Around}{env:Env}{l:List Env}{tgt:Expr}{I:Addr}{items:List V}{G:Hp→Prop}{P:Nat→Rho→Heap→Prop}{F:Addr→Prop}{pa:Addr × Addr}{i j:Nat}{m:Fm}{ρ0 ρ ρ':Rho}{H0 H H':Hp}{s0 s s':Shared}
  (T:Itr C A l tgt s0.heap.objs.size I F items G P) (st0:St C l ρ0 H0 s0) (hL:s0.heap.objs.size≤env.locals) (c:CIn C env l ρ0 s0 P F pa i j m ρ H s) (e:Ev C l No ρ s ρ' H' s'):CIn C env l ρ0 s0 P F pa i j m ρ' H' s':=
 c.step T st0 hL e.no (c.fr.ev c.x.st e)
theorem uz{A:Around}{cenv:Env}{l:List Env}{elt tgt iter:Expr}{ifs:List Expr}{scope:Scope}{pos:Pos}{I a dd:Addr}{i j:Nat}{F:Addr→Prop}{items:List V}{G:Hp→Prop}{P:Nat→Rho→Heap→Prop}{fa:V→Fm→Option Fm}{ft fe:FE}{Pu:Out Unit→Prop}{Q:Fin→Shared→Prop}{E:Value→Shared→Prop}
  {ρ0 ρ:Rho}{H0 H:Hp}{s0 s:Shared}{m:Fm}(st0:St C l ρ0 H0 s0) (hA:ox C d sc tgt fa) (hT:oz C d sc ifs ft) (hE:bg C d sc elt fe)
  (T:Itr C A l tgt s0.heap.objs.size I F items G P) (hb:Bud d A) (ha:A.frames=some l) (he:cenv.scope=sc) (hL:s0.heap.objs.size≤cenv.locals) (c:CIn C cenv l ρ0 s0 P F (a,dd) i j m ρ H s) (nb:¬Pu .bad)
  (qe:∀ {m ρ H s},Ev C l No ρ0 s0 ρ H s→FrOk C cenv l m ρ s.heap→∀ {H'},Pu (.exc H')→∀ ρ' e s',Ev C l No ρ s ρ' H' s'→Fly C cenv.frame s.heap.objs.size e s'.heap→E (.ref e) s')
  (qd:∀ {m ρ H s},Ev C l No ρ0 s0 ρ H s→FrOk C cenv l m ρ s.heap→ρ[i]? = some (a,dd)→Pu (.ok () H)→Q (.done .next) s)
  (qa:j < items.length→∀ {m ρ H s},CIn C cenv l ρ0 s0 P F (a,dd) i (j + 1) m ρ H s→Pu (bN G fa ft fe i (items.drop (j + 1)) m H)→Q (.again (.compLoop (.ListComp elt [⟨tgt,iter,ifs,0⟩] scope pos) 0 (.ref I) (.ref a) cenv)) s)
  (hj:j≤items.length) (p:Pu (bN G fa ft fe i (items.drop j) m H)):
  wpAny (model C.prog C.w) A (compTurn (.ListComp elt [⟨tgt,iter,ifs,0⟩] scope pos) 0 (.ref I) (.ref a) cenv) Q E s:=by
 rw[compTurn_list]
 revert qa
 refine gen (Code.compLoop (.ListComp elt [⟨tgt,iter,ifs,0⟩] scope pos) 0 (.ref I) (.ref a) cenv) fun code qa=>?_
 refine wpAny_bind (wpAny_standAt (wpAny_bind ?_))
 cases hv:items[j]? with
 | none=>
  have hlen:items.drop j=[]:=List.drop_eq_nil_of_le (List.getElem?_eq_none_iff.mp hv)
  have hj':j=items.length:=Nat.le_antisymm hj (List.getElem?_eq_none_iff.mp hv)
  rw[hlen]at p
  unfold bN at p
  by_cases hG:G H
  ·rw[if_pos hG]at p
   exact wpAny_mono (T.stop ρ H s (fun s3=>Q (.done .next) s3) _ c.x.st hG (hj' ▸ c.p) fun s3 e3=>qd (c.x.transF e3 (Nat.le_refl _)) (c.fr.evF c.x.st e3) c.hi p) (fun r s3 z=>z.1 ▸ wpAny_pure z.2) fun _ _ z=>z
  ·rw[if_neg hG]at p;exact(nb p).elim
 | some v=>
  have hlt:j < items.length:=(List.getElem?_eq_some_iff.mp hv).1
  have hd:items.drop j=v::items.drop (j + 1):=by
   rw[List.drop_eq_getElem_cons hlt]
   congr 1
   rw[C0 hlt]at hv
   exact Option.some.inj hv
  rw[hd]at p
  replace qa:=@qa hlt
  revert p qa
  refine gen (items.drop (j + 1)) fun rest p qa=>?_
  refine byC fun kq=>?_
  obtain⟨hG,m3,hfa,p⟩:=ut nb p
  refine kq ?_;try clear kq
  refine wpAny_mono (T.item j v ρ H s (fun y s3=>wpAny (model C.prog C.w) A (assign tgt cenv y >>= _) _ _ s3) _ c.x.st hG c.p hv fun y s3 e3 p3 r3=>?_) (fun r s3 z=>by obtain⟨y,rfl,z⟩:=z;exact wpAny_bind z) fun _ _ z=>z
  refine wpAny_bind (hA A cenv l m m3 ρ H s3 v y _ _ hb he (c.fr.evF c.x.st e3) e3.st r3 hfa fun s4 e4 fr4=>?_)
  have c4:CIn C cenv l ρ0 s0 P F (a,dd) i (j + 1) m3 ρ H s4:=CIn.step (m:=m) (s:=s3) T st0 hL ⟨c.x.transF e3 (Nat.le_refl _),c.fr.evF c.x.st e3,p3,c.pr,c.hi⟩ e4 fr4
  refine wpAny_bind (hT A cenv l m3 ρ H s4 _ _ hb ha he fr4 e4.st ?_)
  rcases p with⟨H5,hft,p⟩|⟨b,H5,hft,pf,pt⟩
  ·rw[hft];exact qe c4.x fr4 p
  rw[hft]
  intro ρ5 y5 s5 e5 r5
  have c5:=c4.no T st0 hL e5
  cases r5
  refine⟨b,rfl,?_⟩
  cases b with
  | false=>exact wpAny_pure (qa c5 (pf rfl))
  | true=>
   refine wpAny_bind (wpAny_bind (hE A cenv l m3 ρ5 H5 s5 _ _ hb ha he c5.fr c5.x.st ?_))
   rcases pt rfl with⟨H6,hfe,p⟩|⟨xv,H6,xs,hfe,ho,hx,p⟩
   ·rw[hfe];exact qe c5.x c5.fr p
   rw[hfe]
   intro ρ6 y6 s6 e6 r6
   have c6:=c5.no T st0 hL e6
   refine wpAny_bind (lj (d:=d) A l [.ref i,xv] [.ref a,y6] ρ6 H6 s6 _ _ hb ha c6.x.st (.cons (.ref c6.hi) (.cons r6 .nil)) ?_)
   have ap:cr [.ref i,xv] H6=.ok .none (H6.set i (.list (xs++[xv]))):=by
    unfold cr
    dsimp only
    rw[ho]
    exact if_pos hx
   rw[ap]
   exact fun ρ7 y7 s7 e7 r7=>wpAny_pure (wpAny_pure (qa (c6.no T st0 hL e7) p))
theorem ux{A:Around}{cenv:Env}{l:List Env}{elt tgt iter:Expr}{ifs:List Expr}{scope:Scope}{pos:Pos}{I a dd:Addr}{i:Nat}{F:Addr→Prop}{items:List V}{G:Hp→Prop}{P:Nat→Rho→Heap→Prop}{fa:V→Fm→Option Fm}{ft fe:FE}{R:Result→Shared→Prop}
  {ρ0 ρ:Rho}{H0 H:Hp}{s0 s:Shared}{m:Fm}(st0:St C l ρ0 H0 s0) (hA:ox C d sc tgt fa) (hT:oz C d sc ifs ft) (hE:bg C d sc elt fe)
  (T:Itr C A l tgt s0.heap.objs.size I F items G P) (hb:Bud d A) (ha:A.frames=some l) (he:cenv.scope=sc) (hL:s0.heap.objs.size≤cenv.locals) (x:Ev C l No ρ0 s0 ρ H s) (fr:FrOk C cenv l m ρ s.heap) (p0:P 0 ρ s.heap)
  (pr:∀ b,F b→¬bG ρ b∧b ≠ cenv.locals) (hi:ρ[i]? = some (a,dd)) (p:tB C cenv l i (a,dd) ρ0 s0 R (bN G fa ft fe i items m H)):
  codeAny (model C.prog C.w) A (.compLoop (.ListComp elt [⟨tgt,iter,ifs,0⟩] scope pos) 0 (.ref I) (.ref a) cenv) R s:=by
 refine codeAny_loop rfl (fun k s'=>∃ j m' ρ' H',CIn C cenv l ρ0 s0 P F (a,dd) i j m' ρ' H' s'∧j≤items.length∧tB C cenv l i (a,dd) ρ0 s0 R (bN G fa ft fe i (items.drop j) m' H')∧k=items.length + 1 - j) ?_ (items.length + 1)
  ⟨0,m,ρ,H,⟨x,fr,p0,pr,hi⟩,Nat.zero_le _,p,rfl⟩
 rintro k s2 ⟨j,m2,ρ2,H2,c,hj,p2,rfl⟩
 exact wpAny_noted (uz (Pu:=tB C cenv l i (a,dd) ρ0 s0 R) st0 hA hT hE T hb ha he hL c id (fun x1 fr1 _ q ρ' e s' e1 fl=>uy ha st0.lo (x1.trans e1) (fr1.ev x1.st e1) (fl.mono x1.keep.1) q) (fun {m ρ H s} x1 fr1 hi q=>q ρ m s x1 fr1 hi)
  (fun hlt {m ρ H s} c' q=>⟨rfl,items.length + 1 - (j + 1),Nat.sub_lt_sub_left (Nat.lt_succ_of_lt hlt) (Nat.lt_succ_self j),j + 1,m,ρ,H,c',hlt,q,rfl⟩) hj p2)
end
section
variable {C:Cx}{d:Nat}{sc:Scope}

theorem oN(env:Env):∀ (ns:List (Str × NameKind)) (acc:List (Str × Addr)),(∀ n,(n,NameKind.free)∈ns→(env.cells.lookup n).isSome=true)→∃ cl:List (Str × Addr),
  (forIn ns acc fun(x:Str × NameKind) (cs:List (Str × Addr))=>match x with
   | (name,kind)=>if (kind == NameKind.free)=true then do let c ← cellOf env name;pure (ForInStep.yield ((name,c)::cs))else(pure (ForInStep.yield cs):Sem _))=pure cl∧
  (∀ x c,cl.lookup x=some c→acc.lookup x=some c∨env.cells.lookup x=some c)∧(∀ x,(x,NameKind.free)∈ns∨(acc.lookup x).isSome=true→(cl.lookup x).isSome=true):=by
 intro ns
 induction ns with
 | nil=>exact fun acc _=>⟨acc,rfl,fun _ _ h=>.inl h,fun x h=>h.elim (fun h=>nomatch h) id⟩
 | cons p r ih=>
  refine byC fun kq=>?_
  obtain⟨n,k⟩:=p
  refine kq ?_;try clear kq
  intro acc h
  have hr:=fun x hx=>h x (CZ _ hx)
  by_cases hk:k=.free
  ·subst hk
   have h0:=h n CY
   refine byC fun kq=>?_
   obtain⟨c,hc⟩:=Option.isSome_iff_exists.mp h0
   obtain⟨cl,e,h1,h2⟩:=ih ((n,c)::acc) hr
   refine kq ?_;try clear kq
   refine⟨cl,?_,fun x y hy=>?_,fun x hx=>?_⟩
   ·rw[List.forIn_cons]
    have:cellOf env n=pure c:=by unfold cellOf;rw[hc]
    simp only[this]
    exact e
   ·rcases h1 x y hy with q|q
    ·rw[List.lookup_cons]at q
     cases hb:x == n with
     | true=>rw[hb]at q;cases q;exact .inr (by rw[beq_iff_eq.mp hb];exact hc)
     | false=>rw[hb]at q;exact .inl q
    ·exact .inr q
   ·refine h2 x ?_
    rcases hx with hx|hx
    ·rcases List.mem_cons.mp hx with hx|hx
     ·cases hx;exact .inr (by simp[List.lookup_cons])
     ·exact .inl hx
    ·refine .inr ?_
     rw[List.lookup_cons]
     cases hb:x == n with
     | true=>rfl
     | false=>exact hx
  ·refine byC fun kq=>?_
   obtain⟨cl,e,h1,h2⟩:=ih acc hr
   refine kq ?_;try clear kq
   refine⟨cl,?_,h1,fun x hx=>h2 x ?_⟩
   ·rw[List.forIn_cons]
    have:(k == NameKind.free)=false:=by simpa using hk
    simp only[this]
    exact e
   ·rcases hx with hx|hx
    ·rcases List.mem_cons.mp hx with hx|hx
     ·cases hx;exact absurd rfl hk
     ·exact .inl hx
    ·exact .inr hx
theorem rW{scope:Scope}{env:Env}(h:∀ n,(n,NameKind.free)∈scope.names→(env.cells.lookup n).isSome=true):∃ cl,closureFor scope env=pure cl∧(∀ x c,cl.lookup x=some c→env.cells.lookup x=some c)∧(∀ n,(n,NameKind.free)∈scope.names→(cl.lookup n).isSome=true):=by
 refine byC fun kq=>?_
 obtain⟨cl,e,h1,h2⟩:=oN env scope.names [] h
 refine kq ?_;try clear kq
 refine⟨cl,?_,fun x c hc=>(h1 x c hc).elim (fun z=>by cases z) id,fun n hn=>h2 n (.inl hn)⟩
 unfold closureFor
 show(forIn scope.names [] _ >>= fun r=>pure r)=_
 refine Eq.trans (congrArg (· >>= fun r=>pure r) ?_) (show(pure cl >>= fun r=>pure r)=pure cl from rfl)
 exact e

theorem FlyAt.sameBut{n:Nat}{e b:Addr}{fl:Value}{h h':Heap}(x:FlyAt C n e fl h) (hs:Heap.SameBut b h h') (hn:∃ o,h.get? b=some o∧∀ vs,o.data ≠ .fields vs):FlyAt C n e fl h':=by
 refine byC fun kq=>?_
 obtain⟨o,g,d⟩:=hn
 obtain⟨hn,oe,vs,T,oT,ts,hT,he,hc,hd,h1,hTe,gT,dT,h3⟩:=x
 refine kq ?_;try clear kq
 have ne:e ≠ b:=by rintro rfl;rw[g]at he;cases he;exact d _ hd
 have nT:T ≠ b:=by rintro rfl;rw[g]at gT;cases gT;exact d _ dT
 exact⟨hn,oe,vs,T,oT,ts,hT,hs.extBut _ _ ne he,hc,hd,h1,hTe,hs.extBut _ _ nT gT,dT,h3⟩

noncomputable def iE(scope sc:Scope) (fv:List Str):Bool:=
 scope.kind == .function && scope.names.all (fun p=>match p.2 with
  | NameKind.local=>scope.names.lookup p.1 == some .local
  | NameKind.free=>sc.names.lookup p.1 == some .cell
  | NameKind.cell=>false
  | _=>true) && fv.all fun x=>(cD scope sc).names.lookup x == some .cell

theorem nv{names:List (Str × NameKind)}{g:Str→NameKind→NameKind}(hg:∀ n k,g n k=.cell→k=.free∨k=.cell) {x:Str}:(names.map fun(n,k)=>(n,g n k)).lookup x=some .cell→(∃ k,(x,k)∈names∧(k=.free∨k=.cell)):=by
 induction names with
 | nil=>intro h;simp at h
 | cons p r ih=>
  refine byC fun kq=>?_
  obtain⟨n,k⟩:=p
  refine kq ?_;try clear kq
  intro h
  rw[List.map_cons,List.lookup_cons]at h
  cases hb:x == n with
  | true=>
   rw[hb]at h
   cases beq_iff_eq.mp hb
   exact⟨k,CY,hg _ _ (Option.some.inj h)⟩
  | false=>
   rw[hb]at h
   refine byC fun kq=>?_
   obtain⟨k',h1,h2⟩:=ih h
   refine kq ?_;try clear kq
   exact⟨k',CZ _ h1,h2⟩
set_option tactic.hygienic true in
theorem nG{scope sc:Scope}{fv:List Str}(h:iE scope sc fv=true) {x:Str}(hx:(cD scope sc).names.lookup x=some .cell):(x,NameKind.free)∈scope.names:=by
 unfold iE at h
 simp only[Bool.and_eq_true,List.all_eq_true]at h
 have e:(cD scope sc).names=scope.names.map fun(n,k)=>(n,if (k == .free && sc.kind == .function && sc.names.lookup n == some .cell)then NameKind.cell else k):=by
  unfold cD
  dsimp only
  refine List.map_congr_left fun p _=>?_
  refine byC fun kq=>?_
  obtain⟨n,k⟩:=p
  refine kq ?_;try clear kq
  dsimp only
  split<;>rfl
 rw[e]at hx
 refine byC fun kq=>?_
 obtain⟨k,hm,hk⟩:=nv (g:=fun n k=>if (k == .free && sc.kind == .function && sc.names.lookup n == some .cell)then NameKind.cell else k) (fun n k z=>by
  split at z
  ·rename_i hc
   simp only[Bool.and_eq_true,beq_iff_eq]at hc
   exact .inl hc.1.1
  ·exact .inr z) hx
 refine kq ?_;try clear kq
 rcases hk with rfl|rfl
 ·exact hm
 ·have:=h.1.2 _ hm
  cases this

set_option tactic.hygienic true in
theorem gJ{fv:List Str}{x:Str}{v:V}:∀ {m:Fm},(m.filter fun p=>fv.contains p.1).lookup x=some v→x∈fv∧m.lookup x=some v
 | [],h=>by simp at h
 | (n,w)::r,h=>by
  rw[List.filter_cons]at h
  split at h
  ·rename_i hc
   rw[List.lookup_cons]at h ⊢
   cases hb:x == n with
   | true=>
    rw[hb]at h
    cases beq_iff_eq.mp hb
    exact⟨List.contains_iff_mem.mp hc,h⟩
   | false=>rw[hb]at h;exact gJ h
  ·rename_i hc
   refine byC fun kq=>?_
   obtain⟨h1,h2⟩:=gJ h
   refine kq ?_;try clear kq
   refine⟨h1,?_⟩
   rw[List.lookup_cons]
   cases hb:x == n with
   | true=>
    cases beq_iff_eq.mp hb
    exact absurd (List.contains_iff_mem.mpr h1) hc
   | false=>exact h2
noncomputable def oL(cenv:Env) (vs:List (Str × NameKind)):List Value:=vs.flatMap fun(n,k)=>if k == .cell then((cenv.cells.lookup n).map Value.ref).toList else []
noncomputable def qj(scope:Scope):List (Str × NameKind):=scope.names.filter fun(n,k)=>(k == .local || k == .cell) && n != (".0":Str)
noncomputable def yF(use:Option (Value→Sem Unit)) (cenv:Env) (vars:List (Str × NameKind)) (y:Value):Sem Value:=match use with
 | none=>do holding [y] (comprehension.letGo cenv (oL cenv) vars.reverse);pure y
 | some u=>do
  rule "comprehension.stores-exchanged"
  holding (oL cenv vars) (u y)
  comprehension.letGo cenv (oL cenv) (vars.reverse.drop 1++vars.reverse.take 1)
  pure .none
structure CompOut (C:Cx) (l:List Env) (ρ:Rho) (s:Shared) (vars:List (Str × NameKind)) (ρ':Rho) (H':Hp) (s':Shared) (cenv:Env) (mm:Str→Option Value):Prop where
 ev:Ev C l No ρ s ρ' H' s'
 ns:s'.heap.Ns cenv.locals mm
 new:s.heap.objs.size≤cenv.locals
 nm:¬bG ρ' cenv.locals
 hi:C.h0.objs.size≤cenv.locals
 fn:cenv.scope.kind=.function
 kd:∀ x∈vars,x.2=.local→cenv.kindOf x.1=some .local
@[elab_as_elim] theorem CQ{α:Sort _}{P:α→Prop}(a:α) (h:∀ x,x=a→P x):P a:=h a rfl
theorem wg{elt tgt iter ifs scope pos fa ft fe} {A:Around}{cenv:Env}{l:List Env}{mf:Fm}{ρ ρ3:Rho}{H H3:Hp}{s s3:Shared}{E:Value→Shared→Prop}{R:Result→Shared→Prop}{items:List V}{G:Hp→Prop}{P:Nat→Rho→Heap→Prop}{F:Addr→Prop}{I a i fr0}
  (hA:ox C d sc tgt fa) (hT:oz C d sc ifs ft) (hE:bg C d sc elt fe) (st:St C l ρ H s) (T:Itr C A l tgt s.heap.objs.size I F items G P) (hb:Bud d A) (ha:A.frames=some l) (hcs:cenv.scope=sc) (hcf:cenv.frame=fr0) (hL:s.heap.objs.size≤cenv.locals)
  (x3:Ev C l No ρ s ρ3 H3 s3) (frc:FrOk C cenv l mf ρ3 s3.heap) (p3:P 0 ρ3 s3.heap) (pr3:∀ b,F b→¬bG ρ3 b∧b ≠ cenv.locals) (hi3:ρ3[i]? = some (a,a)) (nb:bN G fa ft fe i items mf H3 ≠ .bad)
  (pe:∀ H4,bN G fa ft fe i items mf H3=.exc H4→∀ ρ' e s',Ev C l No ρ s ρ' H4 s'→Fly C fr0 s.heap.objs.size e s'.heap→E (.ref e) s')
  (ro:∀ u H4,bN G fa ft fe i items mf H3=.ok u H4→∀ ρ' m' s',Ev C l No ρ s ρ' H4 s'→FrOk C cenv l m' ρ' s'.heap→ρ'[i]? = some (a,a)→R (.ok .next) s')
  (re:∀ x s' mm,s'.heap.Ns cenv.locals mm→(∀ h' m',h'.Ns cenv.locals m'→Heap.SameBut cenv.locals s'.heap h'→wpAny (model C.prog C.w) A (passOn "comprehension.variables-let-go" x cenv:Sem Value) (fun _ _=>False) E { s' with heap:=h' })→R (.error x) s'):
  codeAny (model C.prog C.w) A (.compStart (.ListComp elt [⟨tgt,iter,ifs,0⟩] scope pos) 0 (.ref I) (.ref a) cenv) R s3:=by
 have post:tB C cenv l i (a,a) ρ s R (bN G fa ft fe i items mf H3):=by
  cases ol:bN G fa ft fe i items mf H3 with
  | bad=>exact nb ol
  | ok u H4=>exact fun ρ' m' s'=>ro u H4 ol ρ' m' s'
  | exc H4=>
   intro ρ' m' e L s' x' fr' hf fly
   refine byC fun kq=>?_
   obtain⟨mm,hn,_⟩:=fr'.loc
   refine kq ?_;try clear kq
   refine re _ s' mm hn fun h' m'' hn' hs'=>?_
   have x4:Ev C l No ρ s ρ' H4 { s' with heap:=h' }:=by
    refine x'.dropL (env:=cenv) (Ev.ownW x'.st rfl fr'.hiL.2 (fr'.nt (.inl rfl)) fr'.hiL.1 (.sameBut hs') ?_ ⟨rfl,rfl,rfl⟩) hL
    refine byC fun kq=>?_
    obtain⟨o',es,ep,g,d',_⟩:=hn'
    refine kq ?_;try clear kq
    exact⟨o',g,fun vs z=>by rw[d']at z;cases z⟩
   have fly4:FlyAt C s.heap.objs.size e (rawInt L) h':=fly.sameBut hs' (by obtain⟨o',es,ep,g,d',_⟩:=hn;exact⟨o',g,fun vs z=>by rw[d']at z;cases z⟩)
   have fly5:=fly4
   refine byC fun kq=>?_
   obtain⟨_,oe,vs,T',oT,ts,_,he',_,hd',h1',_⟩:=fly5
   refine kq ?_;try clear kq
   unfold PySem.passOn
   refine wpAny_bind (wpAny_field he' hd' h1' ?_)
   rw[if_neg (show ¬((Value.ref T' == Value.none)=true) from Bool.false_ne_true)]
   refine wpAny_bind (fM (X:=dA l) fly4 fun h'' y1 k1=>wpAny_throw ?_)
   refine pe H4 ol ρ' e _ (x4.thru (s':={ s' with heap:=h'' }) k1 st.lo ⟨rfl,rfl,rfl⟩) ?_
   rw[hf]at y1
   exact .inr (.inr ⟨L,hcf ▸ hf,y1⟩)
 have loop:=ux (iter:=iter) (scope:=scope) (pos:=pos) st hA hT hE T hb ha hcs hL x3 frc p3 pr3 hi3 post
 exact codeAny_compStart_list loop (T.self 0 ρ3 _ _ _ p3 loop)
theorem nH{elt tgt iter ifs scope pos fv fit fa ft fe} {use:Option (Value→Sem Unit)}{A:Around}{env:Env}{l:List Env}{m:Fm}{ρ:Rho}{H:Hp}{s:Shared}{Q E:Value→Shared→Prop}(hI:jr C d sc iter tgt fit) (hA:ox C d (cD scope sc) tgt fa) (hT:oz C d (cD scope sc) ifs ft) (hE:bg C d (cD scope sc) elt fe)
  (hs:∀ env x,foldedSetIterable iter env x=pure x) (hk:iE scope sc fv=true) (hb:Bud d A) (ha:A.frames=some l) (he:env.scope=sc) (fr:FrOk C env l m ρ s.heap) (st:St C l ρ H s)
  (p:match b7 fv fit fa ft fe m H with
   | .bad=>False
   | .exc H'=>∀ ρ' e s',Ev C l No ρ s ρ' H' s'→Fly C env.frame s.heap.objs.size e s'.heap→E (.ref e) s'
   | .ok v H'=>∀ ρ' y s' cenv mm,CompOut C l ρ s (qj scope) ρ' H' s' cenv mm→RepV ρ' s'.heap v y→wpAny (model C.prog C.w) A (yF use cenv (qj scope) y) Q E s'):
  wpAny (model C.prog C.w) A (comprehension (.ListComp elt [⟨tgt,iter,ifs,0⟩] scope pos) scope env (firstIterPos [⟨tgt,iter,ifs,0⟩] pos) (newList []) (firstAsync [⟨tgt,iter,ifs,0⟩]) (firstIter [⟨tgt,iter,ifs,0⟩] env) use) Q E s:=by
 have hk0:=hk
 unfold iE at hk0
 simp only[Bool.and_eq_true,List.all_eq_true,beq_iff_eq]at hk0
 refine byC fun kq=>?_
 obtain⟨⟨hkind,hnm⟩,hfv⟩:=hk0
 have hcell:∀ x∈scope.names,x.2 ≠ .cell:=fun x hx e=>by have:=hnm x hx;rw[e]at this;cases this
 have hloc:∀ x∈scope.names,x.2=.local→scope.names.lookup x.1=some .local:=fun x hx e=>by
  have:=hnm x hx;rw[e]at this;exact beq_iff_eq.mp this
 have hfree:∀ n,(n,NameKind.free)∈scope.names→env.kindOf n=some .cell:=fun n hn=>by
  have:=hnm _ hn
  dsimp only at this
  unfold Env.kindOf
  rw[he];exact beq_iff_eq.mp this
 obtain⟨cl,hcl,cl1,cl2⟩:=rW (scope:=scope) (env:=env) fun n hn=>fr.celE n (hfree n hn)
 refine kq ?_;try clear kq
 unfold comprehension
 rw[hcl]
 unfold b7 at p
 refine wpAny_bind (wpAny_mono (hI A env l m ρ H s _ E hb ha he fr st ?_) (fun x s1 h1=>wpAny_bind (wpAny_standAt (wpAny_bind (wpAny_of_eq (hs env x) (wpAny_bind (wpAny_holding h1)))))) fun _ _ z=>z)
 cases o:fit m H with
 | bad=>rw[o]at p;exact p.elim
 | exc H1=>rw[o]at p;exact p
 | ok t H1=>
  cases t with
  | mk items G=>
  rw[o]at p
  dsimp only[Out.bind]at p
  intro ρ1 I s1 F P e1 T p0 nm0
  have fr1:=fr.ev st e1
  refine wpAny_standIf (wpAny_bind ?_)
  refine byC fun kq=>?_
  obtain⟨e2,r2⟩:=tN (sl:=#[]) (n:=0) (xs:=[]) (ys:=[]) e1.st .nil
  refine kq ?_;try clear kq
  refine wpAny_newObj_type (wpAny_bind (wpAny_pure (wpAny_bind (wpAny_newFunctionEnv hcell (by intro y hy;simp at hy) (fun h3 hns hsb=>?_) hkind)))) (by show(0:Nat)≤sizeLine;exact Nat.zero_le _)
  have fr2:=fr1.ev e1.st e2
  refine byC fun kq=>?_
  obtain⟨ρ2,hρ2⟩:∃ r,r=ρ1++[(s1.heap.objs.size,s1.heap.objs.size)]:=⟨_,rfl⟩
  rw[← hρ2]at e2 r2 fr2
  obtain⟨H2,hH2⟩:∃ h,h=s1.heap.push ⟨.type "list",none,.seq ([]:List Value).toArray 0,#[]⟩:=⟨_,rfl⟩
  refine kq ?_;try clear kq
  rw[← hH2]at e2 r2 fr2
  replace hns:=hH2 ▸ hns
  replace hsb:=hH2 ▸ hsb
  dsimp only at hns hsb
  have e3:Ev C l No ρ2 { s1 with heap:=H2 } ρ2 (H1++[.list []]) { s1 with heap:=h3,toks:=s1.toks + ([]:List (Str × Value)).length }:=by
   refine Ev.keepNo e2.st ⟨?_,fun b o g _=>⟨o.slots,?_,fun _=>rfl⟩⟩ ⟨rfl,rfl,rfl⟩
   ·show H2.objs.size≤h3.objs.size
    rw[hsb.1,Heap.size_push];omega
   ·exact hsb.extBut _ _ (Nat.ne_of_lt (Heap.lt_size g)) (Heap.get?_push_of_some _ g)
  have fr3:=fr2.ev e2.st e3
  have e13:=e2.trans e3
  have x3:=e1.trans e13
  have hL:s.heap.objs.size≤H2.objs.size:=CX e1.keep.1 e2.keep.1
  have nmL:¬bG ρ2 H2.objs.size:=e2.st.fresh (Nat.le_refl _)
  dsimp (proj:=false) only
  have hrel:relabel scope env=cD scope sc:=sI he
  refine CQ ({ scope:=relabel scope env,locals:=(s1.heap.push ⟨.type "list",none,.seq ([]:List Value).toArray 0,#[]⟩).objs.size,globals:=env.globals,cells:=cl,qual:=env.qual,func:=none,code:=env.code,frame:=env.frame,builtins:=env.builtins }:Env) fun cenv hce=>?_
  have hcl:cenv.locals=H2.objs.size:=by rw[hce,hH2]
  have hcf:cenv.frame=env.frame:=by rw[hce]
  have hcs:cenv.scope=cD scope sc:=by rw[hce];exact hrel
  have hcc:cenv.cells=cl:=by rw[hce]
  have hcn:∀ x,cenv.kindOf x=(relabel scope env).names.lookup x:=fun x=>by rw[hce];rfl
  have hck:cenv.scope.kind=.function:=by rw[hce];exact hkind
  have frc:FrOk C cenv l (m.filter fun p=>fv.contains p.1) ρ2 h3:=by
   have lkf:=fun {x v}=>@gJ fv x v m
   refine⟨hck,by rw[hce];exact fr.glob,by rw[hce];exact fr.bui,by rw[hce];exact fr.top,⟨_,by rw[hcl];exact hns,fun x v hx hk'=>?_⟩,fun x v hx hk'=>?_,fun x c hx=>fr3.celX x c (cl1 x c (hcc ▸ hx)),fun x x' c h h'=>fr.celI x x' c (cl1 x c (hcc ▸ h)) (cl1 x' c (hcc ▸ h')),by rw[hcl];exact⟨CX st.lo hL,nmL⟩,fun x c hx=>fr3.hiC x c (cl1 x c (hcc ▸ hx)),fun x hx=>?_⟩
   ·have:=hfv x (lkf hx).1
    rw[← hrel]at this
    rw[hcn,this]at hk'
    cases hk'
   ·refine byC fun kq=>?_
    obtain⟨hm,hx⟩:=lkf hx
    have hf:=nG hk (hfv x hm)
    obtain⟨c,y,hc,ic,r⟩:=fr3.cel x v hx (.inl (hfree x hf))
    obtain⟨c',hc'⟩:=Option.isSome_iff_exists.mp (cl2 x hf)
    refine kq ?_;try clear kq
    have:=cl1 x c' hc'
    rw[hc]at this
    cases this
    exact⟨c,y,hcc.symm ▸ hc',ic,r⟩
   ·rw[hcc];exact cl2 x (nG hk (by rw[← hrel,← hcn];exact hx))
  have a1:s1.heap.objs.size < H2.objs.size:=by rw[hH2,Heap.size_push];exact Nat.lt_succ_self _
  have p3:P 0 ρ2 h3:=by
   refine T.frame 0 ρ1 ρ2 _ _ p0 (fun b o hF g=>e13.keep.exact g (fun z=>z.elim (nm0 b hF) id) fun z=>?_) fun _ _ r=>r.ev0 e1.st e13
   exact absurd (T.foot 0 ρ1 _ b p0 hF).1 (Nat.not_le.mpr (st.fr_lt z).2)
  have pr3:∀ b,F b→¬bG ρ2 b∧b ≠ cenv.locals:=fun b hF=>by
   refine byC fun kq=>?_
   obtain⟨_,o,g⟩:=T.foot 0 ρ1 _ b p0 hF
   refine kq ?_;try clear kq
   refine⟨e13.nm b (Heap.lt_size g) (nm0 b hF),fun z=>?_⟩
   have:=Heap.lt_size g
   rw[z,hcl]at this
   exact absurd this (Nat.not_lt.mpr (Nat.le_of_lt a1))
  have hi3:ρ2[H1.length]? = some (s1.heap.objs.size,s1.heap.objs.size):=by
   rw[hρ2,← e1.st.rep.len,List.getElem?_append_right (Nat.le_refl _),Nat.sub_self];rfl
  have hv:∀ x∈(scope.names.filter fun x=>(x.2 == .local || x.2 == .cell) && x.1 != (".0":Str)).reverse,x.2=.local→cenv.kindOf x.1=some .local:=fun x hx hl=>by
   rw[hce]
   exact lookup_relabel_local (hloc x (List.mem_filter.mp (List.mem_reverse.mp hx)).1 hl)
  clear hce
  refine wpAny_holding (wpAny_bind (wpAny_attempt (wpAny_holding (wpAny_run (wg (E:=E) (mf:=m.filter fun p=>fv.contains p.1) hA hT hE st T hb ha hcs hcf (by rw[hcl];exact hL) x3 frc p3 pr3 hi3 ?_ ?_ ?_ ?_)))))
  ·intro ol;rw[ol]at p;exact p
  ·intro H4 ol ρ' e s' x fl;rw[ol]at p;exact p ρ' e s' x fl
  ·intro u H4 ol ρ' m' s' x' fr' hi'
   rw[ol]at p
   refine byC fun kq=>?_
   obtain⟨mm,hn,_⟩:=fr'.loc
   refine kq ?_;try clear kq
   have:=p ρ' _ _ cenv mm ⟨x',hn,by rw[hcl];exact hL,fr'.hiL.2,fr'.hiL.1,fr'.kind,fun x hx hl=>hv x (List.mem_reverse.mpr hx) hl⟩ (.ref hi')
   cases use<;>exact this
  ·intro x s' mm hn hr
   exact wpAny_bind (wpAny_holding (wpAny_comp_letGo (cenv:=cenv) hck _ s' mm hv hn fun h' m' hn' hs'=>wpAny_mono (hr h' m' hn' hs') (fun _ _ f=>f.elim) fun _ _ y=>y))
theorem CompOut.drop{l ρ s vars ρ' H' s' cenv mm h' m'} (x:CompOut C l ρ s vars ρ' H' s' cenv mm) (hn:h'.Ns cenv.locals m') (hs:Heap.SameBut cenv.locals s'.heap h'):Ev C l No ρ s ρ' H' { s' with heap:=h' }:=by
 refine x.ev.dropL (env:=cenv) (Ev.ownW x.ev.st rfl x.nm ?_ x.hi (.sameBut hs) ?_ ⟨rfl,rfl,rfl⟩) x.new
 ·refine byC fun kq=>?_
  obtain⟨o',es,ep,g,d',_⟩:=x.ns
  refine kq ?_;try clear kq
  intro o g' hc xs n hd
  rw[g]at g';cases g'
  rw[d']at hd;cases hd
 ·refine byC fun kq=>?_
  obtain⟨o',es,ep,g,d',_⟩:=hn
  refine kq ?_;try clear kq
  exact⟨o',g,fun vs z=>by rw[d']at z;cases z⟩
theorem ve{elt tgt iter ifs scope pos fv fit fa ft fe} (hI:jr C d sc iter tgt fit) (hA:ox C d (cD scope sc) tgt fa) (hT:oz C d (cD scope sc) ifs ft) (hE:bg C d (cD scope sc) elt fe)
  (hs:∀ env x,foldedSetIterable iter env x=pure x) (hk:iE scope sc fv=true):bg C d sc (.ListComp elt [⟨tgt,iter,ifs,0⟩] scope pos) (b7 fv fit fa ft fe):=by
 intro A env l m ρ H s Q E hb ha he fr st p
 rw[eval_ListComp]
 refine nH hI hA hT hE hs hk hb ha he fr st ?_
 cases o:b7 fv fit fa ft fe m H with
 | bad=>rw[o]at p;exact p
 | exc H1=>rw[o]at p;exact p
 | ok v H1=>
  rw[o]at p
  intro ρ' y s' cenv mm x r
  refine wpAny_bind (wpAny_holding (wpAny_comp_letGo x.fn _ s' mm (fun z hz hl=>x.kd z (List.mem_reverse.mp hz) hl) x.ns fun h' m' hn' hs'=>wpAny_pure ?_))
  refine p ρ' y _ (x.drop hn' hs') (r.keep (bt.sameBut hs':bt _ No _ _) (fun b hb _=>?_) (fun _ _ z=>z) fun _ _ z=>z)
  subst hb
  refine byC fun kq=>?_
  obtain⟨o',es,ep,g,d',_⟩:=x.ns
  refine kq ?_;try clear kq
  intro o g' hc xs n hd
  rw[g]at g';cases g'
  rw[d']at hd;cases hd
end

noncomputable def fS(b:Bool) (h:Heap) (a:Addr) (items:Array Value):Prop:=∃ o,h.get? a=some o∧o.cls=.type (cond b "tuple" "list")∧∃ n,o.data=.seq items n
noncomputable def cg(b:Bool) (h:Heap) (I a:Addr) (i:Nat):Prop:=∃ o,h.get? I=some o∧o.cls=.type (cond b "tuple_iterator" "list_iterator")∧o.data=.fields #[.ref a,.int i 0]
theorem fS.at{b h h' a items} (x:fS b h a items) (k:∀ o,h.get? a=some o→h'.get? a=some o):fS b h' a items:=let ⟨o,g,r⟩:=x;⟨o,k o g,r⟩
theorem cg.at{b h h' I a i} (x:cg b h I a i) (k:∀ o,h.get? I=some o→h'.get? I=some o):cg b h' I a i:=let ⟨o,g,r⟩:=x;⟨o,k o g,r⟩

section
variable {prog:Program}{w:World}{A:Around}{E:Value→Shared→Prop}{s:Shared}

theorem jg{b:Bool}{it l:Addr}{i:Nat}{items:Array Value}{x:Value}{Q:Value→Shared→Prop}(hit:cg b s.heap it l i) (hl:fS b s.heap l items) (hx:items[i]? = some x)
  (hQ:∀ h',cg b h' it l (i + 1)→Heap.SameBut it s.heap h'→Q x { s with heap:=h' }):wpAny (model prog w) A (Builtin.SmallTypes.nextOf (.ref it)) Q E s:=by
 cases b with
 | false=>exact wpAny_nextOf_list_item (l:=l) (i:=i) (items:=items) hit hl hx hQ
 | true=>
  have hit':s.heap.IsTupleIter it l i:=hit
  refine byC fun kq=>?_
  obtain⟨o,ho,hc,hd⟩:=id hit'
  obtain⟨ol,hol,_,nl,hdl⟩:=hl
  refine kq ?_;try clear kq
  unfold Builtin.SmallTypes.nextOf
  refine wpAny_bind (wpAny_callSpecial?_slot (name:=CW "__next__") hit'.typeIs F.slot_tuple_iterator_next (wpAny_call_entry F.slot_tuple_iterator_next hit'.typeIs F.entry_tuple_iterator_next ?_ (F.args_tuple_iterator_next_1 _)))
  show wpAny _ _ (field (.ref it) 0 >>= _) _ _ s
  refine wpAny_bind (wpAny_field ho hd (x:=.ref l) rfl ?_)
  show wpAny _ _ (if (Value.ref l == Value.none)=true then _ else _) _ _ s
  rw[if_neg (show ¬((Value.ref l == Value.none)=true) from Bool.false_ne_true)]
  show wpAny _ _ (field (.ref it) 1 >>= _) _ _ s
  refine wpAny_bind (wpAny_field ho hd (x:=.int i 0) rfl ?_)
  show wpAny _ _ (seqItems? (.ref l) >>= _) _ _ s
  refine wpAny_bind (wpAny_seqItems hol hdl ?_)
  simp only[Di,hx]
  refine wpAny_bind (wpAny_setField ho hd (by simp) (wpAny_pure ⟨x,rfl,wpAny_pure (hQ _ ?_ (Heap.SameBut.update ..))⟩))
  exact⟨_,Heap.get?_update_self _ ho (Obj.isFreed_of_fields (Obj.data_mapFields hd _)),(Obj.cls_mapFields ..).trans hc,by rw[Obj.data_mapFields hd];simp[rawInt]⟩

theorem oP{b:Bool}{it l:Addr}{i:Nat}{items:Array Value}{Q:Value→Shared→Prop}(hh:A.handled=none) (hit:cg b s.heap it l i) (hl:fS b s.heap l items) (hx:items[i]? = none)
  (hE:∀ h' e,Heap.ExtBut it s.heap h'→(∃ o,h'.get? e=some o∧o.cls=.type "StopIteration")→E (.ref e) { s with heap:=h' }):wpAny (model prog w) A (Builtin.SmallTypes.nextOf (.ref it)) Q E s:=by
 cases b with
 | false=>exact wpAny_nextOf_list_end (l:=l) (i:=i) (items:=items) hh hit hl hx hE
 | true=>
  have hit':s.heap.IsTupleIter it l i:=hit
  refine byC fun kq=>?_
  obtain⟨o,ho,hc,hd⟩:=id hit'
  obtain⟨ol,hol,_,nl,hdl⟩:=hl
  refine kq ?_;try clear kq
  unfold Builtin.SmallTypes.nextOf
  refine wpAny_bind (wpAny_callSpecial?_slot (name:=CW "__next__") hit'.typeIs F.slot_tuple_iterator_next (wpAny_call_entry F.slot_tuple_iterator_next hit'.typeIs F.entry_tuple_iterator_next ?_ (F.args_tuple_iterator_next_1 _)))
  show wpAny _ _ (field (.ref it) 0 >>= _) _ _ s
  refine wpAny_bind (wpAny_field ho hd (x:=.ref l) rfl ?_)
  show wpAny _ _ (if (Value.ref l == Value.none)=true then _ else _) _ _ s
  rw[if_neg (show ¬((Value.ref l == Value.none)=true) from Bool.false_ne_true)]
  show wpAny _ _ (field (.ref it) 1 >>= _) _ _ s
  refine wpAny_bind (wpAny_field ho hd (x:=.int i 0) rfl ?_)
  show wpAny _ _ (seqItems? (.ref l) >>= _) _ _ s
  refine wpAny_bind (wpAny_seqItems hol hdl ?_)
  simp only[Di,hx]
  refine wpAny_bind (wpAny_rule (wpAny_bind (wpAny_setField ho hd (by simp) ?_)))
  show wpAny _ _ (newExc (.type "StopIteration") [] >>= _) _ _ _
  refine wpAny_bind ?_
  simp only[newExc,newTuple]
  refine wpAny_bind (wpAny_newObj_type ?_ (by size_fits))
  refine wpAny_bind (m:=firstArgMember _ _) (wpAny_of_eq (a:=Value.none) (by first|rfl|(simp only[firstArgMember];rfl)) ?_)
  refine wpAny_newObj_type ?_ (by size_fits)
  simp only[raiseNew]
  refine wpAny_bind (wpAny_handled ?_)
  first|rw[show A.in1.handled=none from hh]|rw[hh]
  refine wpAny_bind (wpAny_pure (wpAny_throw ?_))
  exact hE _ _ (((Heap.SameBut.update ..).extBut.push _).push _) ⟨_,Heap.get?_push_size _ rfl,rfl⟩

theorem tL{b:Bool}{l:Addr}{items:Array Value}{Q:Value→Shared→Prop}(hl:fS b s.heap l items)
  (hQ:Q (.ref s.heap.objs.size) { s with heap:=s.heap.push { cls:=.type (cond b "tuple_iterator" "list_iterator"),data:=.fields #[.ref l,.int 0 0] } }):wpAny (model prog w) A (pyIter (.ref l)) Q E s:=by
 cases b with
 | false=>exact wpAny_pyIter_list (l:=l) (items:=items) hl hQ
 | true=>exact wpAny_pyIter_tuple (t:=l) (items:=items) hl hQ

noncomputable def cx(h:Heap) (z TI TO:Addr) (f0 f1:Value):Prop:=h.get? z=some { cls:=.type "zip",dict:=none,data:=.fields #[f0,f1,.bool false,.ref TI,.ref TO],slots:=#[] }
structure ZApart (z TI TO i1 i2 l1 l2:Addr):Prop where
 TIz:TI ≠ z
 TOz:TO ≠ z
 i1z:i1 ≠ z
 i2z:i2 ≠ z
 TITO:TI ≠ TO
 TIi1:TI ≠ i1
 TIi2:TI ≠ i2
 TOi1:TO ≠ i1
 TOi2:TO ≠ i2
 i12:i1 ≠ i2
 l1z:l1 ≠ z
 l1TO:l1 ≠ TO
 l1i1:l1 ≠ i1
 l1i2:l1 ≠ i2
 l2z:l2 ≠ z
 l2TO:l2 ≠ TO
 l2i1:l2 ≠ i1
 l2i2:l2 ≠ i2

noncomputable def nE(z TO i1 i2:Addr) (h h':Heap):Prop:=∀ c o,c ≠ z→c ≠ TO→c ≠ i1→c ≠ i2→h.get? c=some o→h'.get? c=some o

theorem vW{b1 b2:Bool}{z TI TO i1 i2 l1 l2:Addr}{k1 k2:Nat}{xs ys:Array Value}{x y a b f1:Value}{Q:Value→Shared→Prop}(D:ZApart z TI TO i1 i2 l1 l2)
  (hz:cx s.heap z TI TO .none f1) (hTI:IsPair s.heap TI (.ref i1) (.ref i2)) (hTO:IsPair s.heap TO a b)
  (h1:cg b1 s.heap i1 l1 k1) (h2:cg b2 s.heap i2 l2 k2) (hl1:fS b1 s.heap l1 xs) (hl2:fS b2 s.heap l2 ys) (hx:xs[k1]? = some x) (hy:ys[k2]? = some y)
  (hQ:∀ h',cx h' z TI TO (rawInt s.heap.objs.size) (.bool false)→IsPair h' TO x y→cg b1 h' i1 l1 (k1 + 1)→cg b2 h' i2 l2 (k2 + 1)→IsPair h' s.heap.objs.size x y→h'.objs.size=s.heap.objs.size + 1→
   nE z TO i1 i2 s.heap h'→Q (.ref s.heap.objs.size) { s with heap:=h' }):
  wpAny (model prog w) A (Builtin.«zip.__next__» ⟨[.ref z],[]⟩) (fun fin s'=>∃ v,fin=.done (.ret v)∧Q v s') E s:=by
 unfold cx at hz
 show wpAny _ _ (field (.ref z) 2 >>= _) _ _ _
 refine wpAny_bind (wpAny_field hz rfl (x:=.bool false) rfl ?_)
 show wpAny _ _ (field (.ref z) 3 >>= _) _ _ _
 refine wpAny_bind (wpAny_field hz rfl (x:=.ref TI) rfl ?_)
 refine wpAny_bind (wpAny_seqItems hTI rfl ?_)
 show wpAny _ _ (Builtin.SmallTypes.ownedTupleIsFree (.ref z) >>= _) _ _ _
 refine wpAny_bind ?_
 unfold Builtin.SmallTypes.ownedTupleIsFree
 refine wpAny_bind (wpAny_field hz rfl (x:=.none) rfl (wpAny_pure ?_))
 simp only[if_true]
 refine wpAny_bind (wpAny_rule (wpAny_bind (wpAny_field hz rfl (x:=.ref TO) rfl ?_)))
 refine wpAny_bind (wpAny_setField_rec hz (by simp) fun h₁ hz₁ hs₁=>?_)
 replace hz₁:cx h₁ z TI TO .ellipsis f1:=hz₁
 refine wpAny_bind ?_
 simp only[List.zipIdx_cons,List.zipIdx_nil,List.forIn_cons,List.forIn_nil]
 refine wpAny_bind (wpAny_bind (wpAny_onRaise ?_))
 show wpAny _ _ (Builtin.SmallTypes.nextOf (.ref i1) >>= _) _ _ _
 refine wpAny_bind (jg (h1.at fun o=>hs₁.extBut _ o D.i1z) (hl1.at fun o=>hs₁.extBut _ o D.l1z) hx fun h₂ h1₂ hs₂=>wpAny_pure ?_)
 have hTO₂:IsPair h₂ TO a b:=hs₂.extBut _ _ D.TOi1 (hs₁.extBut _ _ D.TOz hTO)
 refine wpAny_bind (wpAny_seqItems hTO₂ rfl (wpAny_bind (wpAny_updateSeq_pair hTO₂ fun h₃ hTO₃ hs₃=>?_)))
 replace hTO₃:IsPair h₃ TO x b:=hTO₃
 refine wpAny_bind (wpAny_letGo (wpAny_pure ?_))
 refine wpAny_bind (wpAny_bind (wpAny_onRaise ?_))
 show wpAny _ _ (Builtin.SmallTypes.nextOf (.ref i2) >>= _) _ _ _
 refine wpAny_bind (jg (((h2.at fun o=>hs₁.extBut _ o D.i2z).at fun o=>hs₂.extBut _ o D.i12.symm).at fun o=>hs₃.extBut _ o D.TOi2.symm)
  (((hl2.at fun o=>hs₁.extBut _ o D.l2z).at fun o=>hs₂.extBut _ o D.l2i1).at fun o=>hs₃.extBut _ o D.l2TO) hy fun h₄ h2₄ hs₄=>wpAny_pure ?_)
 have hTO₄:IsPair h₄ TO x b:=hs₄.extBut _ _ D.TOi2 hTO₃
 refine wpAny_bind (wpAny_seqItems hTO₄ rfl (wpAny_bind (wpAny_updateSeq_pair hTO₄ fun h₅ hTO₅ hs₅=>?_)))
 replace hTO₅:IsPair h₅ TO x y:=hTO₅
 refine wpAny_bind (wpAny_letGo (wpAny_pure (wpAny_pure ?_)))
 refine wpAny_bind (wpAny_seqItems hTO₅ rfl (wpAny_bind (wpAny_newTuple ?_)))
 have hsz:h₅.objs.size=s.heap.objs.size:=by rw[hs₅.1,hs₄.1,hs₃.1,hs₂.1,hs₁.1]
 have hz₅:cx h₅ z TI TO .ellipsis f1:=hs₅.extBut _ _ D.TOz.symm (hs₄.extBut _ _ D.i2z.symm (hs₃.extBut _ _ D.TOz.symm (hs₂.extBut _ _ D.i1z.symm hz₁)))
 have hk₅:nE z TO i1 i2 s.heap h₅:=fun c o c1 c2 c3 c4 e=>hs₅.extBut _ _ c2 (hs₄.extBut _ _ c4 (hs₃.extBut _ _ c2 (hs₂.extBut _ _ c3 (hs₁.extBut _ _ c1 e))))
 have h1₅:cg b1 h₅ i1 l1 (k1 + 1):=((h1₂.at fun o=>hs₃.extBut _ o D.TOi1.symm).at fun o=>hs₄.extBut _ o D.i12).at fun o=>hs₅.extBut _ o D.TOi1.symm
 have h2₅:cg b2 h₅ i2 l2 (k2 + 1):=h2₄.at fun o=>hs₅.extBut _ o D.TOi2.symm
 have hzlt:z < h₅.objs.size:=Heap.lt_size hz₅
 show wpAny _ _ (Builtin.SmallTypes.ownedTupleHandOut (.ref z) (.ref h₅.objs.size) >>= _) _ _ _
 refine wpAny_bind ?_
 unfold Builtin.SmallTypes.ownedTupleHandOut
 have hz₆:cx (h₅.push { cls:=.type "tuple",data:=.seq #[x,y] }) z TI TO .ellipsis f1:=Heap.get?_push_of_some _ hz₅
 refine wpAny_bind (wpAny_setField_rec hz₆ (by simp) fun h₇ hz₇ hs₇=>?_)
 replace hz₇:cx h₇ z TI TO (rawInt h₅.objs.size) f1:=hz₇
 refine wpAny_setField_rec hz₇ (by simp) fun h₈ hz₈ hs₈=>?_
 replace hz₈:cx h₈ z TI TO (rawInt h₅.objs.size) (.bool false):=hz₈
 have up:∀ c o,c ≠ z→h₅.get? c=some o→h₈.get? c=some o:=fun c o c1 e=>hs₈.extBut _ _ c1 (hs₇.extBut _ _ c1 (Heap.get?_push_of_some _ e))
 have hT₈:IsPair h₈ h₅.objs.size x y:=hs₈.extBut _ _ (Nat.ne_of_gt hzlt) (hs₇.extBut _ _ (Nat.ne_of_gt hzlt) (Heap.get?_push_size _ rfl))
 have hz8:h₈.objs.size=h₅.objs.size + 1:=by rw[hs₈.1,hs₇.1,Heap.size_push]
 rw[hsz]at hz₈ hT₈ hz8
 refine wpAny_pure ⟨_,rfl,?_⟩
 show Q (.ref h₅.objs.size) _
 rw[hsz]
 exact hQ h₈ hz₈ (up _ _ D.TOz hTO₅) (h1₅.at fun o=>up _ o D.i1z) (h2₅.at fun o=>up _ o D.i2z) hT₈ hz8 fun c o c1 c2 c3 c4 e=>up c o c1 (hk₅ c o c1 c2 c3 c4 e)

theorem BN{a:Addr}{o:Obj}{Q:Option Obj→Shared→Prop}(ho:s.heap.get? a=some o) (h:Q (some o) s):wpAny (model prog w) A (loadIfAlive a) Q E s:=by
 have h':Q (s.heap.get? a) s:=by rw[ho];exact h
 exact fun _ _ _=>h'

theorem rL{z TI TO T:Addr}{oT:Obj}{f1:Value}{Q:Bool→Shared→Prop}(hz:cx s.heap z TI TO (rawInt T) f1) (hT:s.heap.get? T=some oT)
  (hQ:∀ h' g1,cx h' z TI TO (rawInt T) g1→Heap.SameBut z s.heap h'→Q false { s with heap:=h' }):wpAny (model prog w) A (Builtin.SmallTypes.ownedTupleIsFree (.ref z)) Q E s:=by
 unfold cx at hz
 unfold Builtin.SmallTypes.ownedTupleIsFree
 refine wpAny_bind (wpAny_field hz rfl (x:=rawInt T) rfl ?_)
 show wpAny _ _ (loadIfAlive ((T:Int).toNat) >>= _) _ _ _
 rw[Di]
 refine wpAny_bind (BN hT ?_)
 simp only[Option.isNone_some,Bool.false_eq_true,if_false]
 refine wpAny_bind (wpAny_field hz rfl (x:=f1) rfl ?_)
 by_cases hf:(f1 != Value.bool true)=true
 ·rw[if_pos hf]
  exact wpAny_bind (wpAny_setField_rec hz (by simp) fun h₁ hz₁ hs₁=>wpAny_pure (hQ h₁ _ hz₁ hs₁))
 ·rw[if_neg hf]
  exact wpAny_pure (hQ s.heap f1 hz (Heap.SameBut.refl ..))

theorem vV{b1 b2:Bool}{z TI TO i1 i2 l1 l2 T:Addr}{oT:Obj}{k1 k2:Nat}{xs ys:Array Value}{x y f1:Value}{Q:Value→Shared→Prop}(D:ZApart z TI TO i1 i2 l1 l2)
  (hz:cx s.heap z TI TO (rawInt T) f1) (hT:s.heap.get? T=some oT) (hTI:IsPair s.heap TI (.ref i1) (.ref i2))
  (h1:cg b1 s.heap i1 l1 k1) (h2:cg b2 s.heap i2 l2 k2) (hl1:fS b1 s.heap l1 xs) (hl2:fS b2 s.heap l2 ys) (hx:xs[k1]? = some x) (hy:ys[k2]? = some y)
  (hQ:∀ h' g1,cx h' z TI TO (rawInt T) g1→cg b1 h' i1 l1 (k1 + 1)→cg b2 h' i2 l2 (k2 + 1)→IsPair h' s.heap.objs.size x y→h'.objs.size=s.heap.objs.size + 1→
   (∀ c o,c ≠ z→c ≠ i1→c ≠ i2→s.heap.get? c=some o→h'.get? c=some o)→Q (.ref s.heap.objs.size) { s with heap:=h' }):
  wpAny (model prog w) A (Builtin.«zip.__next__» ⟨[.ref z],[]⟩) (fun fin s'=>∃ v,fin=.done (.ret v)∧Q v s') E s:=by
 have hz0:=hz
 unfold cx at hz
 show wpAny _ _ (field (.ref z) 2 >>= _) _ _ _
 refine wpAny_bind (wpAny_field hz rfl (x:=.bool false) rfl ?_)
 show wpAny _ _ (field (.ref z) 3 >>= _) _ _ _
 refine wpAny_bind (wpAny_field hz rfl (x:=.ref TI) rfl ?_)
 refine wpAny_bind (wpAny_seqItems hTI rfl ?_)
 show wpAny _ _ (Builtin.SmallTypes.ownedTupleIsFree (.ref z) >>= _) _ _ _
 refine wpAny_bind (rL hz0 hT fun h₁ g1 hz₁ hs₁=>?_)
 simp only[Bool.false_eq_true,if_false]
 refine wpAny_bind ?_
 simp only[← Array.forIn_toList,List.forIn_cons,List.forIn_nil]
 refine wpAny_bind (wpAny_bind (wpAny_holding ?_))
 show wpAny _ _ (Builtin.SmallTypes.nextOf (.ref i1) >>= _) _ _ _
 refine wpAny_bind (jg (h1.at fun o=>hs₁.extBut _ o D.i1z) (hl1.at fun o=>hs₁.extBut _ o D.l1z) hx fun h₂ h1₂ hs₂=>wpAny_pure (wpAny_pure ?_))
 refine wpAny_bind (wpAny_bind (wpAny_holding ?_))
 show wpAny _ _ (Builtin.SmallTypes.nextOf (.ref i2) >>= _) _ _ _
 refine wpAny_bind (jg ((h2.at fun o=>hs₁.extBut _ o D.i2z).at fun o=>hs₂.extBut _ o D.i12.symm) ((hl2.at fun o=>hs₁.extBut _ o D.l2z).at fun o=>hs₂.extBut _ o D.l2i1) hy fun h₃ h2₃ hs₃=>wpAny_pure (wpAny_pure (wpAny_pure ?_)))
 have hsz:h₃.objs.size=s.heap.objs.size:=by rw[hs₃.1,hs₂.1,hs₁.1]
 have hz₃:cx h₃ z TI TO (rawInt T) g1:=hs₃.extBut _ _ D.i2z.symm (hs₂.extBut _ _ D.i1z.symm hz₁)
 refine wpAny_bind (wpAny_newTuple (wpAny_pure ⟨_,rfl,?_⟩) (by show(2:Nat)≤sizeLine;rw[sizeLine_eq];omega))
 show Q (.ref h₃.objs.size) _
 rw[hsz]
 have new:IsPair (h₃.push { cls:=.type "tuple",data:=.seq #[x,y] }) h₃.objs.size x y:=Heap.get?_push_size _ rfl
 rw[hsz]at new
 exact hQ _ g1 (Heap.get?_push_of_some _ hz₃) (h1₂.at fun o e=>Heap.get?_push_of_some _ (hs₃.extBut _ o D.i12 e)) (h2₃.at fun o e=>Heap.get?_push_of_some _ e) new (by rw[Heap.size_push,hsz])
  fun c o c1 c2 c3 e=>Heap.get?_push_of_some _ (hs₃.extBut _ _ c3 (hs₂.extBut _ _ c2 (hs₁.extBut _ _ c1 e)))

theorem Ae{b1 b2:Bool}{z TI TO i1 i2 l1 l2:Addr}{k1 k2:Nat}{xs ys:Array Value}{a b f0 f1:Value}{Q:Fin→Shared→Prop}(hh:A.handled=none) (D:ZApart z TI TO i1 i2 l1 l2)
  (hz:cx s.heap z TI TO f0 f1) (hf:f0=.none∨∃ (T:Addr) (oT:Obj),f0=rawInt T∧s.heap.get? T=some oT) (hTI:IsPair s.heap TI (.ref i1) (.ref i2)) (hTO:IsPair s.heap TO a b)
  (h1:cg b1 s.heap i1 l1 k1) (h2:cg b2 s.heap i2 l2 k2) (hl1:fS b1 s.heap l1 xs) (hl2:fS b2 s.heap l2 ys) (hend:xs[k1]? = none∨ys[k2]? = none)
  (hE:∀ h' e,nE z TO i1 i2 s.heap h'→(∃ a b,IsPair h' TO a b)→(∃ o,h'.get? e=some o∧o.cls=.type "StopIteration")→E (.ref e) { s with heap:=h' }):
  wpAny (model prog w) A (Builtin.«zip.__next__» ⟨[.ref z],[]⟩) Q E s:=by
 have hz0:=hz
 unfold cx at hz
 show wpAny _ _ (field (.ref z) 2 >>= _) _ _ _
 refine wpAny_bind (wpAny_field hz rfl (x:=.bool false) rfl ?_)
 show wpAny _ _ (field (.ref z) 3 >>= _) _ _ _
 refine wpAny_bind (wpAny_field hz rfl (x:=.ref TI) rfl ?_)
 refine wpAny_bind (wpAny_seqItems hTI rfl ?_)
 show wpAny _ _ (Builtin.SmallTypes.ownedTupleIsFree (.ref z) >>= _) _ _ _
 rcases hf with rfl|⟨T,oT,rfl,hT⟩
 ·refine wpAny_bind ?_
  unfold Builtin.SmallTypes.ownedTupleIsFree
  refine wpAny_bind (wpAny_field hz rfl (x:=.none) rfl (wpAny_pure ?_))
  simp only[if_true]
  refine wpAny_bind (wpAny_rule (wpAny_bind (wpAny_field hz rfl (x:=.ref TO) rfl ?_)))
  refine wpAny_bind (wpAny_setField_rec hz (by simp) fun h₁ hz₁ hs₁=>?_)
  replace hz₁:cx h₁ z TI TO .ellipsis f1:=hz₁
  refine wpAny_bind ?_
  simp only[List.zipIdx_cons,List.zipIdx_nil,List.forIn_cons,List.forIn_nil]
  refine wpAny_bind (wpAny_bind (wpAny_onRaise ?_))
  show wpAny _ _ (Builtin.SmallTypes.nextOf (.ref i1) >>= _) _ _ _
  cases hx:xs[k1]? with
  | none=>
   refine wpAny_bind (oP hh (h1.at fun o=>hs₁.extBut _ o D.i1z) (hl1.at fun o=>hs₁.extBut _ o D.l1z) hx fun h₂ e hs₂ he=>?_)
   refine byC fun kq=>?_
   obtain⟨oe,hoe,hce⟩:=he
   refine kq ?_;try clear kq
   have hz₂:cx h₂ z TI TO .ellipsis f1:=hs₂ _ _ D.i1z.symm hz₁
   have hez:e ≠ z:=fun x=>by subst x;unfold cx at hz₂;rw[hz₂]at hoe;cases hoe;simp at hce
   refine wpAny_setField_rec hz₂ (by simp) fun h₃ _ hs₃=>hE h₃ e (fun c o c1 _ c3 _ x=>hs₃.extBut _ _ c1 (hs₂ _ _ c3 (hs₁.extBut _ _ c1 x))) ⟨a,b,hs₃.extBut _ _ D.TOz (hs₂ _ _ D.TOi1 (hs₁.extBut _ _ D.TOz hTO))⟩ ⟨oe,hs₃.extBut _ _ hez hoe,hce⟩
  | some x=>
   have hy:ys[k2]? = none:=by rcases hend with h|h;rw[hx]at h;cases h;exact h
   refine wpAny_bind (jg (h1.at fun o=>hs₁.extBut _ o D.i1z) (hl1.at fun o=>hs₁.extBut _ o D.l1z) hx fun h₂ h1₂ hs₂=>wpAny_pure ?_)
   have hTO₂:IsPair h₂ TO a b:=hs₂.extBut _ _ D.TOi1 (hs₁.extBut _ _ D.TOz hTO)
   refine wpAny_bind (wpAny_seqItems hTO₂ rfl (wpAny_bind (wpAny_updateSeq_pair hTO₂ fun h₃ hTO₃ hs₃=>?_)))
   replace hTO₃:IsPair h₃ TO x b:=hTO₃
   refine wpAny_bind (wpAny_letGo (wpAny_pure ?_))
   refine wpAny_bind (wpAny_bind (wpAny_onRaise ?_))
   show wpAny _ _ (Builtin.SmallTypes.nextOf (.ref i2) >>= _) _ _ _
   refine wpAny_bind (oP hh (((h2.at fun o=>hs₁.extBut _ o D.i2z).at fun o=>hs₂.extBut _ o D.i12.symm).at fun o=>hs₃.extBut _ o D.TOi2.symm)
    (((hl2.at fun o=>hs₁.extBut _ o D.l2z).at fun o=>hs₂.extBut _ o D.l2i1).at fun o=>hs₃.extBut _ o D.l2TO) hy fun h₄ e hs₄ he=>?_)
   refine byC fun kq=>?_
   obtain⟨oe,hoe,hce⟩:=he
   refine kq ?_;try clear kq
   have hz₄:cx h₄ z TI TO .ellipsis f1:=hs₄ _ _ D.i2z.symm (hs₃.extBut _ _ D.TOz.symm (hs₂.extBut _ _ D.i1z.symm hz₁))
   have hez:e ≠ z:=fun x=>by subst x;unfold cx at hz₄;rw[hz₄]at hoe;cases hoe;simp at hce
   refine wpAny_setField_rec hz₄ (by simp) fun h₅ _ hs₅=>hE h₅ e (fun c o c1 c2 c3 c4 x=>hs₅.extBut _ _ c1 (hs₄ _ _ c4 (hs₃.extBut _ _ c2 (hs₂.extBut _ _ c3 (hs₁.extBut _ _ c1 x))))) ⟨x,b,hs₅.extBut _ _ D.TOz (hs₄ _ _ D.TOi2 hTO₃)⟩ ⟨oe,hs₅.extBut _ _ hez hoe,hce⟩
 ·refine wpAny_bind (rL hz0 hT fun h₁ g1 hz₁ hs₁=>?_)
  simp only[Bool.false_eq_true,if_false]
  refine wpAny_bind ?_
  simp only[← Array.forIn_toList,List.forIn_cons,List.forIn_nil]
  refine wpAny_bind (wpAny_bind (wpAny_holding ?_))
  show wpAny _ _ (Builtin.SmallTypes.nextOf (.ref i1) >>= _) _ _ _
  cases hx:xs[k1]? with
  | none=>
   exact wpAny_bind (oP hh (h1.at fun o=>hs₁.extBut _ o D.i1z) (hl1.at fun o=>hs₁.extBut _ o D.l1z) hx fun h₂ e hs₂ he=>hE h₂ e (fun c o c1 _ c3 _ x=>hs₂ _ _ c3 (hs₁.extBut _ _ c1 x)) ⟨a,b,hs₂ _ _ D.TOi1 (hs₁.extBut _ _ D.TOz hTO)⟩ he)
  | some x=>
   have hy:ys[k2]? = none:=by rcases hend with h|h;rw[hx]at h;cases h;exact h
   refine wpAny_bind (jg (h1.at fun o=>hs₁.extBut _ o D.i1z) (hl1.at fun o=>hs₁.extBut _ o D.l1z) hx fun h₂ h1₂ hs₂=>wpAny_pure (wpAny_pure ?_))
   refine wpAny_bind (wpAny_bind (wpAny_holding ?_))
   show wpAny _ _ (Builtin.SmallTypes.nextOf (.ref i2) >>= _) _ _ _
   exact wpAny_bind (oP hh ((h2.at fun o=>hs₁.extBut _ o D.i2z).at fun o=>hs₂.extBut _ o D.i12.symm) ((hl2.at fun o=>hs₁.extBut _ o D.l2z).at fun o=>hs₂.extBut _ o D.l2i1) hy fun h₃ e hs₃ he=>
    hE h₃ e (fun c o c1 _ c3 c4 x=>hs₃ _ _ c4 (hs₂.extBut _ _ c3 (hs₁.extBut _ _ c1 x))) ⟨a,b,hs₃ _ _ D.TOi2 (hs₂.extBut _ _ D.TOi1 (hs₁.extBut _ _ D.TOz hTO))⟩ he)

theorem jK{z TI TO:Addr}{f0 f1:Value}{Q:Option Value→Shared→Prop}(hz:cx s.heap z TI TO f0 f1)
  (h:∀ A:Around,A.handled=none→wpAny (model prog w) A (Builtin.«zip.__next__» ⟨[.ref z],[]⟩) (fun fin s'=>∃ v,fin=.done (.ret v)∧Q (some v) s') (fun e s'=>∃ a o,e=.ref a∧s'.heap.get? a=some o∧o.cls=.type "StopIteration"∧Q none s') s)
  (hh:A.handled=none):wpAny (model prog w) A (pyNext (.ref z)) Q E s:=by
 have hT:s.TypeIs (.ref z) "zip":=⟨_,hz,rfl⟩
 unfold pyNext
 refine wpAny_bind (wpAny_attempt (wpAny_callSpecial?_slot (name:=CW "__next__") hT F.slot_zip_next
  (wpAny_call_entry F.slot_zip_next hT F.entry_zip_next (wpAny_mono (h _ hh) (fun fin s' z=>?_) fun e s' z=>?_) (F.args_zip_next_1 _))))
 ·refine byC fun kq=>?_
  obtain⟨v,rfl,q⟩:=z
  refine kq ?_;try clear kq
  exact⟨v,rfl,wpAny_pure q⟩
 ·refine byC fun kq=>?_
  obtain⟨a,o,rfl,g,c,q⟩:=z
  refine kq ?_;try clear kq
  exact wpAny_bind (wpAny_isInstance (T:="StopIteration") (b:=true) ⟨o,g,c⟩ isSubtype_stop (wpAny_pure q))
theorem mT{z TI TO:Addr}{f0 f1:Value}{Q:Value→Shared→Prop}(hz:cx s.heap z TI TO f0 f1) (h:Q (.ref z) s):wpAny (model prog w) A (pyIter (.ref z)) Q E s:=by
 have hT:s.TypeIs (.ref z) "zip":=⟨_,hz,rfl⟩
 refine wpAny_pyIter_slot hT F.slot_zip_iter (wpAny_call_entry F.slot_zip_iter hT F.entry_zip_iter ?_ (F.args_zip_iter_1 _))
 show wpAny _ _ (ret (.ref z)) _ _ s
 exact wpAny_pure ⟨_,rfl,"zip",_,hT,F.slot_zip_next.lookup,h⟩
end

theorem fS.push{b:Bool}{h:Heap}{a:Addr}{items:Array Value}(x:fS b h a items) (o:Obj):fS b (h.push o) a items:=x.at fun _ g=>Heap.get?_push_of_some _ g
noncomputable def zK(b:Bool) (l:Addr):Obj:={ cls:=.type (cond b "tuple_iterator" "list_iterator"),data:=.fields #[.ref l,.int 0 0] }
noncomputable def zh1(b1:Bool) (h:Heap) (l1:Addr):Heap:=h.push (zK b1 l1)
noncomputable def zh2(b1 b2:Bool) (h:Heap) (l1 l2:Addr):Heap:=(zh1 b1 h l1).push (zK b2 l2)
noncomputable def zh3(b1 b2:Bool) (h:Heap) (l1 l2:Addr):Heap:=(zh2 b1 b2 h l1 l2).push { cls:=.type "tuple",data:=.seq #[.ref h.objs.size,.ref (zh1 b1 h l1).objs.size] }
noncomputable def zh4(b1 b2:Bool) (h:Heap) (l1 l2:Addr):Heap:=(zh3 b1 b2 h l1 l2).push { cls:=.type "tuple",data:=.seq #[.none,.none] }
noncomputable def zh5(b1 b2:Bool) (h:Heap) (l1 l2:Addr):Heap:=(zh4 b1 b2 h l1 l2).push { cls:=.type "zip",data:=.fields #[.none,.bool false,.bool false,.ref (zh2 b1 b2 h l1 l2).objs.size,.ref (zh3 b1 b2 h l1 l2).objs.size] }

theorem pc(b1 b2:Bool) (l1 l2:Addr) (xs ys:Array Value):
  Meets (Builtin.«zip.__new__» ⟨[.type "zip",.ref l1,.ref l2],[]⟩) (fun _ R s=>fS b1 s.heap l1 xs∧fS b2 s.heap l2 ys∧
   R (.ok (.ret (.ref (zh4 b1 b2 s.heap l1 l2).objs.size))) { s with heap:=zh5 b1 b2 s.heap l1 l2 }):=
 .of_wp fun prog w A R s h=>by
  obtain⟨hp,g,d,tk,os⟩:=s;obtain⟨hl1,hl2,h⟩:=h
  have hsub:=sub_zip
  have hL1:fS b1 (Shared.heap ⟨hp,g,d,tk,os⟩) l1 xs:=hl1
  have hL2:fS b2 (Shared.heap ⟨hp.push { cls:=.type (cond b1 "tuple_iterator" "list_iterator"),data:=.fields #[.ref l1,.int 0 0] },g,d,tk,os⟩) l2 ys:=hl2.push _
  wp_walk using tL hL1,tL hL2
  exact⟨_,rfl,h⟩

section
variable {prog:Program}{w:World}{A:Around}{E:Value→Shared→Prop}{s:Shared}
theorem qb{b1 b2:Bool}{l1 l2:Addr}{xs ys:Array Value}{Q:Value→Shared→Prop}(hl1:fS b1 s.heap l1 xs) (hl2:fS b2 s.heap l2 ys)
  (h:∀ h',cx h' (s.heap.objs.size + 4) (s.heap.objs.size + 2) (s.heap.objs.size + 3) .none (.bool false)→IsPair h' (s.heap.objs.size + 2) (.ref s.heap.objs.size) (.ref (s.heap.objs.size + 1))→
   IsPair h' (s.heap.objs.size + 3) .none .none→cg b1 h' s.heap.objs.size l1 0→cg b2 h' (s.heap.objs.size + 1) l2 0→h'.objs.size=s.heap.objs.size + 5→
   (∀ c o,s.heap.get? c=some o→h'.get? c=some o)→Q (.ref (s.heap.objs.size + 4)) { s with heap:=h' }):
  wpAny (model prog w) A (call (.type "zip") [.ref l1,.ref l2]) Q E s:=by
 refine callType_new F.called_zip (by decide) (F.typeCall_zip_2 _ _) (F.newCall_zip_2 _ _) (fun obj=>F.args_object_init_3 obj _ _) F.entry_zip_new (pc b1 b2 l1 l2 xs ys) ⟨hl1,hl2,?_⟩
 have z1:(zh1 b1 s.heap l1).objs.size=s.heap.objs.size + 1:=Heap.size_push ..
 have z2:(zh2 b1 b2 s.heap l1 l2).objs.size=s.heap.objs.size + 2:=by unfold zh2;rw[Heap.size_push,z1]
 have z3:(zh3 b1 b2 s.heap l1 l2).objs.size=s.heap.objs.size + 3:=by unfold zh3;rw[Heap.size_push,z2]
 have z4:(zh4 b1 b2 s.heap l1 l2).objs.size=s.heap.objs.size + 4:=by unfold zh4;rw[Heap.size_push,z3]
 have z5:(zh5 b1 b2 s.heap l1 l2).objs.size=s.heap.objs.size + 5:=by unfold zh5;rw[Heap.size_push,z4]
 have p:∀ {h:Heap}{c:Addr}{o:Obj}(o':Obj),h.get? c=some o→(h.push o').get? c=some o:=fun o' e=>Heap.get?_push_of_some _ e
 have n:∀ (h:Heap) (o:Obj),o.isFreed=false→(h.push o).get? h.objs.size=some o:=fun h o e=>Heap.get?_push_size _ e
 have g5:(zh5 b1 b2 s.heap l1 l2).get? (zh4 b1 b2 s.heap l1 l2).objs.size=some _:=n _ _ rfl
 have g4:(zh5 b1 b2 s.heap l1 l2).get? (zh3 b1 b2 s.heap l1 l2).objs.size=some _:=p _ (n _ _ rfl)
 have g3:(zh5 b1 b2 s.heap l1 l2).get? (zh2 b1 b2 s.heap l1 l2).objs.size=some _:=p _ (p _ (n _ _ rfl))
 have g2:(zh5 b1 b2 s.heap l1 l2).get? (zh1 b1 s.heap l1).objs.size=some _:=p _ (p _ (p _ (n _ (zK b2 l2) rfl)))
 have g1:(zh5 b1 b2 s.heap l1 l2).get? s.heap.objs.size=some _:=p _ (p _ (p _ (p _ (n _ (zK b1 l1) rfl))))
 show _∧_
 rw[z2,z3,z4]at g5
 rw[z1,z2]at g3
 rw[z3]at g4
 rw[z1]at g2
 rw[z4]
 exact⟨⟨_,g5,rfl⟩,h _ g5 g3 g4 ⟨_,g1,rfl,rfl⟩ ⟨_,g2,rfl,rfl⟩ z5 fun c o x=>p _ (p _ (p _ (p _ (p _ x))))⟩

theorem o7{z TI TO T:Addr}{tgt:Expr}{f0 f1:Value}{Q:Unit→Shared→Prop}(hz:cx s.heap z TI TO f0 f1)
  (q:∀ h' g0,cx h' z TI TO g0 f1→(g0=f0∨g0=.none)→Heap.SameBut z s.heap h'→Q () { s with heap:=h' }):wpAny (model prog w) A (letOwnedTupleGo tgt (.ref z) (.ref T)) Q E s:=by
 have stay:=q s.heap f0 hz (.inl rfl) (Heap.SameBut.refl ..)
 have hz0:=hz
 unfold cx at hz
 have go:wpAny (model prog w) A (do
   let (.ref r,.ref a):=(Value.ref z,Value.ref T)|return
   let o ← load r
   match o.cls,o.data with
   | .type n,.fields vs=>
    if ["enumerate","zip","dict_itemiterator","dict_reverseitemiterator","odict_iterator","itertools.zip_longest","itertools.pairwise"].contains n && vs[0]? == some (rawInt a)then
     rule "for.unpacks-the-owned-tuple"
     updateField r 0 .none
   | _,_=>pure ()) Q E s:=by
  refine wpAny_bind (wpAny_load hz ?_)
  dsimp only
  by_cases hc:((["enumerate","zip","dict_itemiterator","dict_reverseitemiterator","odict_iterator","itertools.zip_longest","itertools.pairwise"]:List String).contains "zip" && (#[f0,f1,.bool false,.ref TI,.ref TO]:Array Value)[0]? == some (rawInt T))=true
  ·rw[if_pos hc]
   refine wpAny_bind (wpAny_rule ?_)
   show wpAny _ _ (setField (.ref z) 0 .none) Q E s
   exact wpAny_setField_rec hz (by simp) fun h' hz' hs'=>q h' .none hz' (.inr rfl) hs'
  ·rw[if_neg hc]
   exact wpAny_pure stay
 unfold letOwnedTupleGo
 cases tgt with
 | Tuple=>exact go
 | List=>exact go
 | _=>exact wpAny_pure stay
end

section
variable {C:Cx}{d:Nat}{sc:Scope}

set_option tactic.hygienic true in
theorem Ev.ofZ{l ρ H} {s s':Shared}{n0 k:Nat}{z TO i1 i2:Addr}{a b a' b':Value}(st:St C l ρ H s) (hl:C.h0.objs.size≤n0) (hk:H[k]? = some .opq) (hp:ρ[k]? = some (TO,TO))
  (fz:FW n0 s.heap z) (f1:FW n0 s.heap i1) (f2:FW n0 s.heap i2) (g:IsPair s.heap TO a b) (g':IsPair s'.heap TO a' b') (zk:nE z TO i1 i2 s.heap s'.heap) (hs:s.heap.objs.size≤s'.heap.objs.size)
  (hr:s'.gens=s.gens∧s'.drawn=s.drawn∧s'.os=s.os):Ev C l (FW n0 s.heap) ρ s ρ H s':=by
 have g1:(s.heap.update TO fun _=>{ cls:=.type "tuple",data:=.seq #[a',b'] }).get? TO=some { cls:=.type "tuple",data:=.seq #[a',b'] }:=Heap.get?_update_self _ g rfl
 have e1:Ev C l (FW n0 s.heap) ρ s ρ (H.set k .opq) { s with heap:=s.heap.update TO fun _=>{ cls:=.type "tuple",data:=.seq #[a',b'] } }:=
  Ev.put st hp (.inl rfl) (.sameBut (Heap.SameBut.update ..)) ⟨rfl,rfl,rfl⟩ ⟨rfl,_,g1,a',b',rfl⟩
 have hset:H.set k .opq=H:=by
  refine List.ext_getElem? fun i=>?_
  rw[List.getElem?_set]
  split
  ·rename_i e
   subst e
   split
   ·exact hk.symm
   ·rename_i hn
    exact absurd (List.getElem?_eq_some_iff.mp hk).1 hn
  ·rfl
 rw[hset]at e1
 have sb:Heap.SameBut TO s.heap (s.heap.update TO fun _=>{ cls:=.type "tuple",data:=.seq #[a',b'] }):=Heap.SameBut.update ..
 have toF:∀ {c},FW n0 (s.heap.update TO fun _=>{ cls:=.type "tuple",data:=.seq #[a',b'] }) c→FW n0 s.heap c:=by
  rintro c ⟨h1,o,vs,go,dd⟩
  by_cases hc:c=TO
  ·subst hc
   rw[g1]at go;cases go;cases dd
  ·exact⟨h1,o,vs,(sb.2 c hc).symm.trans go,dd⟩
 have fromF:∀ {c},FW n0 s.heap c→FW n0 (s.heap.update TO fun _=>{ cls:=.type "tuple",data:=.seq #[a',b'] }) c:=by
  rintro c ⟨h1,o,vs,go,dd⟩
  have hc:c ≠ TO:=by rintro rfl;rw[g]at go;cases go;cases dd
  exact⟨h1,o,vs,sb.extBut _ _ hc go,dd⟩
 refine e1.trans2 (Ev.ofF e1.st (n0:=n0) ⟨?_,fun c o e n=>⟨o.slots,?_,fun _=>rfl⟩⟩ hl hr) fun c _ w=>toF w
 ·exact CX (Nat.le_of_eq sb.1) hs
 ·by_cases hc:c=TO
  ·subst hc
   have e':some _=some _:=g1.symm.trans e
   cases e'
   exact g'
  ·exact zk c o (fun q=>n (fromF (q ▸ fz))) hc (fun q=>n (fromF (q ▸ f1))) (fun q=>n (fromF (q ▸ f2))) ((sb.2 c hc).symm.trans e)
end
section
variable {C:Cx}{d:Nat}{sc:Scope}

noncomputable def sqB:V→Bool
 | .tup _=>true
 | _=>false
theorem og{l ρ H s} {a:V}{y:Value}{xs:List V}(st:St C l ρ H s) (r:RepV ρ s.heap a y) (h:fQ H a=some xs):∃ lo items,y=.ref lo∧fS (sqB a) s.heap lo items∧RepVs ρ s.heap xs items.toList:=by
 revert r
 refine pB a h (fun r=>mV r fun a o items n hm g hc hd rs=>⟨_,_,rfl,⟨_,g,hc,_,hd⟩,rs⟩) fun j ho r=>mU r fun b dd hp=>?_
 refine byC fun kq=>?_
 obtain⟨items,hl,rs,hsz,⟨n,sl,g⟩,_⟩:=dB st ho hp
 refine kq ?_;try clear kq
 exact⟨b,items,rfl,⟨_,g,rfl,n,rfl⟩,rs⟩

inductive zipP (a b:V) (k z TI TO i1 i2 l1 l2:Addr) (i:Nat) (ρ:Rho) (h:Heap):Prop where
 | mk (f0 f1:Value) (hz:cx h z TI TO f0 f1) (hf:f0=.none∨∃ (T:Addr) (vs:List V),f0=rawInt T∧RepV ρ h (.tup vs) (.ref T)) (hTI:IsPair h TI (.ref i1) (.ref i2)) (h1:cg (sqB a) h i1 l1 i) (h2:cg (sqB b) h i2 l2 i) (ra:RepV ρ h a (.ref l1)) (rb:RepV ρ h b (.ref l2)) (rk:RepV ρ h (.ref k) (.ref TO)):zipP a b k z TI TO i1 i2 l1 l2 i ρ h
noncomputable def BL(z TI i1 i2:Addr) (b:Addr):Prop:=b=z∨b=TI∨b=i1∨b=i2
noncomputable def kT(xs ys:List V):List V:=List.zipWith (fun x y=>.tup [x,y]) xs ys
theorem yq{xs ys:List V}{i:Nat}{v:V}(h:(kT xs ys)[i]? = some v):∃ x y,xs[i]? = some x∧ys[i]? = some y∧v=.tup [x,y]:=by
 refine byC fun kq=>?_
 obtain⟨x,y,h1,h2,h3⟩:=List.getElem?_zipWith_eq_some.mp h
 refine kq ?_;try clear kq
 exact⟨x,y,h1,h2,h3.symm⟩
theorem yp{xs ys:List V}:xs[(kT xs ys).length]? = none∨ys[(kT xs ys).length]? = none:=by
 have:(kT xs ys).length=min xs.length ys.length:=by unfold kT;exact List.length_zipWith
 rw[this,List.getElem?_eq_none_iff,List.getElem?_eq_none_iff]
 omega

set_option tactic.hygienic true in
theorem za{A:Around}{l tgt} {a b:V}{xs ys:List V}{k n0:Nat}{z TI TO i1 i2 l1 l2:Addr}(hh:A.handled=none) (hn:C.h0.objs.size≤n0) (D:ZApart z TI TO i1 i2 l1 l2) (h1:n0≤i1) (h2:n0≤i2) (h3:n0≤TI) (h4:n0≤z):
  Itr C A l tgt n0 z (BL z TI i1 i2) (kT xs ys) (fun H=>fQ H a=some xs∧fQ H b=some ys∧H[k]? = some .opq) (zipP a b k z TI TO i1 i2 l1 l2) where
 foot:=by
  rintro i ρ h b ⟨f0,f1,hz,hf,hTI,⟨o1,g1,_⟩,⟨o2,g2,_⟩,_⟩ (rfl|rfl|rfl|rfl)
  ·exact⟨h4,_,hz⟩
  ·exact⟨h3,_,hTI⟩
  ·exact⟨h1,_,g1⟩
  ·exact⟨h2,_,g2⟩
 frame:=by
  rintro i ρ ρ' h h' ⟨f0,f1,hz,hf,hTI,hi1,hi2,ra,rb,rk⟩ kf kr
  exact⟨f0,f1,kf _ _ (.inl rfl) hz,hf.imp id fun⟨T,vs,e,r⟩=>⟨T,vs,e,kr _ _ r⟩,kf _ _ (.inr (.inl rfl)) hTI,hi1.at fun o=>kf _ o (.inr (.inr (.inl rfl))),hi2.at fun o=>kf _ o (.inr (.inr (.inr rfl))),kr _ _ ra,kr _ _ rb,kr _ _ rk⟩
 self:=fun i ρ s Q E x q=>by cases x with|mk f0 f1 hz=>exact mT hz q
 item:=by
  rintro i v ρ H s Q E st ⟨ga,gb,gk⟩ ⟨f0,f1,hz,hf,hTI,hi1,hi2,ra,rb,rk⟩ hv hQ
  refine byC fun KK=>?_
  obtain⟨x,y,hx,hy,rfl⟩:=yq hv
  obtain⟨_,it1,e1,sq1,rs1⟩:=og st ra ga
  cases e1
  obtain⟨_,it2,e2,sq2,rs2⟩:=og st rb gb
  cases e2
  obtain⟨xv,hxv,rx⟩:=rs1.get hx
  obtain⟨yv,hyv,ry⟩:=rs2.get hy
  rw[Array.getElem?_toList]at hxv hyv
  cases rk with
  | ref hp=>
  rename_i dd
  obtain⟨_,hp',hed,o,hg,a0,b0,rfl⟩:=(let ⟨p,hp',r⟩:=st.at gk;⟨p,hp',r⟩:∃ p,ρ[k]? = some p∧im C ρ s.heap .opq p.1 p.2)
  rw[hp]at hp'
  cases hp'
  dsimp only at hed hg
  subst hed
  have fz:FW n0 s.heap z:=⟨h4,_,_,hz,rfl⟩
  have fi1:FW n0 s.heap i1:=by obtain⟨o,g,_,dd⟩:=hi1;exact⟨h1,o,_,g,dd⟩
  have fi2:FW n0 s.heap i2:=by obtain⟨o,g,_,dd⟩:=hi2;exact⟨h2,o,_,g,dd⟩
  have hzlt:z < s.heap.objs.size:=Heap.lt_size hz
  have ltT:∀ {c o},s.heap.get? c=some o→s.heap.objs.size ≠ c:=fun g=>Nat.ne_of_gt (Heap.lt_size g)
  -- what stands after the turn
  have done:∀ (h':Heap) (g0 g1 a1 b1:_),cx h' z TI TO g0 g1→(g0=f0∨g0=.none∨g0=rawInt s.heap.objs.size)→IsPair h' TO a1 b1→cg (sqB a) h' i1 l1 (i + 1)→cg (sqB b) h' i2 l2 (i + 1)→IsPair h' s.heap.objs.size xv yv→
    s.heap.objs.size≤h'.objs.size→nE z TO i1 i2 s.heap h'→Q (.ref s.heap.objs.size) { s with heap:=h' }:=by
   intro h' g0 g1 a1 b1 hz' hg0 hTO' hi1' hi2' hT hsz zk
   have ev:Ev C l (FW n0 s.heap) ρ s ρ H { s with heap:=h' }:=Ev.ofZ st hn gk hp fz fi1 fi2 hg hTO' zk hsz ⟨rfl,rfl,rfl⟩
   have mv:∀ {v y},RepV ρ s.heap v y→RepV ρ h' v y:=fun r=>r.ev st ev fun _ w=>w.nt
   have rT:RepV ρ h' (.tup [x,y]) (.ref s.heap.objs.size):=.tup (st.fresh (Nat.le_refl _)) hT rfl rfl (.cons (mv rx) (.cons (mv ry) .nil))
   refine hQ _ _ ev ⟨g0,g1,hz',?_,zk _ _ D.TIz D.TITO D.TIi1 D.TIi2 hTI,hi1',hi2',mv ra,mv rb,.ref hp⟩ rT
   rcases hg0 with rfl|rfl|rfl
   ·exact hf.imp id fun⟨T,vs,e,r⟩=>⟨T,vs,e,mv r⟩
   ·exact .inl rfl
   ·exact .inr ⟨_,_,rfl,rT⟩
  have go:∀ (h':Heap) (g0 g1 a1 b1:_),cx h' z TI TO g0 g1→(g0=f0∨g0=.none∨g0=rawInt s.heap.objs.size)→IsPair h' TO a1 b1→cg (sqB a) h' i1 l1 (i + 1)→cg (sqB b) h' i2 l2 (i + 1)→IsPair h' s.heap.objs.size xv yv→
    s.heap.objs.size≤h'.objs.size→nE z TO i1 i2 s.heap h'→wpAny (model C.prog C.w) A (letOwnedTupleGo tgt (.ref z) (.ref s.heap.objs.size)) (fun _ s2=>Q (.ref s.heap.objs.size) s2) E { s with heap:=h' }:=by
   intro h' g0 g1 a1 b1 hz' hg0 hTO' hi1' hi2' hT hsz zk
   refine o7 (s:={ s with heap:=h' }) hz' fun h'' g0' hz'' hg sb=>?_
   have sz:h''.objs.size=h'.objs.size:=sb.1
   refine done h'' g0' g1 a1 b1 hz'' ?_ (sb.extBut _ _ D.TOz hTO') (hi1'.at fun o=>sb.extBut _ o D.i1z) (hi2'.at fun o=>sb.extBut _ o D.i2z) (sb.extBut _ _ (ltT hz) hT) (by rw[sz];exact hsz) fun c o c1 c2 c3 c4 e=>sb.extBut _ _ c1 (zk c o c1 c2 c3 c4 e)
   rcases hg with rfl|rfl
   ·exact hg0
   ·exact .inr (.inl rfl)
  rcases hf with rfl|⟨T,vs,rfl,rT⟩
  ·exact KK (jK hz (fun A' hA'=>wpAny_mono (vW D hz hTI hg hi1 hi2 sq1 sq2 hxv hyv fun h' q1 q2 q3 q4 q5 q6 q7=>⟨_,rfl,go h' _ _ _ _ q1 (.inr (.inr rfl)) q2 q3 q4 q5 (by rw[q6];exact Nat.le_succ _) q7⟩) (fun fin s' zz=>zz) fun _ _ zz=>zz) hh)
  ·cases rT with
   | tup hm gT _ _ _=>
    exact KK (jK hz (fun A' hA'=>wpAny_mono (vV D hz gT hTI hi1 hi2 sq1 sq2 hxv hyv fun h' g1 q1 q3 q4 q5 q6 q7=>⟨_,rfl,go h' _ _ _ _ q1 (.inl rfl) (q7 _ _ D.TOz D.TOi1 D.TOi2 hg) q3 q4 q5 (by rw[q6];exact Nat.le_succ _) fun c o c1 _ c3 c4 e=>q7 c o c1 c3 c4 e⟩) (fun fin s' zz=>zz) fun _ _ zz=>zz) hh)
 stop:=by
  rintro ρ H s Q E st ⟨ga,gb,gk⟩ ⟨f0,f1,hz,hf,hTI,hi1,hi2,ra,rb,rk⟩ hQ
  obtain⟨_,it1,e1,sq1,rs1⟩:=og st ra ga
  cases e1
  obtain⟨_,it2,e2,sq2,rs2⟩:=og st rb gb
  cases e2
  cases rk with
  | ref hp=>
  rename_i dd
  obtain⟨_,hp',hed,o,hg,a0,b0,rfl⟩:=(let ⟨p,hp',r⟩:=st.at gk;⟨p,hp',r⟩:∃ p,ρ[k]? = some p∧im C ρ s.heap .opq p.1 p.2)
  rw[hp]at hp'
  cases hp'
  dsimp only at hed hg
  subst hed
  have fz:FW n0 s.heap z:=⟨h4,_,_,hz,rfl⟩
  have fi1:FW n0 s.heap i1:=by obtain⟨o,g,_,dd⟩:=hi1;exact⟨h1,o,_,g,dd⟩
  have fi2:FW n0 s.heap i2:=by obtain⟨o,g,_,dd⟩:=hi2;exact⟨h2,o,_,g,dd⟩
  have hend:it1[(kT xs ys).length]? = none∨it2[(kT xs ys).length]? = none:=by
   have q1:xs.length=it1.size:=rs1.length.trans Array.length_toList
   have q2:ys.length=it2.size:=rs2.length.trans Array.length_toList
   rcases @yp xs ys with h|h
   ·left;rw[List.getElem?_eq_none_iff]at h;rw[Array.getElem?_eq_none_iff];omega
   ·right;rw[List.getElem?_eq_none_iff]at h;rw[Array.getElem?_eq_none_iff];omega
  have hf':f0=.none∨∃ (T:Addr) (oT:Obj),f0=rawInt T∧s.heap.get? T=some oT:=hf.imp id fun⟨T,vs,e,r⟩=>by
   cases r with
   | tup hm gT _ _ _=>exact⟨T,_,e,gT⟩
  refine dE (jK hz (fun A' hA'=>Ae hA' D hz hf' hTI hg hi1 hi2 sq1 sq2 hend fun h' e zk hTO' he=>?_) hh)
  obtain⟨oe,ge,ce⟩:=he
  obtain⟨a1,b1,hTO'⟩:=hTO'
  refine⟨e,oe,rfl,ge,ce,fun hsz=>⟨rfl,hQ _ (Ev.ofZ st hn gk hp fz fi1 fi2 hg hTO' zk hsz ⟨rfl,rfl,rfl⟩)⟩⟩

theorem zap(n l1 l2:Nat) (a1:l1 < n) (a2:l2 < n):ZApart (n + 4) (n + 2) (n + 3) n (n + 1) l1 l2:=by
 have ne:∀ {a b:Nat},a ≠ b→@Ne Addr (n + a) (n + b):=fun h e=>h (Nat.add_left_cancel e)
 have lo:∀ {l:Nat}(k:Nat),l < n→@Ne Addr l (n + k):=fun k h e=>absurd h (Nat.not_lt.mpr (CX (C9 n k) (Nat.le_of_eq e.symm)))
 constructor<;>first|exact ne (by decide)|exact ne (a:=0) (by decide)|exact ne (b:=0) (by decide)|exact lo _ a1|exact lo _ a2|exact lo 0 a1|exact lo 0 a2|exact(lo _ a1).symm|exact(lo _ a2).symm|exact(lo 0 a1).symm|exact(lo 0 a2).symm
theorem Ad(n b:Nat) (h:BL (n + 4) (n + 2) n (n + 1) b):b ≠ n + 3:=by
 have ne:∀ {a b:Nat},a ≠ b→@Ne Addr (n + a) (n + b):=fun h e=>h (Nat.add_left_cancel e)
 rcases h with h|h|h|h<;>rw[h]
 ·exact ne (by decide)
 ·exact ne (by decide)
 ·exact ne (a:=0) (by decide)
 ·exact ne (by decide)
noncomputable def Cq(vs:List V) (H1:Hp):Out It:=match vs with
 | [a,b]=>onO (fQ H1 a) (fun xs=>onO (fQ H1 b) (fun ys=>.ok (.mk (kT xs ys) fun H=>fQ H a=some xs∧fQ H b=some ys∧H[H1.length]? = some .opq) (H1++[.opq])) .bad) .bad
 | _=>.bad
@[elab_as_elim] theorem uO{P:Out It→Prop}{H1:Hp}{G:List V→Prop}(vs:List V) (nb:¬P .bad) (p:P (Cq vs H1))
  (k:∀ a b xs ys,fQ H1 a=some xs→fQ H1 b=some ys→P (.ok (.mk (kT xs ys) fun H=>fQ H a=some xs∧fQ H b=some ys∧H[H1.length]? = some .opq) (H1++[.opq]))→G [a,b]):G vs:=by
 rcases vs with _|⟨a,_|⟨b,_|⟨c,r⟩⟩⟩<;>try exact absurd p nb
 refine byC fun kq=>?_
 obtain⟨xs,hx,p⟩:=bE nb p
 obtain⟨ys,hy,p⟩:=bE nb p
 refine kq ?_;try clear kq
 exact k _ _ _ _ hx hy p
noncomputable def uG(g:Fm→Hp→Out (List V)):Fm→Hp→Out It:=fun m H=>(g m H).bind Cq
theorem vU{l ρ H s} (st:St C l ρ H s) (b:Addr) (hF:BL (s.heap.objs.size + 4) (s.heap.objs.size + 2) s.heap.objs.size (s.heap.objs.size + 1) b) (z:bG (ρ++[(s.heap.objs.size + 3,s.heap.objs.size + 3)]) b):False:=by
 rcases dc.mp z with z|⟨q,hq,z⟩
 ·have:=st.muts_lt z
  rcases hF with rfl|rfl|rfl|rfl<;>first|exact absurd this (Nat.lt_irrefl _)|exact absurd this (Nat.not_lt.mpr (C9 _ _))
 ·rw[List.mem_singleton.mp hq]at z
  have z':b=s.heap.objs.size + 3:=z.elim id id
  exact Ad _ _ hF z'
theorem vo{x np es pos tgt g} (O:C.Ok) (hn:fB C sc x (.type "zip")) (hs:es.all noStar=true) (h:ku C d sc es g):jr C d sc (.Call (.Name x np) es [] pos) tgt (uG g):=by
 refine jN O hn (Looks.of_pure rfl) hs h fun {A env l ρ H s Q E ρ1 H1 s1 vs ys} hb st e1 r1 p=>?_
 revert r1
 refine uO vs (P:=fY C A env l tgt ρ s Q E) id p fun a b xs ys' ga gb p r1=>rs2 r1 fun y y' r r'=>?_
 refine byC fun kq=>?_
 obtain⟨l1,it1,rfl,sq1,rs1⟩:=og e1.st r ga
 obtain⟨l2,it2,rfl,sq2,rs2⟩:=og e1.st r' gb
 refine kq ?_;try clear kq
 have lt1:l1 < s1.heap.objs.size:=by obtain⟨o,g,_⟩:=sq1;exact Heap.lt_size g
 have lt2:l2 < s1.heap.objs.size:=by obtain⟨o,g,_⟩:=sq2;exact Heap.lt_size g
 refine qb sq1 sq2 fun h' q1 q2 q3 q4 q5 q6 q7=>?_
 have e2:Ev C l No ρ1 s1 (ρ1++[(s1.heap.objs.size + 3,s1.heap.objs.size + 3)]) (H1++[.opq]) { s1 with heap:=h' }:=
  Ev.grow e1.st ⟨by show _≤h'.objs.size;omega,fun b o e _=>⟨o.slots,q7 b o e,fun _=>rfl⟩⟩ ⟨rfl,rfl,rfl⟩ ⟨C9 _ _,C9 _ _⟩ ⟨rfl,_,q3,_,_,rfl⟩
 have hs0:=e1.keep.1
 have D:ZApart (s1.heap.objs.size + 4) (s1.heap.objs.size + 2) (s1.heap.objs.size + 3) s1.heap.objs.size (s1.heap.objs.size + 1) l1 l2:=zap _ _ _ lt1 lt2
 refine mT q1 (p _ _ _ _ _ (e1.trans e2) (za hb.2.2 st.lo D hs0 (Nat.le_add_right_of_le hs0) (Nat.le_add_right_of_le hs0) (Nat.le_add_right_of_le hs0)) ⟨.none,.bool false,q1,.inl rfl,q2,q4,q5,r.ev0 e1.st e2,r'.ev0 e1.st e2,.ref (d:=s1.heap.objs.size + 3) ?_⟩ (vU e1.st))
 rw[← e1.st.rep.len];simp
end
section
variable {C:Cx}{d:Nat}{sc:Scope}



end
section
variable {C:Cx}{d:Nat}{sc:Scope}



end
theorem Bud.in1{d:Nat}{A:Around}(b:Bud (d + 1) A):Bud d A.in1:=by
 refine byC fun kq=>?_
 obtain⟨h1,h2,h3⟩:=b
 refine kq ?_;try clear kq
 refine⟨?_,?_,h3⟩
 ·exact Dc (Da (Nat.mul_le_mul_left 2 (Nat.le_succ d)) _) h1
 ·exact Dc (by rw[Nat.mul_succ,Dh,Nat.add_comm 1];exact Da (Da (by decide) _) _) h2
section
variable {C:Cx}{d:Nat}{sc:Scope}

open Classical in


theorem pG{α:Type}{M:Model}{A:Around}{R:Sem α}{Qf:α→Shared→Prop}{Ef:Value→Shared→Prop}{s:Shared}(z:wpAny M A (pure ():Sem Unit) (fun _ s2=>wpAny M A R Qf Ef s2) (fun _ _=>False) s):wpAny M A R Qf Ef s:=by
 show wpAny M A ((pure ():Sem Unit) >>= fun _=>R) Qf Ef s
 exact wpAny_bind (wpAny_mono z (fun _ _ h=>h) fun _ _ h=>h.elim)
theorem Itr.next{α:Type}{A:Around}{l:List Env}{n0:Nat}{I:Addr}{x:Str}{px:Pos}{Fp:Addr→Prop}{items:List V}{G:Hp→Prop}{P:Nat→Rho→Heap→Prop}{i:Nat}{v:V}{ρ:Rho}{H:Hp}{s:Shared}{k:Option Value→Sem α}{Qf:α→Shared→Prop}{E Ef:Value→Shared→Prop}
  (T:Itr C A l (.Name x px) n0 I Fp items G P) (st:St C l ρ H s) (g:G H) (p:P i ρ s.heap) (hv:items[i]? = some v)
  (q:∀ y s',Ev C l (FW n0 s.heap) ρ s ρ H s'→P (i + 1) ρ s'.heap→RepV ρ s'.heap v y→wpAny (model C.prog C.w) A (k (some y)) Qf Ef s'):
  wpAny (model C.prog C.w) A (pyNext (.ref I)) (fun r s1=>wpAny (model C.prog C.w) A (k r) Qf Ef s1) E s:=
 wpAny_mono (T.item i v ρ H s (fun y s'=>wpAny (model C.prog C.w) A (k (some y)) Qf Ef s') (fun _ _=>False) st g p hv q) (fun r s' z=>by obtain⟨y,rfl,z⟩:=z;exact pG z) fun _ _ h=>h.elim
theorem Itr.ends{α:Type}{A:Around}{l:List Env}{tgt:Expr}{n0:Nat}{I:Addr}{Fp:Addr→Prop}{items:List V}{G:Hp→Prop}{P:Nat→Rho→Heap→Prop}{ρ:Rho}{H:Hp}{s:Shared}{k:Option Value→Sem α}{Qf:α→Shared→Prop}{E Ef:Value→Shared→Prop}
  (T:Itr C A l tgt n0 I Fp items G P) (st:St C l ρ H s) (g:G H) (p:P items.length ρ s.heap) (q:∀ s',Ev C l (FW n0 s.heap) ρ s ρ H s'→wpAny (model C.prog C.w) A (k none) Qf Ef s'):
  wpAny (model C.prog C.w) A (pyNext (.ref I)) (fun r s1=>wpAny (model C.prog C.w) A (k r) Qf Ef s1) E s:=
 wpAny_mono (T.stop ρ H s (fun s'=>wpAny (model C.prog C.w) A (k none) Qf Ef s') (fun _ _=>False) st g p q) (fun r s' z=>by obtain⟨rfl,z⟩:=z;exact z) fun _ _ h=>h.elim
theorem Itr.stay{A l tgt n0 I Fp items G P} {i:Nat}{ρ ρ':Rho}{H H':Hp}{s s':Shared}(T:Itr C A l tgt n0 I Fp items G P) (hn:∀ b,dA l b→¬n0≤b) (st:St C l ρ H s) (p:P i ρ s.heap∧∀ b,Fp b→¬bG ρ b) (x:Ev C l No ρ s ρ' H' s'):P i ρ' s'.heap∧∀ b,Fp b→¬bG ρ' b:=
  ⟨T.frame i ρ ρ' _ _ p.1 (fun b o hF g=>x.keep.exact g (fun z=>z.elim (p.2 b hF) id) fun z=>hn b z (T.foot i ρ _ b p.1 hF).1) fun _ _ r=>r.ev0 st x,
   fun b hF=>let ⟨_,o,g⟩:=T.foot i ρ _ b p.1 hF;x.nm b (Heap.lt_size g) (p.2 b hF)⟩


end
section
variable {C:Cx}{d:Nat}{sc:Scope}

noncomputable def pu(sc:Scope) (ps:List Str):Bool:=ps.all (ej sc) && decide ps.Nodup && sc.kind == .function && !sc.isCoroutine && !sc.isGenerator
theorem Bi{a c:Addr}{fd:FuncData}{cls:Value}{dct:Option Addr}{sl:Array (Option Value)}{ps:List Str}{body:List Stmt}{f:FS}{oc:Obj}{vs:Array Value}{t:Tok}(O:C.Ok) (hk:C.K.lookup a=some ⟨cls,dct,.func fd,sl⟩) (hcd:fd.code=.ref c) (hc:C.K.lookup c=some oc) (hv:oc.data=.fields vs)
  (hq:vs[1]? = some (.str fd.qualname t)) (hb:fd.body=.stmts body) (bind:∀ xs:List Value,xs.length=ps.length→bindArgs fd ⟨xs,[]⟩=pure (ps.zip xs)) (hclo:fd.closure=[]) (hg:fd.globals=mainGlobals) (hbu:fd.builtins=builtinsNs) (hok:pu fd.scope ps=true)
  (h:lU C d fd.scope body f):lV C (d + 1) (.ref a) (ci ps f):=by
 unfold pu at hok
 simp only[Bool.and_eq_true,decide_eq_true_eq,beq_iff_eq,Bool.not_eq_true']at hok
 refine byC fun kq=>?_
 obtain⟨⟨⟨⟨h1,h2⟩,h3⟩,h4⟩,h5⟩:=hok
 refine kq ?_;try clear kq
 refine xj O (fd:=fd) (body:=body) ⟨⟨_,O.kin _ _ hk,rfl⟩,⟨c,oc,vs,t,hcd,O.kin _ _ hc,hv,hq⟩,hb,bind,hclo,hg,hbu,h1,h2,h3,h4,h5⟩ h
theorem jJ{α:Type}{n:Nat}:∀ {xs:List α},xs.length=n + 1→∃ a r,xs=a::r∧r.length=n:=fun {xs} e=>by
 cases xs with
 | nil=>cases e
 | cons a r=>exact⟨a,r,rfl,Nat.succ.inj e⟩
theorem wP{α:Type}{xs:List α}(e:xs.length=0):xs=[]:=List.eq_nil_of_length_eq_zero e
theorem pW{fd:FuncData}{p1:Str}(h:∀ a,bindArgs fd ⟨[a],[]⟩=pure [(p1,a)]):∀ xs:List Value,xs.length=[p1].length→bindArgs fd ⟨xs,[]⟩=pure ([p1].zip xs):=fun xs e0=>by
 refine byC fun kq=>?_
 obtain⟨a,r0,rfl,e1⟩:=jJ e0
 refine kq ?_;try clear kq
 cases wP e1
 exact h a
theorem gK{fd:FuncData}{p1 p2:Str}(h:∀ a b,bindArgs fd ⟨[a,b],[]⟩=pure [(p1,a),(p2,b)]):∀ xs:List Value,xs.length=[p1,p2].length→bindArgs fd ⟨xs,[]⟩=pure ([p1,p2].zip xs):=fun xs e0=>by
 refine byC fun kq=>?_
 obtain⟨a,r0,rfl,e1⟩:=jJ e0
 obtain⟨b,r1,rfl,e2⟩:=jJ e1
 refine kq ?_;try clear kq
 cases wP e2
 exact h a b
theorem iA{fd:FuncData}{p1 p2 p3:Str}(h:∀ a b c,bindArgs fd ⟨[a,b,c],[]⟩=pure [(p1,a),(p2,b),(p3,c)]):∀ xs:List Value,xs.length=[p1,p2,p3].length→bindArgs fd ⟨xs,[]⟩=pure ([p1,p2,p3].zip xs):=fun xs e0=>by
 refine byC fun kq=>?_
 obtain⟨a,r0,rfl,e1⟩:=jJ e0
 obtain⟨b,r1,rfl,e2⟩:=jJ e1
 obtain⟨c,r2,rfl,e3⟩:=jJ e2
 refine kq ?_;try clear kq
 cases wP e3
 exact h a b c
theorem tD{fd:FuncData}{p1 p2 p3 p4:Str}(h:∀ a b c e,bindArgs fd ⟨[a,b,c,e],[]⟩=pure [(p1,a),(p2,b),(p3,c),(p4,e)]):∀ xs:List Value,xs.length=[p1,p2,p3,p4].length→bindArgs fd ⟨xs,[]⟩=pure ([p1,p2,p3,p4].zip xs):=fun xs e0=>by
 refine byC fun kq=>?_
 obtain⟨a,r0,rfl,e1⟩:=jJ e0
 obtain⟨b,r1,rfl,e2⟩:=jJ e1
 obtain⟨c,r2,rfl,e3⟩:=jJ e2
 obtain⟨e,r3,rfl,e4⟩:=jJ e3
 refine kq ?_;try clear kq
 cases wP e4
 exact h a b c e
theorem Ai{fd:FuncData}{p1 p2 p3 p4 p5:Str}(h:∀ a b c e f,bindArgs fd ⟨[a,b,c,e,f],[]⟩=pure [(p1,a),(p2,b),(p3,c),(p4,e),(p5,f)]):∀ xs:List Value,xs.length=[p1,p2,p3,p4,p5].length→bindArgs fd ⟨xs,[]⟩=pure ([p1,p2,p3,p4,p5].zip xs):=fun xs e0=>by
 refine byC fun kq=>?_
 obtain⟨a,r0,rfl,e1⟩:=jJ e0
 obtain⟨b,r1,rfl,e2⟩:=jJ e1
 obtain⟨c,r2,rfl,e3⟩:=jJ e2
 obtain⟨e,r3,rfl,e4⟩:=jJ e3
 obtain⟨f,r4,rfl,e5⟩:=jJ e4
 refine kq ?_;try clear kq
 cases wP e5
 exact h a b c e f
end

noncomputable def k6(K:Frag) (x:Str):Option Value:=match K.lookup mainGlobals with
 | some o=>(match o.data with
  | .dict es _=>(es.toList.find? (·.key.isStr x)).map (·.val)
  | _=>none)
 | none=>none
structure Law (K:Frag) (sf:Addr) (C:Cx):Prop where
 O:C.Ok
 eK:C.K=K
 eS:C.sf=sf
 mb:∀ x:Str,x ≠ "__name__"→C.mb x=bootBuiltins x
 glob:∃ o es n,K.lookup mainGlobals=some o∧o.data=.dict es n
 file:C.prog.main.file=CW "/claim/cut.py"
 free:(C.prog.main.scope.names.lookup (CW "super")).isSome=false
section
variable {C:Cx}{d:Nat}{sc:Scope}{K:Frag}{sf:Addr}
theorem Law.mg(X:Law K sf C) (x:Str):C.mg x=k6 K x:=by
 refine byC fun kq=>?_
 obtain⟨o,es,n,hk,hd⟩:=X.glob
 obtain⟨o',es',n',g,hd',sk,f⟩:=X.O.g
 refine kq ?_;try clear kq
 have:=X.O.kin _ _ (X.eK ▸ hk)
 rw[g]at this
 cases this
 rw[hd]at hd'
 cases hd'
 unfold k6
 rw[hk]
 dsimp only
 rw[hd]
 dsimp only
 rw[← f x]
 unfold nsFind findBy
 rw[Array.find?_toList]
theorem Law.look(X:Law K sf C) {a:Addr}{o:Obj}(h:K.lookup a=some o):C.K.lookup a=some o:=X.eK ▸ h
theorem Law.find(X:Law K sf C) {v:Value}{n:Str}{r} (h:findIn K v n=r):findIn C.K v n=r:=X.eK ▸ h
theorem Law.cls(X:Law K sf C) {Kc:Addr}(h1:plainGet K Kc (CW "")=true) (h2:hasDictIn K Kc=true) (h3:plainOver K Kc=true) (h4:findIn K (.ref Kc) "__setattr__"=some (some (.builtin "object.__setattr__"))):ClsOk C Kc:=by
 refine byC fun kq=>?_
 obtain⟨O,rfl,_,_,_,_,_⟩:=X
 refine kq ?_;try clear kq
 exact⟨h1,h2,h3,h4⟩
theorem Law.fn(X:Law K sf C) {x:Str}{f:Value}(hg:eI sc x=true) (h:k6 K x=some f):fB C sc x f:=⟨hg,.inl ((X.mg x).trans h)⟩
theorem Law.bi(X:Law K sf C) {x:Str}{f:Value}(hg:eI sc x=true) (h:k6 K x=none) (hn:x ≠ "__name__") (hb:bootBuiltins x=some f):fB C sc x f:=⟨hg,.inr ⟨(X.mg x).trans h,(X.mb x hn).trans hb⟩⟩
theorem Law.keep(X:Law K sf C) {f:Value}(h:keepIn K f=true):lS C f:=by
 refine byC fun kq=>?_
 obtain⟨O,rfl,_,_,_,_,_⟩:=X
 obtain⟨k,_,l⟩:=looks_keep h O.kin
 refine kq ?_;try clear kq
 exact⟨k,l⟩
theorem Law.exc(X:Law K sf C) {x:Str}(h:k6 K x=some (.ref sf)):C.mg x=some (.ref C.sf):=by rw[X.mg,h,X.eS]
theorem Law.isFn(X:Law K sf C) {f:Value}(h:isFn K f=true):isFn C.K f=true:=X.eK ▸ h
theorem Law.make(X:Law K sf C) {Kc fI:Addr}{F} (hm:makesIn K Kc=true) (hi:findIn K (.ref Kc) "__init__"=some (some (.ref fI))) (hf:typeIn K (.ref fI)=some (.type "function")) (hF:lV C d (.ref fI) F):lV C (d + 1) (.ref Kc) (fj Kc F):=by
 refine byC fun kq=>?_
 obtain⟨O,rfl,_,_,_,_,_⟩:=X
 refine kq ?_;try clear kq
 exact u7 O hm hi hf hF
theorem Law.attr(X:Law K sf C) {e name pos Kc f} (hc:ClsOk C Kc) (hf:findIn K (.ref Kc) name=some none) (h:bg C d sc e f) (hbase:∀ env,attributeBase e name env (eval e env)=eval e env):bg C d sc (.Attribute e name pos) (a9 Kc name f):=by
 refine byC fun kq=>?_
 obtain⟨O,rfl,_,_,_,_,_⟩:=X
 refine kq ?_;try clear kq
 exact u8 O hc hf h hbase
theorem Law.setAttr(X:Law K sf C) {e name pos Kc f} (hc:ClsOk C Kc) (hf:findIn K (.ref Kc) name=some none) (h:bg C d sc e f):lT C d sc (.Attribute e name pos) (a8 Kc name f):=by
 refine byC fun kq=>?_
 obtain⟨O,rfl,_,_,_,_,_⟩:=X
 refine kq ?_;try clear kq
 exact u3 O hc hf h
theorem Law.meth(X:Law K sf C) {o name apos es pos Kc f F fo g} (hc:ClsOk C Kc) (hsim:bg C d sc o fo) (hf:findIn K (.ref Kc) name=some (some (.ref f))) (ht:PySem.W.isFn K (.ref f)=true) (hk:keepIn K (.ref f)=true) (hs:es.all noStar=true) (hF:jS C d (.ref f) F) (h:ku C d sc es g)
  (hbase:∀ env,attributeBase o name env (eval o env)=eval o env) (hfew:decide (es.length < 30)=true) (hline:(apos.endLine == pos.line)=true):bg C d sc (.Call (.Attribute o name apos) es [] pos) (aN (isI Kc name) F fo g):=by
 have hk':=X.keep hk
 refine byC fun kq=>?_
 obtain⟨O,rfl,_,_,_,_,_⟩:=X
 refine kq ?_;try clear kq
 exact n7 hsim (vr O hc hf ht) hk' hs hF h hbase hfew hline
end
section
variable {C:Cx}{K:Frag}{sf:Addr}
theorem Law.raises(X:Law K sf C) {sm fI ce cd:Addr}{fd:FuncData}{p1 p2 p3 p4 p5 p6 p7 p8 p9 pa:Pos}{nm q:Str}{N:Addr}{bs:List Value}{hdct:Bool}{sn:List Str}{sub:List Value}{ab:Bool}{col:Option Bool}{dd:Option Addr}{k0 k1 k2 k3 k5:Option Value}
  {cls cls':Value}{dct dct':Option Addr}{sl sl':Array (Option Value)}{oc oce:Obj}{vs:Array Value}{t t':Tok}{cdm cdf:ClassData}
  (hfI:K.lookup fI=some ⟨cls,dct,.func fd,sl⟩) (first:(fd.params.posonlyargs++fd.params.args).head?.map (·.arg)=some (CW "self"))
  (bind:∀ a b:Value,bindArgs fd ⟨[a,b],[]⟩=pure [(CW "self",a),(CW "what",b)]) (body:fd.body=.stmts (mK p1 p2 p3 p4 p5 p6 p7 p8 p9 pa)) (scope:fd.scope=dl)
  (clo:fd.closure=[(CW "__class__",ce)]) (glob:fd.globals=mainGlobals) (bui:fd.builtins=builtinsNs) (code:fd.code=.ref cd) (hcd:K.lookup cd=some oc) (hv:oc.data=.fields vs) (v1:vs[1]? = some (.str fd.qualname t)) (v2:vs[2]? = some (.str (CW "/claim/cut.py") t'))
  (hce:K.lookup ce=some oce) (hcell:oce.data=.cell (some (.ref sm))) (sup:k6 K (CW "super")=none) (hsm:K.lookup sm=some ⟨cls',dct',.cls cdm,sl'⟩) (hsub:subIn K (.ref sf) (.ref sm)=some true)
  (ne:sf ≠ sm) (hcf:clsIn K sf=some cdf) (hmro:cdf.mro=.ref sf::.ref sm::bC) (hdc:cdf.hasDict=true) (opq:nsIn K cStatics "thirdparty.any"=some none) (subE:subIn K (.ref sf) (.type "Exception")=some true)
  (set:findIn K (.ref sf) "__setattr__"=some (some (.builtin "object.__setattr__"))) (what:findIn K (.ref sf) (CW "what")=some none)
  (hsf:K.lookup sf=some (excClassObj nm q sf N bs (.ref sm::bC) hdct sn sub ab col dd k0 k1 k2 k3 k5 "Exception.__new__")) (init:findIn K (.ref sf) "__init__"=some (some (.ref fI))) (hfn:typeIn K (.ref fI)=some (.type "function"))
  (hline:(p3.endLine == p5.line)=true):RaiseOk C:=by
 refine byC fun kq=>?_
 obtain⟨O,rfl,rfl,hmb,hg,hfile,hfree⟩:=X
 refine kq ?_;try clear kq
 refine⟨sm,fI,ce,cd,fd,CW "/claim/cut.py",p1,p2,p3,p4,p5,p6,p7,p8,p9,pa,nm,q,N,bs,hdct,sn,sub,ab,col,dd,k0,k1,k2,k3,k5,?_,⟨set,what,cdf,hcf,hmro,hdc⟩,⟨hsf,init,hfn⟩,hline⟩
 refine⟨⟨_,O.kin _ _ hfI,rfl⟩,first,bind,body,scope,clo,glob,bui,code,⟨_,vs,t,t',O.kin _ _ hcd,hv,v1,v2⟩,⟨_,O.kin _ _ hce,hcell⟩,hfile,hfree,⟨?_,?_⟩,?_,looks_subIn O.kin hsub,ne,?_,?_,?_,looks_subIn O.kin subE⟩
 ·exact(Law.mg (K:=C.K) (sf:=C.sf) ⟨O,rfl,rfl,hmb,hg,hfile,hfree⟩ _).trans sup
 ·exact(hmb _ (by decide)).trans (by rfl)
 ·intro A Q E s k q
  exact ks_wpAny_isType_cls (k _ _ (O.kin _ _ hsm)) rfl q
 ·exact⟨_,O.kin _ _ hsf,rfl⟩
 ·intro A Q E s k q
  refine wpAny_bind ((looks_clsIn (O.kin) hcf) _ _ _ _ k ?_)
  rw[hmro]
  exact wpAny_pure q
 ·intro x y A Q E s k q
  exact wpAny_bind (looks_opaque O.kin opq _ _ _ _ k (wpAny_pure q))
end
section
variable {C:Cx}{d:Nat}{sc:Scope}
theorem rd{k1 k2 v1 v2 pos g} (h:jT C d sc pos [k1,k2] [v1,v2] g):bg C d sc (.Dict [some k1,some k2] [v1,v2] pos) (eG g):=mY (ks:=[k1,k2]) h ⟨by simp,rfl,by simp⟩ (fun _=>rfl)
theorem rh{k1 k2 k3 k4 v1 v2 v3 v4 pos g} (h:jT C d sc pos [k1,k2,k3,k4] [v1,v2,v3,v4] g):bg C d sc (.Dict [some k1,some k2,some k3,some k4] [v1,v2,v3,v4] pos) (eG g):=mY (ks:=[k1,k2,k3,k4]) h ⟨by simp,rfl,by simp⟩ (fun _=>rfl)
theorem q9{k1 v1 pos g} (h:jT C d sc pos [k1] [v1] g):bg C d sc (.Dict [some k1] [v1] pos) (kG g):=sR (ks:=[k1]) h ⟨by simp,rfl,by simp⟩ (fun _=>rfl)
end
section
variable {C:Cx}{d:Nat}{sc:Scope}

noncomputable def jc(f b:FE):FE:=fun m H=>(f m H).bind fun v H1=>(b m H1).bind fun y H4=>match v,y with
 | .ref i,.int k=>(match H4[i]? with
  | some (.frz _ xs)=>if xs.length≤1000000 then eZ (cut xs none (some k)) H4 else .bad
  | _=>.bad)
 | _,_=>.bad
theorem rj{e hi p pos f b} (h0:bg C d sc e f) (h2:bg C d sc hi b) (hs:∃ b:Bool,∀ o iv,subscripted (.Slice none (some hi) none p) false o iv=operate (if b then [iv,o]else [o,iv]) (getItem o iv)):
  bg C d sc (.Subscript e (.Slice none (some hi) none p) pos) (jc f b):=by
 intro A env l m ρ H s Q E hb ha he fr st' pp
 refine Subscript_ (h0 A env l m ρ H s _ E hb ha he fr st' (aJ.bind pp fun v H1 ρ1 x s1 _ e1 r1 p1=>?_))
 have fr1:=fr.ev st' e1
 refine wpAny_Slice (kO (C:=C) (d:=d) (sc:=sc) A env l m ρ1 H1 s1 _ E hb ha he fr1 e1.st ?_)
 intro ρ2 xa s2 e2 r2
 have fr2:=fr1.ev e1.st e2
 refine n9 h2 A env l m ρ2 H1 s2 _ E hb ha he fr2 e2.st (aJ.bind (p1.shift e2) fun vb H3 ρ3 xb s3 _ e3 r3 p3=>?_)
 have fr3:=fr2.ev e2.st e3
 refine kO (C:=C) (d:=d) (sc:=sc) A env l m ρ3 H3 s3 _ E hb ha he fr3 e3.st ?_
 intro ρ4 xc s4 e4 r4
 have p4:=p3.shift e4
 have q1:=((r1.ev0 e1.st e2).ev0 e2.st e3).ev0 e3.st e4
 have q2:=(r2.ev0 e2.st e3).ev0 e3.st e4
 have q3:=r3.ev0 e3.st e4
 cases v with
 | ref i=>
  cases vb with
  | int k=>
   dsimp only at p4
   cases ho:H3[i]? with
   | none=>rw[ho]at p4;exact p4.elim
   | some ob=>
    rw[ho]at p4
    cases ob with
    | frz o xs=>
     dsimp only at p4
     by_cases hsz:xs.length≤1000000
     ·rw[if_pos hsz]at p4
      refine byC fun kq=>?_
      obtain⟨⟨pa,pd⟩,hp,had,g,items,n,hc,hd,rs⟩:=e4.st.at ho
      refine kq ?_;try clear kq
      cases q1 with
      | ref q1'=>
       rw[q1']at hp
       cases hp
       have hlen:xs.length=items.size:=by rw[rs.length,Array.length_toList]
       let s5:Shared:={ s4 with heap:=s4.heap.push { cls:=.type "slice",data:=.fields #[xa,xb,xc] } }
       have e5:Ev C l No ρ4 s4 ρ4 H3 s5:=Ev.keepNo e4.st (bt.push ..) ⟨rfl,rfl,rfl⟩
       have hl:s5.heap.IsList pa items:=⟨_,Heap.get?_push_of_some _ g,hc,n,hd⟩
       have rs5:RepVs ρ4 s5.heap xs items.toList:=rs.ev0 e4.st e5
       refine byC fun kq=>?_
       obtain⟨bb,hs⟩:=hs
       refine kq ?_;try clear kq
       refine tail_any (s:=s5) hl.typeIs slot_list_getitem.lookup ?_ (hs _ _)
       have p5:=p4.shift e5
       have i1:IsPart xa none:=eU q2 rfl
       have i2:IsPart xb (some k):=eU q3 rfl
       cases r4
       refine wpAny_getItem_list_slice (s:=s5) hl (Heap.IsSliceOf.new ..) i1 i2 .none (by simp) ?_ (by rw[sizeLine_eq];omega)
       rw[slicePick_plain]
       have rc:RepVs ρ4 s5.heap (cut xs none (some k)) ((items.toList.drop ((none:Option Int).elim 0 (clipAt items.size))).take ((some k).elim items.size (clipAt items.size) - (none:Option Int).elim 0 (clipAt items.size))):=by
        unfold cut
        rw[hlen]
        exact(rs5.drop _).take _
       exact(jf (n:=0) p5 e5.st rc).2
     ·rw[if_neg hsz]at p4;exact p4.elim
    | _=>exact p4.elim
  | _=>exact p4.elim
 | _=>exact p4.elim
end

theorem gN(h:Heap) (a b:Addr):(h.update a fun o=>{ o with data:=.freed }).get? b=if b=a then none else h.get? b:=by
 by_cases hb:b=a
 ·subst hb
  rw[if_pos rfl]
  refine byC fun kq=>?_
  obtain⟨objs,l⟩:=h
  refine kq ?_;try clear kq
  show(match (objs.modify b fun o=>{ o with data:=.freed })[b]? with|some ⟨_,_,.freed,_⟩=>none|o=>o)=none
  simp only[Array.getElem?_modify,if_true]
  cases objs[b]?<;>rfl
 ·rw[if_neg hb]
  exact Heap.get?_update_other _ _ (Ne.symm hb)

theorem jR{h:Heap}{a x:Addr}{m:Str→Option Value}{items:Array Value}(hl:h.IsList a items) (n:h.Ns x m):(h.update a fun o=>{ o with data:=.freed }).Ns x m:=by
 refine byC fun kq=>?_
 obtain⟨o,es,ep,g,d,r⟩:=n
 refine kq ?_;try clear kq
 refine⟨o,es,ep,?_,d,r⟩
 rw[gN,if_neg ?_]
 ·exact g
 ·rintro rfl
  refine byC fun kq=>?_
  obtain⟨o',g',_,n,d'⟩:=hl
  refine kq ?_;try clear kq
  rw[g]at g';cases g'
  rw[d]at d';cases d'

theorem lc{ρ:Rho}{h:Heap}:∀ {vs:List Value}{ns:List Int},IntsAre vs ns→RepVs ρ h (ns.map .int) vs
 | _,_,.nil=>.nil
 | _,_,.cons n t r=>.cons (.int n t) (lc r)

noncomputable def wU(p:Addr × Obj):Bool:=match p.2.cls with | .type "list"=>false|_=>true
theorem ph{K:Frag}(h:K.all wU=true) {a:Addr}{o:Obj}(e:K.lookup a=some o):o.cls ≠ .type "list":=by
 induction K with
 | nil=>cases e
 | cons p r ih=>
  rw[List.all_cons,Bool.and_eq_true]at h
  refine byC fun kq=>?_
  obtain⟨b,x⟩:=p
  refine kq ?_;try clear kq
  rw[List.lookup_cons]at e
  split at e
  ·cases e
   intro z
   have:=h.1
   unfold wU at this
   simp only[z]at this
   cases this
  ·exact ih h.2 e

theorem join{K:Frag}{sf fl:Addr}{F:List V→Hp→Out V}{prog:Program}{w:World}{s₁:Shared}{mg mb:Str→Option Value}{a fa:Addr}{vs:List Value}{ns:List Int}{Q E:Value→Shared→Prop}
  (KX:K.In s₁.heap) (Tg:s₁.heap.Ns mainGlobals mg) (Tb:s₁.heap.Ns builtinsNs mb) (Tn:s₁.heap.NoLimit) (Tbu:∀ x:Str,x ≠ "__name__"→mb x=bootBuiltins x)
  (hmg:mg "law"=some (.ref fa)) (hl:s₁.heap.IsList a vs.toArray) (hi:IntsAre vs ns) (hs:(a == sysModules)=false) (nol:K.all wU=true)
  (file:prog.main.file=CW "/claim/cut.py") (free:(prog.main.scope.names.lookup (CW "super")).isSome=false) (hG:∃ o es n,K.lookup mainGlobals=some o∧o.data=.dict es n)
  (hfl:k6 K "law"=some (.ref fl)) (c:∀ C,Law K sf C→lV C 30 (.ref fl) F)
  (plain:∀ o,∃ H',F [.ref 0] [.frz o (ns.map .int)]=.ok (.bool true) H'∧H'[0]? = some (.frz o (ns.map .int)))
  (q:∀ s':Shared,(∀ b o,s₁.heap.get? b=some o→s'.heap.get? b=some o)→s'.os=s₁.os→s'.gens=s₁.gens→Q (.bool true) s'):
  wpAny (model prog w) callerA (call (.ref fa) [.ref a]) Q E s₁:=by
 let h0:Heap:=s₁.heap.update a fun o=>{ o with data:=.freed }
 let C:Cx:=⟨prog,w,K,mg,mb,h0,s₁.gens,s₁.drawn,s₁.os,sf⟩
 have hsz:h0.objs.size=s₁.heap.objs.size:=Heap.size_after_update ..
 have old:∀ b o,h0.get? b=some o→s₁.heap.get? b=some o:=fun b o g=>by
  have:=gN s₁.heap a b
  rw[this]at g
  split at g
  ·cases g
  ·exact g
 refine byC fun kq=>?_
 obtain⟨oa,ga,hc,n,hd⟩:=hl
 refine kq ?_;try clear kq
 have hl':s₁.heap.IsList a vs.toArray:=⟨oa,ga,hc,n,hd⟩
 have kin:K.In h0:=fun b o e=>by
  show(s₁.heap.update a _).get? b=some o
  rw[gN,if_neg ?_]
  ·exact KX b o e
  ·rintro rfl
   have:=KX b o e
   rw[ga]at this;cases this
   exact ph nol e hc
 have O:C.Ok:=⟨kin,jR hl' Tg,jR hl' Tb,let ⟨mc,x,y⟩:=Tn;⟨mc,jR hl' x,y⟩,by
  have:=(jR hl' Tg).lt
  show sysModules < h0.objs.size
  exact Nat.lt_trans (by decide) this⟩
 have X:Law K sf C:=⟨O,rfl,rfl,Tbu,hG,file,free⟩
 have efa:fa=fl:=by
  have:=X.mg "law"
  rw[hfl]at this
  have h2:mg "law"=some (.ref fl):=this
  rw[hmg]at h2
  cases h2;rfl
 subst efa
 have st:St C [] [(a,a)] [.frz oa (ns.map .int)] s₁:=by
  refine⟨old,fun p hp=>?_,Nat.le_of_eq hsz,⟨rfl,rfl,rfl⟩,⟨rfl,fun i o p ho hp=>?_,fun i j p p' hij hp hp'=>?_⟩,trivial,fun b hb=>?_⟩
  ·rw[List.mem_singleton.mp hp]
   have fr:ow h0 a:=⟨by show(s₁.heap.update a _).get? a=none;rw[gN,if_pos rfl],fun e=>by rw[e]at hs;cases hs⟩
   exact⟨fr,fr⟩
  ·cases i with
   | zero=>
    cases ho;cases hp
    exact⟨rfl,ga,vs.toArray,n,hc,hd,by simpa using lc hi⟩
   | succ i=>simp at ho
  ·cases i with
   | zero=>cases j with
    | zero=>exact absurd rfl hij
    | succ j=>simp at hp'
   | succ i=>simp at hp
  ·refine byC fun kq=>?_
   obtain⟨env,he,_⟩:=hb
   refine kq ?_;try clear kq
   cases he
 refine byC fun kq=>?_
 obtain⟨H',ep,e0⟩:=plain oa
 refine kq ?_;try clear kq
 refine(c C X).sim callerA [] [.ref 0] [.ref a] [(a,a)] [.frz oa (ns.map .int)] s₁ Q E ⟨by decide,by decide,rfl⟩ rfl st (.cons (.ref rfl) .nil) ?_
 rw[ep]
 intro ρ' y s' ev r
 cases r
 refine q s' (fun b o g=>?_) (ev.st.rest.2.2) (ev.st.rest.1)
 by_cases hb:b=a
 ·subst hb
  refine byC fun kq=>?_
  obtain⟨p,hp,r0⟩:=ev.st.at e0
  refine kq ?_;try clear kq
  have:=ev.look 0 (b,b) rfl
  rw[this]at hp
  cases hp
  rw[ga]at g;cases g
  exact r0.2.1
 ·refine ev.st.old b o ?_
  show(s₁.heap.update a _).get? b=some o
  rw[gN,if_neg hb];exact g
section
variable {C:Cx}{d:Nat}{sc:Scope}
theorem kc{X:Addr→Prop}{h h':Heap}(hs:h.objs.size≤h'.objs.size) (hk:∀ b o,h.get? b=some o→h'.get? b=some o):bt No X h h':=⟨hs,fun b o g _=>⟨o.slots,hk b o g,fun _=>rfl⟩⟩
theorem im.live{ρ h o a dd} (r:im C ρ h o a dd):(∃ x,h.get? a=some x)∧∃ x,h.get? dd=some x:=by
 cases o with
 | list xs=>obtain⟨rfl,_,_,_,g,_⟩:=r;exact⟨⟨_,g⟩,_,g⟩
 | dictS kvs=>obtain⟨rfl,_,⟨_,_,_,g,_⟩,_⟩:=r;exact⟨⟨_,g⟩,_,g⟩
 | dictI kvs=>obtain⟨rfl,_,⟨_,_,_,g,_⟩,_⟩:=r;exact⟨⟨_,g⟩,_,g⟩
 | dictT kvs=>obtain⟨rfl,_,_,_,_,g,_⟩:=r;exact⟨⟨_,g⟩,_,g⟩
 | opq=>obtain⟨rfl,_,g,_⟩:=r;exact⟨⟨_,g⟩,_,g⟩
 | frz o xs=>obtain⟨rfl,g,_⟩:=r;exact⟨⟨_,g⟩,_,g⟩
 | inst K fs=>obtain⟨⟨_,g⟩,_,_,_,gd,_⟩:=r;exact⟨⟨_,g⟩,_,gd⟩
theorem St.muts_live{l ρ H s} (st:St C l ρ H s) {b:Addr}(m:bG ρ b):∃ o,s.heap.get? b=some o:=by
 refine byC fun kq=>?_
 obtain⟨p,hp,e⟩:=m
 obtain⟨i,hi⟩:=List.getElem?_of_mem hp
 obtain⟨o,_,r⟩:=st.has hi
 refine kq ?_;try clear kq
 rcases e with rfl|rfl
 ·exact r.live.1
 ·exact r.live.2
noncomputable def gW(vs:List V) (H:Hp):Out V:=match vs with
 | [.tup xs]=>.ok (.tup xs) H
 | [.ref i]=>(match H[i]? with
  | some (.list xs)=>if xs.length≤1000000 then .ok (.tup xs) H else .bad
  | _=>.bad)
 | _=>.bad
set_option tactic.hygienic true in
@[elab_as_elim] theorem pU{P:Out V→Prop}{G:List V→Prop}{H:Hp}(vs:List V) (nb:¬P .bad) (p:P (gW vs H))
  (k1:∀ xs:List V,P (.ok (.tup xs) H)→G [.tup xs])
  (k2:∀ (i:Nat) (xs:List V),H[i]? = some (.list xs)→xs.length≤1000000→P (.ok (.tup xs) H)→G [.ref i]):G vs:=by
 rcases vs with _|⟨a,r⟩<;>try exact absurd p nb
 cases a<;>try exact absurd p nb
 all_goals rcases r with _|⟨b,r⟩<;>try exact absurd p nb
 ·exact k1 _ p
 ·rename_i i
  refine byC fun kq=>?_
  obtain⟨xs,ho,p⟩:=cX (o:=H[i]?) (k:=fun xs=>(if xs.length≤1000000 then .ok (.tup xs) H else .bad:Out V)) nb p
  obtain⟨h,p⟩:=br nb p
  refine kq ?_;try clear kq
  exact k2 _ _ ho h p
theorem sW:jS C d (.type "tuple") gW:=by
 intro A l vs xs ρ H s Q E hb ha st r p
 revert r
 refine pU vs (P:=aJ C l none ρ s Q E) id p (fun ys p r=>rs1 r fun x r=>?_) fun i ys ho hl p r=>rs1 r fun x r=>?_
 ·refine mV r fun a o items n hm g hc hd r0=>?_
  exact call_tuple_same ⟨_,g,hc,_,hd⟩ (p ρ _ s (.refl st) (.tup hm g hc hd r0))
 ·refine byC fun kq=>?_
  obtain⟨a,items,n,sl,rfl,g,rs,hp⟩:=dJ st ho r
  refine kq ?_;try clear kq
  have hlen:ys.length=items.size:=by rw[rs.length,Array.length_toList]
  refine dE (call_tuple_list ⟨_,g,rfl,n,rfl⟩ (fun h' hk hs=>?_) (iY (hlen ▸ hl)))
  have e:Ev C l No ρ s ρ H { s with heap:=h'.push { cls:=.type "tuple",data:=.seq items } }:=Ev.keepNo st (kc (h':=h'.push { cls:=.type "tuple",data:=.seq items }) hs fun b o g=>Heap.get?_push_of_some _ (hk b o g)) ⟨rfl,rfl,rfl⟩
  refine p ρ _ _ e (.tup (fun m=>?_) (Heap.get?_push_size _ rfl) rfl rfl (rs.ev0 st e))
  refine byC fun kq=>?_
  obtain⟨o,g'⟩:=st.muts_live m
  refine kq ?_;try clear kq
  exact Nat.lt_irrefl _ (Heap.lt_size (hk _ _ g'))
noncomputable def uo(vs:List V) (H:Hp):Out V:=match vs with
 | [.int a,.int b]=>.ok (.int (if b < a then b else a)) H
 | _=>.bad
@[elab_as_elim] theorem uq{P:Out V→Prop}{G:List V→Prop}{H:Hp}(vs:List V) (nb:¬P .bad) (p:P (uo vs H)) (k:∀ a b:Int,P (.ok (.int (if b < a then b else a)) H)→G [.int a,.int b]):G vs:=by
 rcases vs with _|⟨a,r⟩<;>try exact absurd p nb
 cases a<;>try exact absurd p nb
 rcases r with _|⟨b,r⟩<;>try exact absurd p nb
 cases b<;>try exact absurd p nb
 rcases r with _|⟨c,r⟩<;>try exact absurd p nb
 exact k _ _ p
theorem xz:jS C d (.builtin "min") uo:=by
 intro A l vs xs ρ H s Q E hb ha st r p
 revert r
 refine uq vs (P:=aJ C l none ρ s Q E) id p fun a b p r=>rs2 r fun x y r r'=>fP r fun t=>fP r' fun t'=>?_
 refine dE (min_two_ints hb.2.2 fun h' tk hk hs=>?_)
 have e:Ev C l No ρ s ρ H { s with heap:=h',toks:=tk }:=Ev.keepNo st (kc hs hk) ⟨rfl,rfl,rfl⟩
 by_cases hlt:b < a
 ·rw[if_pos hlt]at p ⊢;exact p ρ _ _ e (.int _ _)
 ·rw[if_neg hlt]at p ⊢;exact p ρ _ _ e (.int _ _)
noncomputable def um(vs:List V) (H:Hp):Out V:=match vs with
 | [.int a,.int b]=>.ok (.int (if b > a then b else a)) H
 | _=>.bad
@[elab_as_elim] theorem un{P:Out V→Prop}{G:List V→Prop}{H:Hp}(vs:List V) (nb:¬P .bad) (p:P (um vs H)) (k:∀ a b:Int,P (.ok (.int (if b > a then b else a)) H)→G [.int a,.int b]):G vs:=by
 rcases vs with _|⟨a,r⟩<;>try exact absurd p nb
 cases a<;>try exact absurd p nb
 rcases r with _|⟨b,r⟩<;>try exact absurd p nb
 cases b<;>try exact absurd p nb
 rcases r with _|⟨c,r⟩<;>try exact absurd p nb
 exact k _ _ p
theorem xy:jS C d (.builtin "max") um:=by
 intro A l vs xs ρ H s Q E hb ha st r p
 revert r
 refine un vs (P:=aJ C l none ρ s Q E) id p fun a b p r=>rs2 r fun x y r r'=>fP r fun t=>fP r' fun t'=>?_
 refine dE (max_two_ints hb.2.2 fun h' tk hk hs=>?_)
 have e:Ev C l No ρ s ρ H { s with heap:=h',toks:=tk }:=Ev.keepNo st (kc hs hk) ⟨rfl,rfl,rfl⟩
 by_cases hlt:b > a
 ·rw[if_pos hlt]at p ⊢;exact p ρ _ _ e (.int _ _)
 ·rw[if_neg hlt]at p ⊢;exact p ρ _ _ e (.int _ _)
end
section
variable {C:Cx}{d:Nat}{sc:Scope}
theorem zr{A:Around}{prog w} {E:Value→Shared→Prop}{s:Shared}{a:Addr}{items:Array Value}{n:Nat}{sl:Array (Option Value)}{i:Int}{u:Tok}{j:Nat}{y:Value}{Q:Value→Shared→Prop}
  (g:s.heap.get? a=some ⟨.type "list",none,.seq items n,sl⟩) (hj:idx items.size i=some j) (hy:items[j]? = some y) (hs1:items.size≤sizeLine)
  (h:∀ h' n',h'.get? a=some ⟨.type "list",none,.seq (items.eraseIdxIfInBounds j) n',sl⟩→Heap.SameBut a s.heap h'→Q y { s with heap:=h' }):
  wpAny (model prog w) A (call (.builtin "list.pop") [.ref a,.int i u]) Q E s:=by
 refine byC fun kq=>?_
 obtain⟨hk,hi1,hi2⟩:=tK hj
 refine kq ?_;try clear kq
 have hfit:Builtin.List.listFitsIndex i=true:=by unfold Builtin.List.listFitsIndex;simp;omega
 refine wpAny_call_entry F.slot_list_pop ⟨_,g,rfl⟩ F.entry_list_pop ?_ (F.args_list_pop_2 _ _)
 have hjs:j < items.size:=(Array.getElem?_eq_some_iff.mp hy).1
 have hsz:(items.eraseIdxIfInBounds j).size=items.size - 1:=by simp[Array.eraseIdxIfInBounds,hjs]
 have e:Obj.mapSeq (fun xs=>xs.eraseIdxIfInBounds j) ⟨.type "list",none,.seq items n,sl⟩=⟨.type "list",none,.seq (items.eraseIdxIfInBounds j) (n + 1),sl⟩:=by
  have:(items.eraseIdxIfInBounds j).size ≠ items.size:=by omega
  simp[Obj.mapSeq,this]
 have hQ:=h (s.heap.update a (Obj.mapSeq fun xs=>xs.eraseIdxIfInBounds j)) (n + 1) (by rw[Heap.get?_update_self _ g (by rw[e];rfl),e]) (Heap.SameBut.update ..)
 refine byC fun kq=>?_
 obtain⟨hp,gn,dr,tk,os⟩:=s
 refine kq ?_;try clear kq
 have hne:¬items.isEmpty=true:=by
  intro he;have:items.size=0:=by simpa using he
  simp[this]at hy
 have hf:¬(!Builtin.List.listFitsIndex i)=true:=by simp[hfit]
 have hl:hp.get? a=some ⟨.type "list",none,.seq items n,sl⟩:=g
 unfold Builtin.«list.pop»
 wp_walk using wpAny_loadPart' hl
 simp only[hk,hy,Option.bind_some,Option.map_some]
 have hz':(items.eraseIdxIfInBounds j).size≤sizeLine + 1:=by omega
 wp_walk using (wpAny_updateSeq hl rfl (hz:=hs1) (_hz':=hz')),wpAny_loadPart' hl
 exact⟨_,rfl,hQ⟩
noncomputable def rU(vs:List V) (H:Hp):Out V:=match vs with
 | [.ref i,.int k]=>onL H[i]? (fun xs=>if xs.length≤1000000 then onO (idx xs.length k) (fun j=>onO xs[j]? (fun x=>.ok x (H.set i (.list (xs.eraseIdx j)))) .bad) .bad else .bad) .bad
 | _=>.bad
@[elab_as_elim] theorem ur{P:Out V→Prop}{G:List V→Prop}{H:Hp}(vs:List V) (nb:¬P .bad) (p:P (rU vs H))
  (k:∀ (i:Nat) (k:Int) (xs:List V) (j:Nat) (x:V),H[i]? = some (.list xs)→xs.length≤1000000→idx xs.length k=some j→xs[j]? = some x→P (.ok x (H.set i (.list (xs.eraseIdx j))))→G [.ref i,.int k]):G vs:=by
 rcases vs with _|⟨a,r⟩<;>try exact absurd p nb
 cases a<;>try exact absurd p nb
 rcases r with _|⟨b,r⟩<;>try exact absurd p nb
 cases b<;>try exact absurd p nb
 rcases r with _|⟨c,r⟩<;>try exact absurd p nb
 refine byC fun kq=>?_
 obtain⟨xs,ho,p⟩:=cX nb p
 obtain⟨h,p⟩:=br nb p
 obtain⟨j,hj,p⟩:=bE nb p
 obtain⟨x,hx,p⟩:=bE nb p
 refine kq ?_;try clear kq
 exact k _ _ _ _ _ ho h hj hx p
theorem RepVs.eraseIdx{ρ h vs xs} (r:RepVs ρ h vs xs):∀ i,RepVs ρ h (vs.eraseIdx i) (xs.eraseIdx i):=by
 refine r.ind (P:=fun vs xs=>∀ i,RepVs ρ h (vs.eraseIdx i) (xs.eraseIdx i)) (fun _=>.nil) fun r rs ih i=>?_
 cases i with
 | zero=>exact rs
 | succ i=>exact .cons r (ih i)
theorem xD:rM C d "pop" isL (.builtin "list.pop"):=by
 intro A l ρ H s i o a pl Q E hb ha st ho hK ⟨dd,hp⟩ q
 cases o with
 | list xs=>
  refine byC fun kq=>?_
  obtain⟨items,hl,rs,hsz,⟨n,sl,g⟩,e⟩:=dB st ho hp
  refine kq ?_;try clear kq
  exact getMethod_list_of F.slot_list_pop F.type_list_pop hl ⟨_,g,rfl⟩ q
 | _=>cases hK
theorem oR(items:Array Value) (j:Nat):(items.eraseIdxIfInBounds j).toList=items.toList.eraseIdx j:=by
 unfold Array.eraseIdxIfInBounds
 by_cases h:j < items.size
 ·rw[dif_pos h,Array.toList_eraseIdx]
 ·rw[dif_neg h,List.eraseIdx_of_length_le (Nat.not_lt.mp h)]
theorem xB:jS C d (.builtin "list.pop") rU:=by
 intro A l vs xs ρ H s Q E hb ha st r p
 revert r
 refine ur vs (P:=aJ C l none ρ s Q E) id p fun i k ys j v ho hl hj hv p r=>rs2 r fun x y r r'=>fP r' fun t=>?_
 refine byC fun kq=>?_
 obtain⟨a,items,n,sl,rfl,g,rs,hp⟩:=dJ st ho r
 have hlen:ys.length=items.size:=by rw[rs.length,Array.length_toList]
 have hm:bG ρ a:=⟨_,List.mem_of_getElem? hp,.inl rfl⟩
 obtain⟨y,hy,ry⟩:=rs.get hv
 refine kq ?_;try clear kq
 rw[Array.getElem?_toList]at hy
 rw[hlen]at hj
 refine zr g hj hy (iY (hlen ▸ hl)) fun h' n' g' sb=>p ρ _ { s with heap:=h' } ?_ (ry.put sb hm)
 refine Ev.put st hp (.inl rfl) (.sameBut sb) ⟨rfl,rfl,rfl⟩ ⟨rfl,n',_,sl,g',?_⟩
 rw[oR]
 exact(rs.eraseIdx j).put sb hm
theorem su{prog:Program}{w:World}{ρ:Rho}{h:Heap}:∀ {is:List Int}{xs:List Value},RepVs ρ h (is.map .int) xs→IntsAre xs is:=by
 intro is
 induction is with
 | nil=>exact fun r=>rs0 r .nil
 | cons i is ih=>exact fun r=>rsC r fun x ys a b=>fP a fun t=>.cons i _ (ih b)
noncomputable def iz(vs:List V) (H:Hp):Out V:=match vs with
 | [.ref i,.int k]=>onL H[i]? (fun xs=>onO (i3 xs) (fun is=>.ok (.int (is.count k)) H) .bad) .bad
 | _=>.bad
@[elab_as_elim] theorem pT{P:Out V→Prop}{G:List V→Prop}{H:Hp}(vs:List V) (nb:¬P .bad) (p:P (iz vs H))
  (k:∀ (i:Nat) (k:Int) (xs:List V) (is:List Int),H[i]? = some (.list xs)→i3 xs=some is→P (.ok (.int (is.count k)) H)→G [.ref i,.int k]):G vs:=by
 rcases vs with _|⟨a,r⟩<;>try exact absurd p nb
 cases a<;>try exact absurd p nb
 rcases r with _|⟨b,r⟩<;>try exact absurd p nb
 cases b<;>try exact absurd p nb
 rcases r with _|⟨c,r⟩<;>try exact absurd p nb
 refine byC fun kq=>?_
 obtain⟨xs,ho,p⟩:=cX nb p
 obtain⟨j,hj,p⟩:=bE nb p
 refine kq ?_;try clear kq
 exact k _ _ _ _ ho hj p
theorem sX:rM C d "count" isL (.builtin "list.count"):=by
 intro A l ρ H s i o a pl Q E hb ha st ho hK ⟨dd,hp⟩ q
 cases o with
 | list xs=>
  refine byC fun kq=>?_
  obtain⟨items,hl,rs,hsz,⟨n,sl,g⟩,e⟩:=dB st ho hp
  refine kq ?_;try clear kq
  exact getMethod_list_of F.slot_list_count F.type_list_count hl ⟨_,g,rfl⟩ q
 | _=>cases hK
theorem sV:jS C d (.builtin "list.count") iz:=by
 intro A l vs xs ρ H s Q E hb ha st r p
 revert r
 refine pT vs (P:=aJ C l none ρ s Q E) id p fun i k ys is ho hv p r=>rs2 r fun x y r r'=>fP r' fun t=>?_
 refine byC fun kq=>?_
 obtain⟨a,items,n,sl,rfl,g,rs,hp⟩:=dJ st ho r
 refine kq ?_;try clear kq
 rw[rG hv]at rs
 refine count_list_ints (vs:=items.toList) ⟨_,g,rfl,n,by simp⟩ (su (prog:=C.prog) (w:=C.w) rs) ?_
 exact p ρ _ _ (.tok st) (.int _ _)
noncomputable def lY(vs:List V) (H:Hp):Out V:=match vs with
 | [.tup xs]=>if xs.length≤1000000 then eZ xs H else .bad
 | [.ref i]=>(match H[i]? with
  | some (.list xs)=>if xs.length≤1000000 then eZ xs H else .bad
  | _=>.bad)
 | _=>.bad
theorem qJ{l ρ H s} {fr:Option Addr}{Q E:Value→Shared→Prop}{xs:List V}{items:Array Value}{h':Heap}{n:Nat}(p:aJ C l fr ρ s Q E (eZ xs H)) (st:St C l ρ H s) (rs:RepVs ρ s.heap xs items.toList)
  (hs:s.heap.objs.size≤h'.objs.size) (hk:∀ b o',s.heap.get? b=some o'→h'.get? b=some o') (g:h'.get? s.heap.objs.size=some { cls:=.type "list",dict:=none,data:=.seq items n,slots:=#[] }):Q (.ref s.heap.objs.size) { s with heap:=h' }:=by
 refine byC fun kq=>?_
 obtain⟨_,p⟩:=br (P:=aJ C l fr ρ s Q E) id p
 refine kq ?_;try clear kq
 have k:bt No (dA l) s.heap h':=kc hs hk
 have e0:Ev C l No ρ s ρ H { s with heap:=h' }:=Ev.keepNo st k ⟨rfl,rfl,rfl⟩
 have pre:∀ (i:Nat) (q:Addr × Addr),ρ[i]? = some q→(ρ++[(s.heap.objs.size,s.heap.objs.size)])[i]? = some q:=fun i q hq=>by
  rw[List.getElem?_append_left (List.getElem?_eq_some_iff.mp hq).1];exact hq
 have r:im C (ρ++[(s.heap.objs.size,s.heap.objs.size)]) h' (.list xs) s.heap.objs.size s.heap.objs.size:=by
  refine⟨rfl,n,items,_,g,RepVs.keep k (fun b hb=>hb.elim) pre (fun b hb hn hm=>?_) rs⟩
  rcases dc.mp hm with hm|⟨q,hq,hz⟩
  ·exact hn hm
  ·rw[List.mem_singleton.mp hq]at hz
   rcases hz with rfl|rfl<;>exact Nat.lt_irrefl _ hb
 have e:=Ev.grow (W:=No) (s':={ s with heap:=h' }) st k ⟨rfl,rfl,rfl⟩ ⟨Nat.le_refl _,Nat.le_refl _⟩ r
 refine p _ _ _ e (.ref (d:=s.heap.objs.size) ?_)
 rw[← st.rep.len];simp
set_option tactic.hygienic true in
@[elab_as_elim] theorem rS{P:Out V→Prop}{G:List V→Prop}{H:Hp}(vs:List V) (nb:¬P .bad) (p:P (lY vs H))
  (k1:∀ xs:List V,xs.length≤1000000→P (eZ xs H)→G [.tup xs])
  (k2:∀ (i:Nat) (xs:List V),H[i]? = some (.list xs)→xs.length≤1000000→P (eZ xs H)→G [.ref i]):G vs:=by
 rcases vs with _|⟨a,r⟩<;>try exact absurd p nb
 cases a<;>try exact absurd p nb
 all_goals rcases r with _|⟨b,r⟩<;>try exact absurd p nb
 ·refine byC fun kq=>?_
  obtain⟨h,p⟩:=br nb p
  refine kq ?_;try clear kq
  exact k1 _ h p
 ·rename_i i
  refine byC fun kq=>?_
  obtain⟨xs,ho,p⟩:=cX (o:=H[i]?) (k:=fun xs=>(if xs.length≤1000000 then eZ xs H else .bad:Out V)) nb p
  obtain⟨h,p⟩:=br nb p
  refine kq ?_;try clear kq
  exact k2 _ _ ho h p
theorem vk:jS C d (.type "list") lY:=by
 intro A l vs xs ρ H s Q E hb ha st r p
 revert r
 refine rS vs (P:=aJ C l none ρ s Q E) id p (fun ys hl p r=>rs1 r fun x r=>mV r fun a o items n hm g hc hd r0=>?_) fun i ys ho hl p r=>rs1 r fun x r=>?_
 ·refine byC fun kq=>?_
  obtain⟨a,items,n,sl,rfl,g,rs,hp⟩:=dJ st ho r
  refine kq ?_;try clear kq
  exact dE (call_list_seq _ (.inl rfl) g rfl rfl (fun h' c' hk hg hs=>qJ p st rs hs hk hg) (iY (by rw[← Array.length_toList,← rs.length];exact hl)))
 ·exact dE (call_list_seq _ (.inr rfl) g hc hd (fun h' c' hk hg hs=>qJ p st r0 hs hk hg) (iY (by rw[← Array.length_toList,← r0.length];exact hl)))
noncomputable def lN:V→V→Hp→Out V:=fun v w H=>match v,w with
 | .bool b,.bool true=>.ok (.bool b) H
 | .int _,.bool true=>.ok (.bool false) H
 | _,_=>.bad
theorem rt:gV C d (compareOp .Is) lN:=by
 intro A l v w x y ρ H s Q E hb ha st r1 r2 p
 cases r2 with
 | bool c=>
  cases c with
  | false=>cases r1<;>exact p.elim
  | true=>
   cases r1 with
   | bool b=>exact is_bool (by simpa using p ρ _ s (.refl st) (.bool _))
   | int i t=>exact wpAny_pure (p ρ _ s (.refl st) (.bool _))
   | _=>exact p.elim
 | _=>cases r1<;>exact p.elim
noncomputable def nS:V→V→Hp→Out V:=fun v w H=>match v,w with
 | .int a,.int b=>if a=2∧1≤b∧b≤1000 then .ok (.int (2 ^ b.toNat)) H else if a=2∧b=0 then .ok (.int 1) H else .bad
 | _,_=>.bad
theorem vt:gV C d (binaryOp .Pow) nS:=by
 intro A l v w x y ρ H s Q E hb ha st r1 r2 p
 cases r1 with
 | int a t=>cases r2 with
  | int b u=>
   unfold nS at p
   dsimp only at p
   by_cases h:a=2∧1≤b∧b≤1000
   ·rw[if_pos h]at p
    refine byC fun kq=>?_
    obtain⟨rfl,h1,h2⟩:=h
    refine kq ?_;try clear kq
    refine PySem.AutoIntOps.pow_4 (by omega) (by simp;omega) (by decide) (by decide) ?_ ?_
    ·have:Builtin.Int.intBits 2=2:=by decide
     rw[this]
     unfold Builtin.Int.intTooBig
     rw[bitsLine_eq]
     simp only[decide_eq_true_eq]
     omega
    ·exact p ρ _ _ (.tok st) (.int _ _)
   ·rw[if_neg h]at p
    by_cases h:a=2∧b=0
    ·rw[if_pos h]at p
     refine byC fun kq=>?_
     obtain⟨rfl,rfl⟩:=h
     refine kq ?_;try clear kq
     exact PySem.AutoIntOps.pow_0 (by decide) (by decide) (p ρ _ _ (.tok st) (.int _ _))
    ·rw[if_neg h]at p;exact p.elim
  | _=>exact p.elim
 | _=>cases r2<;>exact p.elim
end
section
variable {C:Cx}{d:Nat}{sc:Scope}
noncomputable def pP(C:Cx) (d:Nat) (sc:Scope) (op:BoolOp) (pos:Pos) (es:List Expr) (f:FE):Prop:=
 ∀ (A:Around) (env:Env) (l:List Env) (m:Fm) (ρ:Rho) (H:Hp) (s:Shared) (Q E:Value→Shared→Prop),
  Bud d A→A.frames=some l→env.scope=sc→FrOk C env l m ρ s.heap→St C l ρ H s→aJ C l env.frame ρ s Q E (f m H)→wpAny (model C.prog C.w) A (boolOp pos op (evalEach es env)) Q E s
theorem u6{op pos e f} (h:bg C d sc e f):pP C d sc op pos [e] f:=by
 intro A env l m ρ H s Q E hb ha he fr st p
 exact h A env l m ρ H s Q E hb ha he fr st p
theorem xh{pos e e2 r f g} (h1:bg C d sc e f) (h2:pP C d sc .Or pos (e2::r) g):pP C d sc .Or pos (e::e2::r) (fOr f g):=by
 intro A env l m ρ H s Q E hb ha he fr st p
 show wpAny _ _ (do
  let v ← eval e env
  standAt pos
  let t ← holding [v] (truthy v)
  match BoolOp.Or,t with
  | .And,false | .Or,true=>pure v
  | _,_=>boolOp pos .Or (evalEach (e2::r) env)) Q E s
 refine wpAny_bind (h1 A env l m ρ H s _ E hb ha he fr st (aJ.bind p fun v H1 ρ1 x s1 _ e1 r1 p1=>wpAny_bind (wpAny_standAt (wpAny_bind (wpAny_holding ?_)))))
 cases r1 with
 | bool b=>
  refine wpAny_truthy_bool ?_
  cases b with
  | true=>exact wpAny_pure (p1 ρ1 _ s1 (.refl e1.st) (.bool _))
  | false=>exact h2 A env l m ρ1 H1 s1 Q E hb ha he (fr.ev st e1) e1.st p1
 | _=>exact p1.elim
theorem zC{op pos es f} (h:pP C d sc op pos es f):bg C d sc (.BoolOp op es pos) f:=by
 intro A env l m ρ H s Q E hb ha he fr st p
 exact h A env l m ρ H s Q E hb ha he fr st p
end
section
variable {C:Cx}{d:Nat}{sc:Scope}
theorem xd{n i:Nat}(h:i < n):((n - 1 - i:Nat):Int)=(n:Int) - 1 - i:=by omega
theorem y9{A l tgt} {j:Nat}{xs:List V}{I a:Addr}{n0:Nat}(hb:Bud d A) (hn:C.h0.objs.size≤n0) (hI:n0≤I):
  Itr C A l tgt n0 I (fun b=>b=I) xs.reverse (fun H=>H[j]? = some (.list xs)) (fun i ρ h=>h.IsRevIter I a ((xs.length:Int) - 1 - i)∧RepV ρ h (.ref j) (.ref a)) where
 foot:=fun i ρ h b ⟨⟨o,g,_⟩,_⟩ hF=>hF ▸ ⟨hI,o,g⟩
 frame:=fun i ρ ρ' h h' ⟨⟨o,g,r⟩,rv⟩ k rk=>⟨⟨o,k I o rfl g,r⟩,rk _ _ rv⟩
 item:=by
  rintro i v ρ H s Q E st hG ⟨it,rv⟩ hv hQ
  cases rv with
  | ref hp=>
   refine byC fun kq=>?_
   obtain⟨items,hl,rs,hsz,_⟩:=dB st hG hp
   have hi:i < xs.length:=by have:=(List.getElem?_eq_some_iff.mp hv).1;simpa using this
   rw[List.getElem?_reverse hi]at hv
   obtain⟨y,hy,ry⟩:=rs.get hv
   refine kq ?_;try clear kq
   have it1:s.heap.IsRevIter I a ((xs.length - 1 - i:Nat):Int):=by
    have:((xs.length - 1 - i:Nat):Int)=(xs.length:Int) - 1 - i:=xd hi
    rw[this];exact it
   refine wpAny_pyNext_rev_item it1 hl (by rw[← Array.getElem?_toList];exact hy) fun h' it' hs=>⟨y,rfl,?_⟩
   refine byC fun kq=>?_
   obtain⟨o,g,hc,hd⟩:=it
   have w:FW n0 s.heap I:=⟨hI,o,_,g,hd⟩
   have k:bt (FW n0 s.heap) (dA l) s.heap h':=dY w (Nat.le_of_eq hs.1.symm) hs.extBut
   have it0:=it'
   obtain⟨o',g',hc',hd'⟩:=it'
   refine kq ?_;try clear kq
   refine gm (s:={ s with heap:=h' }) g' hc' (by decide) ?_
   refine hQ y { s with heap:=h' } (Ev.ofF st k hn ⟨rfl,rfl,rfl⟩) ⟨?_,.ref hp⟩ (ry.keep k (fun _ w _=>w.nt) (fun _ _ z=>z) fun _ _ z=>z)
   have:((xs.length - 1 - i:Nat):Int) - 1=(xs.length:Int) - 1 - (i + 1:Nat):=by rw[xd hi];exact(t8 _ _).symm
   rw[← this];exact it0
 stop:=by
  rintro ρ H s Q E st hG ⟨it,rv⟩ hQ
  cases rv with
  | ref hp=>
   refine dE ?_
   have e:(xs.length:Int) - 1 - (xs.reverse.length:Nat)=-1:=by rw[List.length_reverse];show(xs.length:Int) + -1 + -(xs.length:Int)=-1;rw[Int.add_right_comm,Int.add_right_neg];rfl
   rw[e]at it
   refine wpAny_pyNext_rev_end hb.2.2 it fun h' hs sz=>⟨rfl,?_⟩
   refine byC fun kq=>?_
   obtain⟨o,g,hc,hd⟩:=it
   refine kq ?_;try clear kq
   have w:FW n0 s.heap I:=⟨hI,o,_,g,hd⟩
   exact hQ { s with heap:=h' } (Ev.ofF st (dY w sz hs) hn ⟨rfl,rfl,rfl⟩)
 self:=fun i ρ s Q E p q=>wpAny_pyIter_revIter p.1 q
noncomputable def Cp(vs:List V) (H1:Hp):Out It:=match vs with
 | [.ref j]=>onL H1[j]? (fun xs=>.ok (.mk xs.reverse fun H=>H[j]? = some (.list xs)) H1) .bad
 | _=>.bad
@[elab_as_elim] theorem uN{P:Out It→Prop}{H1:Hp}{G:List V→Prop}(vs:List V) (nb:¬P .bad) (p:P (Cp vs H1)) (k:∀ (j:Nat) xs,H1[j]? = some (.list xs)→P (.ok (.mk xs.reverse fun H=>H[j]? = some (.list xs)) H1)→G [.ref j]):G vs:=by
 rcases vs with _|⟨a,r⟩<;>try exact absurd p nb
 cases a<;>try exact absurd p nb
 rcases r with _|⟨b,r⟩<;>try exact absurd p nb
 refine byC fun kq=>?_
 obtain⟨xs,ho,p⟩:=cX nb p
 refine kq ?_;try clear kq
 exact k _ _ ho p
noncomputable def uF(g:Fm→Hp→Out (List V)):Fm→Hp→Out It:=fun m H=>(g m H).bind Cp
theorem vl{x np es pos tgt g} (O:C.Ok) (hn:fB C sc x (.type "reversed")) (hs:es.all noStar=true) (h:ku C d sc es g):jr C d sc (.Call (.Name x np) es [] pos) tgt (uF g):=by
 refine jN O hn (Looks.of_pure rfl) hs h fun {A env l ρ H s Q E ρ1 H1 s1 vs ys} hb st e1 r1 p=>?_
 revert r1
 refine uN vs (P:=fY C A env l tgt ρ s Q E) id p fun j xs ho p r1=>rs1 r1 fun y r=>mU r fun a dd hp=>?_
 refine byC fun kq=>?_
 obtain⟨items,hl,rs,hsz,_⟩:=dB e1.st ho hp
 refine kq ?_;try clear kq
 refine call_reversed_list hl ?_
 have hit:(s1.heap.push (revObj a ((items.size:Int) - 1))).IsRevIter s1.heap.objs.size a ((xs.length:Int) - 1 - (0:Nat)):=⟨_,Heap.get?_push_size _ rfl,rfl,by rw[hsz];simp[revObj]⟩
 refine wpAny_pyIter_revIter (s:={ s1 with heap:=s1.heap.push (revObj a ((items.size:Int) - 1)) }) hit ?_
 exact p ρ1 _ _ _ _ (e1.trans (Ev.keepNo e1.st (bt.push ..) ⟨rfl,rfl,rfl⟩)) (y9 (j:=j) (a:=a) hb st.lo e1.keep.1) ⟨hit,.ref hp⟩ (fun b hF=>hF ▸ e1.st.fresh (Nat.le_refl _))
end
section
variable {C:Cx}{d:Nat}{sc:Scope}
theorem FrOk.but{env:Env}{l:List Env}{m:Fm}{ρ:Rho}{h h':Heap}{b:Addr}(x:FrOk C env l m ρ h) (hs:Heap.SameBut b h h') (hb:¬c0 env b) (nt:NT h b):FrOk C env l m ρ h':=by
 have k:bt (fun c=>c=b) No h h':=.sameBut hs
 have nt':∀ c,c=b→¬bG ρ c→NT h c:=fun c e _=>e ▸ nt
 have cellK:∀ {y c ov},env.cells.lookup y=some c→h.IsCell c ov→h'.IsCell c ov:=fun {y c ov} hc ⟨o,g,e⟩=>⟨o,(hs.2 c fun z=>hb (.inr ⟨y,z ▸ hc⟩)).trans g,e⟩
 refine⟨x.kind,x.glob,x.bui,x.top,?_,fun y v hv hk=>?_,fun y c hc=>?_,x.celI,x.hiL,x.hiC,x.celE⟩
 ·refine byC fun kq=>?_
  obtain⟨mm,⟨o,es,ep,g,e,kk,f⟩,hm⟩:=x.loc
  refine kq ?_;try clear kq
  exact⟨mm,⟨o,es,ep,(hs.2 _ fun z=>hb (.inl z.symm)).trans g,e,kk,f⟩,fun y v hv hk=>let ⟨z,hz,r⟩:=hm y v hv hk;⟨z,hz,r.keep k nt' (fun _ _ z=>z) (fun _ _ z=>z)⟩⟩
 ·refine byC fun kq=>?_
  obtain⟨c,z,hc,ic,r⟩:=x.cel y v hv hk
  refine kq ?_;try clear kq
  exact⟨c,z,hc,cellK hc ic,r.keep k nt' (fun _ _ z=>z) (fun _ _ z=>z)⟩
 ·refine byC fun kq=>?_
  obtain⟨ov,ic⟩:=x.celX y c hc
  refine kq ?_;try clear kq
  exact⟨ov,cellK hc ic⟩
theorem lH{elt tgt iter ifs scope cpos x px pos fv fit fa ft fe} (hI:jr C d sc iter tgt fit) (hV:ox C d (cD scope sc) tgt fa) (hT:oz C d (cD scope sc) ifs ft) (hE:bg C d (cD scope sc) elt fe) (hA:lT C d sc (.Name x px) (bA x))
  (hs:∀ env x,foldedSetIterable iter env x=pure x) (hk:iE scope sc fv=true)
  (hsw:∀ env,env.scope=sc→swapsWith (.ListComp elt [⟨tgt,iter,ifs,0⟩] scope cpos) (some (.Name x px)) pos.line env=pure true):
  jU C d sc (.Assign [.Name x px] (.ListComp elt [⟨tgt,iter,ifs,0⟩] scope cpos) pos) (aH (b7 fv fit fa ft fe) (bA x)):=by
 intro A env l m ρ H s Q E hb ha he fr st p
 rw[exec_Assign_Name_used x px _ pos (hsw env he)]
 refine wpAny_bind (wpAny_standAt (wpAny_bind ?_))
 show wpAny _ _ (comprehension _ _ _ _ _ _ _ (some (assign (.Name x px) env)) >>= fun _=>pure ()) _ _ _
 refine wpAny_bind (nH (use:=some (assign (.Name x px) env)) hI hV hT hE hs hk hb ha he fr st ?_)
 unfold aH at p
 cases o:b7 fv fit fa ft fe m H with
 | bad=>rw[o]at p;exact p
 | exc H1=>rw[o]at p;exact fun ρ' e s' ev fly=>p ρ' e s' ev.no (fr.ev st ev) fly
 | ok v H1=>
  rw[o]at p
  intro ρ' y s' cenv mm xo r
  refine wpAny_bind (wpAny_rule (wpAny_bind (wpAny_holding ?_)))
  refine hA A env l m ρ' H1 s' v y _ E hb ha he (fr.ev st xo.ev) xo.ev.st r ?_
  intro ρ2 F s2 e2 fr2 rF hF
  have lt:∀ {b},c0 env b→b < s.heap.objs.size:=fun {b} hb=>by
   rcases hb with rfl|⟨z,hz⟩
   ·obtain⟨_,⟨o,_,_,g,_⟩,_⟩:=fr.loc;exact Heap.lt_size g
   ·obtain⟨ov,o,g,_⟩:=fr.celX z b hz;exact Heap.lt_size g
  have nown:¬c0 env cenv.locals:=fun z=>absurd (lt z) (Nat.not_lt.mpr xo.new)
  have nm2:¬bG ρ2 cenv.locals:=by
   refine byC fun kq=>?_
   obtain⟨o,_,_,g,_⟩:=xo.ns
   refine kq ?_;try clear kq
   exact e2.nm _ (Heap.lt_size g) xo.nm
  have ns2:s2.heap.Ns cenv.locals mm:=by
   refine byC fun kq=>?_
   obtain⟨o,es,ep,g,e,kk,f⟩:=xo.ns
   obtain⟨sl,g',_⟩:=e2.keep.2 _ o g fun z=>z.elim xo.nm nown
   refine kq ?_;try clear kq
   exact⟨_,es,ep,g',e,kk,f⟩
  have nt2:NT s2.heap cenv.locals:=by
   refine byC fun kq=>?_
   obtain⟨o',es,ep,g,d',_⟩:=ns2
   refine kq ?_;try clear kq
   intro o g' hc xs n hd
   rw[g]at g';cases g'
   rw[d']at hd;cases hd
  have e12:=(xo.ev.no (W:=c0 env)).trans e2
  refine wpAny_bind (wpAny_comp_letGo xo.fn _ s2 mm (fun z hz hl=>xo.kd z (by
   rcases List.mem_append.mp hz with h|h
   ·exact List.mem_reverse.mp (List.mem_of_mem_drop h)
   ·exact List.mem_reverse.mp (List.mem_of_mem_take h)) hl) ns2 fun h' m' hn' hs'=>wpAny_pure (wpAny_pure (wpAny_pure ?_)))
  have e3:Ev C l (uP cenv) ρ2 s2 ρ2 H1 { s2 with heap:=h' }:=by
   refine Ev.ownW e2.st rfl nm2 nt2 xo.hi (.sameBut hs') ?_ ⟨rfl,rfl,rfl⟩
   refine byC fun kq=>?_
   obtain⟨o',es,ep,g,d',_⟩:=hn'
   refine kq ?_;try clear kq
   exact⟨o',g,fun vs z=>by rw[d']at z;cases z⟩
  exact p ρ2 .next _ (e12.trans2 e3 fun b hb w=>absurd hb (Nat.not_lt.mpr (w ▸ xo.new))) (fr2.but hs' nown nt2) .next
end
theorem yT{K:Frag}{sf:Addr}{C:Cx}(X:Law K sf C) {x:Str}{a:Addr}{o:Obj}{items:Array Value}{n:Nat}{vs:List V}(hg:k6 K x=some (.ref a)) (hk:K.lookup a=some o) (hc:o.cls=.type "tuple") (hd:o.data=.seq items n)
  (hr:∀ (ρ:Rho) (h:Heap),RepVs ρ h vs items.toList):nD C x (.tup vs):=by
 have g0:=X.O.kin _ _ (X.look hk)
 refine⟨_,(X.mg x).trans hg,fun ρ h hf old=>.tup (fun m=>?_) (old _ _ g0) hc hd (hr ρ h)⟩
 refine byC fun kq=>?_
 obtain⟨p,hp,e⟩:=m
 refine kq ?_;try clear kq
 rcases e with rfl|rfl
 ·exact(hf p hp).1.no g0
 ·exact(hf p hp).2.no g0
theorem xi{C:Cx}{d:Nat}{f:Value}:lV C d f (fun _ _=>.bad):=fun _ _ _ _ _ _ _ _ _ _ _ _ _ p=>p.elim
theorem pz{C:Cx}{d:Nat}{sc:Scope}{t e pos fe fa} (h1:bg C d sc e fe) (h2:lT C d sc t fa) (hst:∀ env,(assignEach [t] env).map (·.2)=[assign t env]) (hs:∀ env,env.scope=sc→swapsWith e (some t) pos.line env=pure false) (hw:∀ env,env.scope=sc→swappedStores [t] e env=pure none):
  jU C d sc (.Assign [t] e pos) (aH fe fa):=by
 intro A env l m ρ H s Q E hb ha he fr st p
 refine wpAny_Assign_stores (h1 A env l m ρ H s _ E hb ha he fr st (bJ.bindE p st fr fun v H1 ρ1 y s1 _ e1 fr1 r1 p1=>?_)) (hs env he) (hw env he)
 rw[hst]
 show wpAny _ _ (assign t env y) _ _ _
 exact h2 A env l m ρ1 H1 s1 v y _ E hb ha he fr1 e1.st r1 (p1.mono fun F s' q e=>by subst e;exact q)
section
variable {C:Cx}{d:Nat}{sc:Scope}{K:Frag}{sf:Addr}
structure X (p:Prop):Prop where
 s:p
noncomputable abbrev XE(C:Cx) (d:Nat) (sc:Scope) (e:Expr) (f:FE):Prop:=X (bg C d sc e f)
noncomputable abbrev XT(C:Cx) (d:Nat) (sc:Scope) (e:Expr) (f:FE):Prop:=X (lz C d sc e f)
noncomputable abbrev XL(C:Cx) (d:Nat) (sc:Scope) (es:List Expr) (f:Fm→Hp→Out (List V)):Prop:=X (ku C d sc es f)
noncomputable abbrev XS(C:Cx) (d:Nat) (sc:Scope) (st:Stmt) (f:FS):Prop:=X (jU C d sc st f)
noncomputable abbrev XB(C:Cx) (d:Nat) (sc:Scope) (b:List Stmt) (f:FS):Prop:=X (lU C d sc b f)
noncomputable abbrev XF(C:Cx) (d:Nat) (f:Value) (F:List V→Hp→Out V):Prop:=X (jS C d f F)
noncomputable abbrev XM(C:Cx) (d:Nat) (name:Str) (K:AObj→Bool) (f:Value):Prop:=X (rM C d name K f)
noncomputable abbrev XIt(C:Cx) (d:Nat) (sc:Scope) (e:Expr) (tgt:Expr) (f:Fm→Hp→Out It):Prop:=X (jr C d sc e tgt f)
noncomputable abbrev XO(C:Cx) (d:Nat) (f:Value→Value→Sem Value) (F:V→V→Hp→Out V):Prop:=X (gV C d f F)
noncomputable abbrev XA(C:Cx) (d:Nat) (sc:Scope) (t:Expr) (f:V→FS):Prop:=X (lT C d sc t f)
noncomputable abbrev XP(C:Cx) (d:Nat) (sc:Scope) (e:Option Expr) (f:FE):Prop:=X (uh C d sc e f)
noncomputable abbrev rN(C:Cx) (d:Nat) (sc:Scope) (op:BoolOp) (es:List Expr) (f:FE):Prop:=X (iw C d sc op es f)
noncomputable abbrev XC(C:Cx) (d:Nat) (f:Value) (F:List V→Hp→Out V):Prop:=X (lV C d f F)
noncomputable abbrev XPr(C:Cx) (d:Nat) (sc:Scope) (pos:Pos) (ks vs:List Expr) (f:Fm→Hp→Out (List V)):Prop:=X (jT C d sc pos ks vs f)
noncomputable abbrev XJ(C:Cx) (d:Nat) (sc:Scope) (es:List Expr) (f:Str→FE):Prop:=X (vX C d sc es f)
noncomputable abbrev XTs(C:Cx) (d:Nat) (sc:Scope) (ts:List Expr) (f:List V→FS):Prop:=X (pQ C d sc ts f)
noncomputable abbrev XX(C:Cx) (sc:Scope) (e:Expr) (f:FE):Prop:=X (AB C sc e f)
noncomputable abbrev XV(C:Cx) (d:Nat) (sc:Scope) (t:Expr) (f:V→Fm→Option Fm):Prop:=X (ox C d sc t f)
noncomputable abbrev XW(C:Cx) (d:Nat) (sc:Scope) (ifs:List Expr) (f:FE):Prop:=X (oz C d sc ifs f)
noncomputable abbrev XBo(C:Cx) (d:Nat) (sc:Scope) (op:BoolOp) (pos:Pos) (es:List Expr) (f:FE):Prop:=X (pP C d sc op pos es f)
theorem X.sim{f F} (h:XC C d f F):XF C d f F:=⟨h.s.sim⟩
theorem a7{x pos} (hx:ej sc x=true):XA C d sc (.Name x pos) (bA x):=⟨u4 hx⟩
theorem pI{e i pos f g} (h1:XE C d sc e f) (h2:XE C d sc i g):XA C d sc (.Subscript e i pos) (f7 f g):=⟨xf h1.s h2.s⟩
theorem yg{ts k pos f} (h:XTs C d sc ts f) (hs:ts.all noStar=true):XA C d sc (.Tuple ts k pos) (j1 ts.length f):=⟨sP h.s hs⟩
theorem af{st r f g} (h1:XS C d sc st f) (h2:XB C d sc r g):XB C d sc (st::r) (am f g):=⟨u5 h1.s h2.s⟩
theorem aw  : XB C d sc [] av:=⟨xg ⟩
theorem dF{a c:Addr}{fd:FuncData}{cls:Value}{dct:Option Addr}{sl:Array (Option Value)}{ps:List Str}{body:List Stmt}{f:FS}{oc:Obj}{vs:Array Value}{t:Tok}(O:C.Ok) (hk:C.K.lookup a=some ⟨cls,dct,.func fd,sl⟩) (hcd:fd.code=.ref c) (hc:C.K.lookup c=some oc) (hv:oc.data=.fields vs) (hq:vs[1]? = some (.str fd.qualname t)) (hb:fd.body=.stmts body) (bind:∀ xs:List Value,xs.length=ps.length→bindArgs fd ⟨xs,[]⟩=pure (ps.zip xs)) (hclo:fd.closure=[]) (hg:fd.globals=mainGlobals) (hbu:fd.builtins=builtinsNs) (hok:pu fd.scope ps=true) (h:XB C d fd.scope body f):XC C (d + 1) (.ref a) (ci ps f):=⟨Bi O hk hcd hc hv hq hb bind hclo hg hbu hok h.s⟩
theorem tx{a b pos f g} (h1:XE C d sc a f) (h2:XE C d sc b g):XE C d sc (.BoolOp .Or [a,b] pos) (fOr f g):=⟨xq h1.s h2.s⟩
theorem cF{a op b pos F f g} (h1:XE C d sc a f) (h2:XE C d sc b g) (hF:XO C d (binaryOp op) F):XE C d sc (.BinOp a op b pos) (aD F f g):=⟨xk h1.s h2.s hF.s⟩
theorem fy{k pos b}:XE C d sc (.Constant (.bool b) k pos) (fC (.bool b)):=⟨u9 ⟩
theorem aI{x np es pos f F g} (O:C.Ok) (hn:fB C sc x f) (hk:lS C f) (hs:es.all noStar=true) (hF:XF C d f F) (h:XL C d sc es g):XE C d sc (.Call (.Name x np) es [] pos) (aG F g):=⟨vd O hn hk hs hF.s h.s⟩
theorem cQ{a op b pos F f g} (h1:XE C d sc a f) (h2:XE C d sc b g) (hF:XO C d (compareOp op) F) (hm:behindInMarks op b=false):XE C d sc (.Compare a [op] [b] pos) (aD F f g):=⟨xl h1.s h2.s hF.s hm⟩
theorem ew{elt tgt iter ifs scope pos fv fit fa ft fe} (hI:XIt C d sc iter tgt fit) (hA:XV C d (cD scope sc) tgt fa) (hT:XW C d (cD scope sc) ifs ft) (hE:XE C d (cD scope sc) elt fe) (hs:∀ env x,foldedSetIterable iter env x=pure x) (hk:iE scope sc fv=true):XE C d sc (.ListComp elt [⟨tgt,iter,ifs,0⟩] scope pos) (b7 fv fit fa ft fe):=⟨ve hI.s hA.s hT.s hE.s hs hk⟩
theorem om{pos}:XE C d sc (.Dict [] [] pos) gY:=⟨q0 ⟩
theorem vN{pos}:XE C d sc (.Dict [] [] pos) oU:=⟨q8 ⟩
theorem vP{k1 k2 v1 v2 pos g} (h:XPr C d sc pos [k1,k2] [v1,v2] g):XE C d sc (.Dict [some k1,some k2] [v1,v2] pos) (eG g):=⟨rd h.s⟩
theorem vQ{k1 k2 k3 k4 v1 v2 v3 v4 pos g} (h:XPr C d sc pos [k1,k2,k3,k4] [v1,v2,v3,v4] g):XE C d sc (.Dict [some k1,some k2,some k3,some k4] [v1,v2,v3,v4] pos) (eG g):=⟨rh h.s⟩
theorem vO{k1 v1 pos g} (h:XPr C d sc pos [k1] [v1] g):XE C d sc (.Dict [some k1] [v1] pos) (kG g):=⟨q9 h.s⟩
theorem lQ{e pos f} (h:XE C d sc e f):XE C d sc (.FormattedValue e (-1) none pos) (fFv f):=⟨vf h.s⟩
theorem bR{x pos v} (O:C.Ok) (hx:eI sc x=true) (g:nD C x v):XE C d sc (.Name x pos) (fC v):=⟨vg O hx g⟩
theorem cA{t a b pos ft f g} (h0:XT C d sc t ft) (h1:XE C d sc a f) (h2:XE C d sc b g):XE C d sc (.IfExp t a b pos) (dK ft f g):=⟨sS h0.s h1.s h2.s⟩
theorem ax{k pos i}:XE C d sc (.Constant (.int i) k pos) (fC (.int i)):=⟨xm ⟩
theorem oq{a b es pos f} (h:XJ C d sc (a::b::es) f):XE C d sc (.JoinedStr (a::b::es) pos) (f Str.empty):=⟨ri h.s⟩
theorem bT{es pos g} (h:XL C d sc es g):XE C d sc (.List es pos) (b8 g):=⟨vh h.s⟩
theorem dq{o name apos es pos K f F fo g} (hsim:XE C d sc o fo) (hM:XM C d name K f) (hk:lS C f) (hs:es.all noStar=true) (hF:XF C d f F) (h:XL C d sc es g) (hbase:∀ env,attributeBase o name env (eval o env)=eval o env) (hfew:decide (es.length < 30)=true) (hline:(apos.endLine == pos.line)=true):XE C d sc (.Call (.Attribute o name apos) es [] pos) (aN K F fo g):=⟨n7 hsim.s hM.s hk hs hF.s h.s hbase hfew hline⟩
theorem nh{e pos f} (h:XE C d sc e f):XE C d sc (.UnaryOp .USub e pos) (kH f):=⟨xn h.s⟩
theorem pJ{k pos}:XE C d sc (.Constant .none k pos) (fC .none):=⟨vi ⟩
theorem ni{e pos f} (h:XE C d sc e f):XE C d sc (.UnaryOp .Not e pos) (jB f):=⟨xp h.s⟩
theorem eW{e lo hi st p pos f a b c} (h0:XE C d sc e f) (h1:XP C d sc lo a) (h2:XP C d sc hi b) (h3:XP C d sc st c) (hs:∃ b:Bool,∀ o iv,subscripted (.Slice lo hi st p) false o iv=operate (if b then [iv,o]else [o,iv]) (getItem o iv)):XE C d sc (.Subscript e (.Slice lo hi st p) pos) (cN f a b c):=⟨sT h0.s h1.s h2.s h3.s hs⟩
theorem aC{k pos x}:XE C d sc (.Constant (.str x) k pos) (fC (.str x)):=⟨xt ⟩
theorem aQ{e i pos f g} (h1:XE C d sc e f) (h2:XE C d sc i g) (hs:∀ o iv,subscripted i false o iv=operate [o,iv] (getItem o iv)):XE C d sc (.Subscript e i pos) (ba f g):=⟨xu h1.s h2.s hs⟩
theorem aS{es k pos g} (h:XL C d sc es g):XE C d sc (.Tuple es k pos) (bM g):=⟨sU h.s⟩
theorem aa{x pos} (hx:qD sc x=true):XE C d sc (.Name x pos) (ae x):=⟨xw hx⟩
theorem cY  : XF C d (.builtin "list.append") cr:=⟨lj ⟩
theorem zY(O:C.Ok):XF C d (.builtin "dict.get") nF:=⟨vj O⟩
theorem ct  : XF C d (.builtin "len") bL:=⟨xx ⟩
theorem ey{e tgt f} (h:XE C d sc e f):XIt C d sc e tgt (dz f):=⟨vm h.s⟩
theorem eJ{x np es pos tgt g} (O:C.Ok) (hn:fB C sc x (.type "range")) (hs:es.all noStar=true) (h:XL C d sc es g):XIt C d sc (.Call (.Name x np) es [] pos) tgt (df g):=⟨rl O hn hs h.s⟩
theorem z6{x np es pos tgt g} (O:C.Ok) (hn:fB C sc x (.type "zip")) (hs:es.all noStar=true) (h:XL C d sc es g):XIt C d sc (.Call (.Name x np) es [] pos) tgt (uG g):=⟨vo O hn hs h.s⟩
theorem h8{e es g r} (h1:XE C d sc e g) (h2:XJ C d sc es r):XJ C d sc (e::es) (fJ g r):=⟨vp h1.s h2.s⟩
theorem yj  : XJ C d sc [] fJ0:=⟨xC ⟩
theorem ac{e r f g} (he:noStar e=true) (h1:XE C d sc e f) (h2:XL C d sc r g):XL C d sc (e::r) (ad f g):=⟨n8 he h1.s h2.s⟩
theorem ai  : XL C d sc [] ao:=⟨rn ⟩
theorem cZ  : XM C d "append" isL (.builtin "list.append"):=⟨rp ⟩
theorem z7  : XM C d "get" isT (.builtin "dict.get"):=⟨vq ⟩
theorem i4  : XO C d (binaryOp .Add) iu:=⟨xE ⟩
theorem pK  : XO C d (binaryOp .Sub) qP:=⟨xI ⟩
theorem tz  : XO C d (binaryOp .Mult) pk:=⟨xH ⟩
theorem nj  : XO C d (binaryOp .Mod) lG:=⟨xG ⟩
theorem BH  : XO C d (binaryOp .FloorDiv) zg:=⟨xF ⟩
theorem bx  : XO C d (compareOp .Eq) oEq:=⟨zD ⟩
theorem gF  : XO C d (compareOp .NotEq) oNe:=⟨zH ⟩
theorem ou  : XO C d (compareOp .Lt) oLt:=⟨zG ⟩
theorem yl  : XO C d (compareOp .Gt) oGt:=⟨zE ⟩
theorem kS  : XO C d (compareOp .Is) gy:=⟨rq ⟩
theorem cU  : XP C d sc none (fC .none):=⟨kO ⟩
theorem gG{e f} (h:XE C d sc e f):XP C d sc (some e) f:=⟨n9 h.s⟩
theorem fR{pos k ks v vs f g h} (h1:XE C d sc k f) (h2:XE C d sc v g) (h3:XPr C d sc pos ks vs h):XPr C d sc pos (k::ks) (v::vs) (ad f (ad g h)):=⟨s8 h1.s h2.s h3.s⟩
theorem pL{pos}:XPr C d sc pos [] [] ao:=⟨vw ⟩
theorem aB{t e pos fe fa} (h1:XE C d sc e fe) (h2:XA C d sc t fa) (hst:∀ env,(assignEach [t] env).map (·.2)=[assign t env]) (hs:∀ env,swapsWith e (some t) pos.line env=pure false) (hw:∀ env,swappedStores [t] e env=pure none):XS C d sc (.Assign [t] e pos) (aH fe fa):=⟨ru h1.s h2.s hst hs hw⟩
theorem rJ{pos}:XS C d sc (.Continue pos) (fun m H=>.ok .cont m H):=⟨ny ⟩
theorem bU{e pos f} (h:XE C d sc e f) (hs:∀ env,env.scope.kind=.function→swapsWith e none pos.line env=pure false):XS C d sc (.Expr e pos) (cR f):=⟨vx h.s hs⟩
theorem i7{tgt it body pos fit fa fb} (hI:XIt C d sc it tgt fit) (hA:XA C d sc tgt fa) (hB:XB C d sc body fb) (hs:∀ env x,foldedSetIterable it env x=pure x):XS C d sc (.For tgt it body [] pos) (fK fit fa fb):=⟨xJ hI.s hA.s hB.s hs⟩
theorem bS{t b o pos ft fb fo} (h1:XT C d sc t ft) (h2:XB C d sc b fb) (h3:XB C d sc o fo):XS C d sc (.If t b o pos) (fIf ft fb fo):=⟨zI h1.s h2.s h3.s⟩
theorem nq{x np arg cpos pos g} (O:C.Ok) (R:RaiseOk C) (hn:eI sc x=true) (hx:C.mg x=some (.ref C.sf)) (hs:noStar arg=true) (h:XE C d sc arg g):XS C d sc (.Raise (some (.Call (.Name x np) [arg] [] cpos)) none pos) (iH g):=⟨s9 O R hn hx hs h.s⟩
theorem aO{e pos f} (h:XE C d sc e f):XS C d sc (.Return (some e) pos) (a6 f):=⟨xK h.s⟩
theorem jn{ts k tp e pos fe ns} (h:XE C d sc e fe) (hs:∀ env,swapsWithSole [.Tuple ts k tp] e pos.line env=pure false) (hw:∀ env,env.scope=sc→swappedStores [.Tuple ts k tp] e env=pure (some ns)) (hn:ns.reverse.all (ej sc)=true):XS C d sc (.Assign [.Tuple ts k tp] e pos) (aH fe (ig ns)):=⟨vy h.s hs hw hn⟩
theorem BI{body x np e rpos hpos pos fb fe} (O:C.Ok) (R:RaiseOk C) (hn:eI sc x=true) (hx:C.mg x=some (.ref C.sf)) (h:XB C d sc body fb) (he':XX C sc e fe):XS C d sc (.Try body [.ExceptHandler (some (.Name x np)) none [.Return (some e) rpos] hpos] [] [] pos) (sj fb fe):=⟨xL O R hn hx h.s he'.s⟩
theorem ym{t b pos ft fb} (n:Nat) (h1:XT C d sc t ft) (h2:XB C d sc b fb):XS C d sc (.While t b [] pos) (d7 ft fb n):=⟨ta n h1.s h2.s⟩
theorem gH{op es pos f} (h:rN C d sc op es f):XT C d sc (.BoolOp op es pos) f:=⟨vz h.s⟩
theorem aL{a op b pos F f g} (h1:XE C d sc a f) (h2:XE C d sc b g) (hF:XO C d (compareOp op) F) (hm:behindInMarks op b=false):XT C d sc (.Compare a [op] [b] pos) (aD F f g):=⟨xM h1.s h2.s hF.s hm⟩
theorem yn{e f} (h:XE C d sc e f) (he':∀ env whole,isTrue e env whole=(do let v ← whole;standAt e.pos;holding [v] (truthy v))):XT C d sc e f:=⟨xN h.s he'⟩
theorem rK{t ts fa r} (ht:noStar t=true) (h1:XA C d sc t fa) (h2:XTs C d sc ts r):XTs C d sc (t::ts) (fT fa r):=⟨tb ht h1.s h2.s⟩
theorem z9  : XTs C d sc [] fT0:=⟨vA ⟩
theorem ez{x pos} (h:gj sc x=true):XV C d sc (.Name x pos) (cz x):=⟨vC h⟩
theorem Aa{x y p1 p2 k pos} (h1:gj sc x=true) (h2:gj sc y=true):XV C d sc (.Tuple [.Name x p1,.Name y p2] k pos) (m9 x y):=⟨vD h1 h2⟩
theorem i8  : XW C d sc [] (fC (.bool true)):=⟨xO ⟩
theorem pM{t f} (h:XT C d sc t f):XW C d sc [t] f:=⟨xP h.s⟩
theorem Ab{k pos}:XX C sc (.Constant .none k pos) (fC .none):=⟨vE ⟩
theorem kn{e f} (h:XT C d sc e f):rN C d sc .And [e] f:=⟨sQ h.s⟩
theorem jm{e r f g} (h:XT C d sc e f) (h2:rN C d sc .And r g):rN C d sc .And (e::r) (mD f g):=⟨qZ h.s h2.s⟩
theorem lR{e f} (h:XT C d sc e f):rN C d sc .Or [e] f:=⟨vu h.s⟩
theorem i6{e r f g} (h:XT C d sc e f) (h2:rN C d sc .Or r g):rN C d sc .Or (e::r) (fOr f g):=⟨sZ h.s h2.s⟩
theorem Law.x_attr(X:Law K sf C) {e name pos Kc f} (hc:ClsOk C Kc) (hf:findIn K (.ref Kc) name=some none) (h:XE C d sc e f) (hbase:∀ env,attributeBase e name env (eval e env)=eval e env):XE C d sc (.Attribute e name pos) (a9 Kc name f):=⟨Law.attr X hc hf h.s hbase⟩
theorem Law.x_setAttr(X:Law K sf C) {e name pos Kc f} (hc:ClsOk C Kc) (hf:findIn K (.ref Kc) name=some none) (h:XE C d sc e f):XA C d sc (.Attribute e name pos) (a8 Kc name f):=⟨Law.setAttr X hc hf h.s⟩
theorem Law.x_meth(X:Law K sf C) {o name apos es pos Kc f F fo g} (hc:ClsOk C Kc) (hsim:XE C d sc o fo) (hf:findIn K (.ref Kc) name=some (some (.ref f))) (ht:PySem.W.isFn K (.ref f)=true) (hk:keepIn K (.ref f)=true) (hs:es.all noStar=true) (hF:XF C d (.ref f) F) (h:XL C d sc es g) (hbase:∀ env,attributeBase o name env (eval o env)=eval o env) (hfew:decide (es.length < 30)=true) (hline:(apos.endLine == pos.line)=true):XE C d sc (.Call (.Attribute o name apos) es [] pos) (aN (isI Kc name) F fo g):=⟨Law.meth X hc hsim.s hf ht hk hs hF.s h.s hbase hfew hline⟩
theorem Law.x_make(X:Law K sf C) {Kc fI:Addr}{F} (hm:makesIn K Kc=true) (hi:findIn K (.ref Kc) "__init__"=some (some (.ref fI))) (hf:typeIn K (.ref fI)=some (.type "function")) (hF:XC C d (.ref fI) F):XC C (d + 1) (.ref Kc) (fj Kc F):=⟨Law.make X hm hi hf hF.s⟩
theorem vR{e hi p pos f b} (h0:XE C d sc e f) (h2:XE C d sc hi b) (hs:∃ b:Bool,∀ o iv,subscripted (.Slice none (some hi) none p) false o iv=operate (if b then [iv,o]else [o,iv]) (getItem o iv)):XE C d sc (.Subscript e (.Slice none (some hi) none p) pos) (jc f b):=⟨rj h0.s h2.s hs⟩
theorem ko  : XF C d (.type "tuple") gW:=⟨sW ⟩
theorem BE  : XF C d (.builtin "min") uo:=⟨xz ⟩
theorem BD  : XF C d (.builtin "max") um:=⟨xy ⟩
theorem BG  : XM C d "pop" isL (.builtin "list.pop"):=⟨xD ⟩
theorem BF  : XF C d (.builtin "list.pop") rU:=⟨xB ⟩
theorem yk  : XM C d "count" isL (.builtin "list.count"):=⟨sX ⟩
theorem yi  : XF C d (.builtin "list.count") iz:=⟨sV ⟩
theorem zZ  : XF C d (.type "list") lY:=⟨vk ⟩
theorem vS  : XO C d (compareOp .Is) lN:=⟨rt ⟩
theorem z8  : XO C d (binaryOp .Pow) nS:=⟨vt ⟩
theorem z0{x np es pos tgt g} (O:C.Ok) (hn:fB C sc x (.type "reversed")) (hs:es.all noStar=true) (h:XL C d sc es g):XIt C d sc (.Call (.Name x np) es [] pos) tgt (uF g):=⟨vl O hn hs h.s⟩
theorem zX{op pos e f} (h:XE C d sc e f):XBo C d sc op pos [e] f:=⟨u6 h.s⟩
theorem yh{pos e e2 r f g} (h1:XE C d sc e f) (h2:XBo C d sc .Or pos (e2::r) g):XBo C d sc .Or pos (e::e2::r) (fOr f g):=⟨xh h1.s h2.s⟩
theorem CK{op pos es f} (h:XBo C d sc op pos es f):XE C d sc (.BoolOp op es pos) f:=⟨zC h.s⟩
theorem nC{elt tgt iter ifs scope cpos x px pos fv fit fa ft fe} (hI:XIt C d sc iter tgt fit) (hV:XV C d (cD scope sc) tgt fa) (hT:XW C d (cD scope sc) ifs ft) (hE:XE C d (cD scope sc) elt fe) (hA:XA C d sc (.Name x px) (bA x)) (hs:∀ env x,foldedSetIterable iter env x=pure x) (hk:iE scope sc fv=true) (hsw:∀ env,env.scope=sc→swapsWith (.ListComp elt [⟨tgt,iter,ifs,0⟩] scope cpos) (some (.Name x px)) pos.line env=pure true):XS C d sc (.Assign [.Name x px] (.ListComp elt [⟨tgt,iter,ifs,0⟩] scope cpos) pos) (aH (b7 fv fit fa ft fe) (bA x)):=⟨lH hI.s hV.s hT.s hE.s hA.s hs hk hsw⟩
theorem i5  : XO C d (compareOp .In) oIn:=⟨zF ⟩
theorem rI  : XO C d (compareOp .NotIn) iU:=⟨sY ⟩
theorem BC{C:Cx}{d:Nat}{f:Value}:XC C d f (fun _ _=>.bad):=⟨xi ⟩
theorem nk{C:Cx}{d:Nat}{sc:Scope}{t e pos fe fa} (h1:XE C d sc e fe) (h2:XA C d sc t fa) (hst:∀ env,(assignEach [t] env).map (·.2)=[assign t env]) (hs:∀ env,env.scope=sc→swapsWith e (some t) pos.line env=pure false) (hw:∀ env,env.scope=sc→swappedStores [t] e env=pure none):XS C d sc (.Assign [t] e pos) (aH fe fa):=⟨pz h1.s h2.s hst hs hw⟩
end
noncomputable def iI:FS:=am (aH (bM (ad (ae (CW "op")) (ad (ae (CW "args")) (ad (ae (CW "sort")) (ad (ae (CW "data")) (ao)))))) (bA (CW "key")))
 (am (aH (aN isT nF (a9 400 (CW "numbers") (ae (CW "self"))) (ad (ae (CW "key")) (ad (fC (.int 0)) (ao)))) (bA (CW "found")))
 (am (fIf (aD oEq (ae (CW "found")) (fC (.int 0))) (am (aH (aG bL (ad (a9 400 (CW "term_ops") (ae (CW "self"))) (ao))) (bA (CW "found")))
 (am (cR (aN isL cr (a9 400 (CW "term_ops") (ae (CW "self"))) (ad (ae (CW "op")) (ao))))
 (am (cR (aN isL cr (a9 400 (CW "term_args") (ae (CW "self"))) (ad (ae (CW "args")) (ao))))
 (am (cR (aN isL cr (a9 400 (CW "term_sorts") (ae (CW "self"))) (ad (ae (CW "sort")) (ao))))
 (am (cR (aN isL cr (a9 400 (CW "term_datas") (ae (CW "self"))) (ad (ae (CW "data")) (ao))))
 (am (aH (ae (CW "found")) (f7 (a9 400 (CW "numbers") (ae (CW "self"))) (ae (CW "key"))))
 (av))))))) (av))
 (am (a6 (ae (CW "found")))
 (av))))
noncomputable def bh:List V→Hp→Out V:=ci [CW "self",CW "op",CW "args",CW "sort",CW "data"] iI
noncomputable def qv:FS:=am (aH (b8 (ad (fC (.str (CW "Bool"))) (ad (fC (.str (CW "Int"))) (ad (fC (.str (CW "Real"))) (ao))))) (a8 400 (CW "sort_names") (ae (CW "self"))))
 (am (aH (b8 (ad (fC (.int 0)) (ad (fC (.int 0)) (ad (fC (.int 0)) (ao))))) (a8 400 (CW "sort_widths") (ae (CW "self"))))
 (am (aH (b8 (ao)) (a8 400 (CW "fun_names") (ae (CW "self"))))
 (am (aH (b8 (ao)) (a8 400 (CW "fun_args") (ae (CW "self"))))
 (am (aH (b8 (ao)) (a8 400 (CW "fun_results") (ae (CW "self"))))
 (am (aH (fC (.int 0)) (a8 400 (CW "fresh_count") (ae (CW "self"))))
 (am (aH (b8 (ad (fC (.str (CW ""))) (ao))) (a8 400 (CW "term_ops") (ae (CW "self"))))
 (am (aH (b8 (ad (bM (ao)) (ao))) (a8 400 (CW "term_args") (ae (CW "self"))))
 (am (aH (b8 (ad (fC (.int 0)) (ao))) (a8 400 (CW "term_sorts") (ae (CW "self"))))
 (am (aH (b8 (ad (fC (.int 0)) (ao))) (a8 400 (CW "term_datas") (ae (CW "self"))))
 (am (aH (oU) (a8 400 (CW "numbers") (ae (CW "self"))))
 (am (aH (aN (isI 400 (CW "make")) bh (ae (CW "self")) (ad (fC (.str (CW "true"))) (ad (bM (ao)) (ad (fC (.int 0)) (ad (fC (.int 0)) (ao)))))) (a8 400 (CW "true_number") (ae (CW "self"))))
 (am (aH (aN (isI 400 (CW "make")) bh (ae (CW "self")) (ad (fC (.str (CW "false"))) (ad (bM (ao)) (ad (fC (.int 0)) (ad (fC (.int 0)) (ao)))))) (a8 400 (CW "false_number") (ae (CW "self"))))
 (av)))))))))))))
noncomputable def fX:List V→Hp→Out V:=ci [CW "self"] qv
noncomputable def jp:FS:=am (cR (aN isL cr (a9 400 (CW "sort_names") (ae (CW "self"))) (ad (ae (CW "name")) (ao))))
 (am (cR (aN isL cr (a9 400 (CW "sort_widths") (ae (CW "self"))) (ad (fC (.int 0)) (ao))))
 (am (a6 (aD qP (aG bL (ad (a9 400 (CW "sort_names") (ae (CW "self"))) (ao))) (fC (.int 1))))
 (av)))
noncomputable def cp:List V→Hp→Out V:=ci [CW "self",CW "name"] jp
noncomputable def jC:FS:=am (cR (aN isL cr (a9 400 (CW "fun_names") (ae (CW "self"))) (ad (ae (CW "name")) (ao))))
 (am (cR (aN isL cr (a9 400 (CW "fun_args") (ae (CW "self"))) (ad (aG gW (ad (ae (CW "arg_sorts")) (ao))) (ao))))
 (am (cR (aN isL cr (a9 400 (CW "fun_results") (ae (CW "self"))) (ad (ae (CW "result")) (ao))))
 (am (a6 (aD qP (aG bL (ad (a9 400 (CW "fun_names") (ae (CW "self"))) (ao))) (fC (.int 1))))
 (av))))
noncomputable def fA:List V→Hp→Out V:=ci [CW "self",CW "name",CW "arg_sorts",CW "result"] jC
noncomputable def jD:FS:=am (a6 (aN (isI 400 (CW "make")) bh (ae (CW "self")) (ad (fC (.str (CW "app"))) (ad (bM (ao)) (ad (ae (CW "s")) (ad (aN (isI 400 (CW "declare_fun")) fA (ae (CW "self")) (ad (ae (CW "name")) (ad (bM (ao)) (ad (ae (CW "s")) (ao))))) (ao)))))))
 (av)
noncomputable def bZ:List V→Hp→Out V:=ci [CW "self",CW "name",CW "s"] jD
noncomputable def nJ:FS:=am (a6 (ba (a9 400 (CW "term_ops") (ae (CW "self"))) (ae (CW "t"))))
 (av)
noncomputable def i9:List V→Hp→Out V:=ci [CW "self",CW "t"] nJ
noncomputable def kW:FS:=am (a6 (ba (a9 400 (CW "term_args") (ae (CW "self"))) (ae (CW "t"))))
 (av)
noncomputable def fW:List V→Hp→Out V:=ci [CW "self",CW "t"] kW
noncomputable def kY:FS:=am (a6 (ba (a9 400 (CW "term_sorts") (ae (CW "self"))) (ae (CW "t"))))
 (av)
noncomputable def dv:List V→Hp→Out V:=ci [CW "self",CW "t"] kY
noncomputable def kX:FS:=am (a6 (aD qP (aG bL (ad (a9 400 (CW "term_ops") (ae (CW "self"))) (ao))) (fC (.int 1))))
 (av)
noncomputable def eQ:List V→Hp→Out V:=ci [CW "self"] kX
noncomputable def iJ:FS:=am (fIf (aD oNe (ba (a9 400 (CW "term_sorts") (ae (CW "self"))) (ae (CW "t"))) (ae (CW "s"))) (am (iH ((fJ (fFv (ae (CW "where"))) (fJ (fC (.str (CW ": "))) (fJ (fFv (ba (a9 400 (CW "sort_names") (ae (CW "self"))) (ae (CW "s")))) (fJ (fC (.str (CW " is wanted, not "))) (fJ (fFv (ba (a9 400 (CW "sort_names") (ae (CW "self"))) (ba (a9 400 (CW "term_sorts") (ae (CW "self"))) (ae (CW "t"))))) (fJ0)))))) Str.empty))
 (av)) (av))
 (av)
noncomputable def cG:List V→Hp→Out V:=ci [CW "self",CW "t",CW "s",CW "where"] iJ
noncomputable def dh:FS:=am (cR (aN (isI 400 (CW "want")) cG (ae (CW "self")) (ad (ae (CW "t")) (ad (ae (CW "s")) (ad (ae (CW "where")) (ao))))))
 (av)
noncomputable def ij:FS:=am (fK (dz (ae (CW "some"))) (bA (CW "t")) (dh))
 (av)
noncomputable def bz:List V→Hp→Out V:=ci [CW "self",CW "some",CW "s",CW "where"] ij
noncomputable def gL:FS:=am (a6 (a9 400 (CW "true_number") (ae (CW "self"))))
 (av)
noncomputable def dG:List V→Hp→Out V:=ci [CW "self"] gL
noncomputable def cj:FS:=am (cR (aN (isI 400 (CW "want")) cG (ae (CW "self")) (ad (ae (CW "t")) (ad (fC (.int 0)) (ad (fC (.str (CW "not"))) (ao))))))
 (am (fIf (aD oEq (ba (a9 400 (CW "term_ops") (ae (CW "self"))) (ae (CW "t"))) (fC (.str (CW "not")))) (am (a6 (ba (ba (a9 400 (CW "term_args") (ae (CW "self"))) (ae (CW "t"))) (fC (.int 0))))
 (av)) (av))
 (am (fIf (aD oEq (ae (CW "t")) (a9 400 (CW "true_number") (ae (CW "self")))) (am (a6 (a9 400 (CW "false_number") (ae (CW "self"))))
 (av)) (av))
 (am (fIf (aD oEq (ae (CW "t")) (a9 400 (CW "false_number") (ae (CW "self")))) (am (a6 (a9 400 (CW "true_number") (ae (CW "self"))))
 (av)) (av))
 (am (a6 (aN (isI 400 (CW "make")) bh (ae (CW "self")) (ad (fC (.str (CW "not"))) (ad (bM (ad (ae (CW "t")) (ao))) (ad (fC (.int 0)) (ad (fC (.int 0)) (ao)))))))
 (av)))))
noncomputable def aT:List V→Hp→Out V:=ci [CW "self",CW "t"] cj
noncomputable def cK:FS:=am (cR (aN (isI 400 (CW "want_all")) bz (ae (CW "self")) (ad (ae (CW "some")) (ad (fC (.int 0)) (ad (fC (.str (CW "and"))) (ao))))))
 (am (fIf (aD oEq (aG bL (ad (ae (CW "some")) (ao))) (fC (.int 0))) (am (a6 (a9 400 (CW "true_number") (ae (CW "self"))))
 (av)) (av))
 (am (a6 (dK (aD oEq (aG bL (ad (ae (CW "some")) (ao))) (fC (.int 1))) (ba (ae (CW "some")) (fC (.int 0))) (aN (isI 400 (CW "make")) bh (ae (CW "self")) (ad (fC (.str (CW "and"))) (ad (aG gW (ad (ae (CW "some")) (ao))) (ad (fC (.int 0)) (ad (fC (.int 0)) (ao))))))))
 (av)))
noncomputable def bf:List V→Hp→Out V:=ci [CW "self",CW "some"] cK
noncomputable def cV:FS:=am (cR (aN (isI 400 (CW "want_all")) bz (ae (CW "self")) (ad (ae (CW "some")) (ad (fC (.int 0)) (ad (fC (.str (CW "or"))) (ao))))))
 (am (fIf (aD oEq (aG bL (ad (ae (CW "some")) (ao))) (fC (.int 0))) (am (a6 (a9 400 (CW "false_number") (ae (CW "self"))))
 (av)) (av))
 (am (a6 (dK (aD oEq (aG bL (ad (ae (CW "some")) (ao))) (fC (.int 1))) (ba (ae (CW "some")) (fC (.int 0))) (aN (isI 400 (CW "make")) bh (ae (CW "self")) (ad (fC (.str (CW "or"))) (ad (aG gW (ad (ae (CW "some")) (ao))) (ad (fC (.int 0)) (ad (fC (.int 0)) (ao))))))))
 (av)))
noncomputable def bK:List V→Hp→Out V:=ci [CW "self",CW "some"] cV
noncomputable def d9:FS:=am (cR (aN (isI 400 (CW "want_all")) bz (ae (CW "self")) (ad (bM (ad (ae (CW "a")) (ad (ae (CW "b")) (ao)))) (ad (fC (.int 0)) (ad (fC (.str (CW "xor"))) (ao))))))
 (am (a6 (aN (isI 400 (CW "make")) bh (ae (CW "self")) (ad (fC (.str (CW "xor"))) (ad (bM (ad (ae (CW "a")) (ad (ae (CW "b")) (ao)))) (ad (fC (.int 0)) (ad (fC (.int 0)) (ao)))))))
 (av))
noncomputable def cH:List V→Hp→Out V:=ci [CW "self",CW "a",CW "b"] d9
noncomputable def dm:FS:=am (cR (aN (isI 400 (CW "want_all")) bz (ae (CW "self")) (ad (bM (ad (ae (CW "a")) (ad (ae (CW "b")) (ao)))) (ad (fC (.int 0)) (ad (fC (.str (CW "=>"))) (ao))))))
 (am (a6 (aN (isI 400 (CW "make")) bh (ae (CW "self")) (ad (fC (.str (CW "=>"))) (ad (bM (ad (ae (CW "a")) (ad (ae (CW "b")) (ao)))) (ad (fC (.int 0)) (ad (fC (.int 0)) (ao)))))))
 (av))
noncomputable def bV:List V→Hp→Out V:=ci [CW "self",CW "a",CW "b"] dm
noncomputable def eL:FS:=am (cR (aN (isI 400 (CW "want")) cG (ae (CW "self")) (ad (ae (CW "b")) (ad (ba (a9 400 (CW "term_sorts") (ae (CW "self"))) (ae (CW "a"))) (ad (fC (.str (CW "="))) (ao))))))
 (am (fIf (aD oEq (ae (CW "a")) (ae (CW "b"))) (am (a6 (a9 400 (CW "true_number") (ae (CW "self"))))
 (av)) (av))
 (am (a6 (aN (isI 400 (CW "make")) bh (ae (CW "self")) (ad (fC (.str (CW "="))) (ad (bM (ad (aG uo (ad (ae (CW "a")) (ad (ae (CW "b")) (ao)))) (ad (aG um (ad (ae (CW "a")) (ad (ae (CW "b")) (ao)))) (ao)))) (ad (fC (.int 0)) (ad (fC (.int 0)) (ao)))))))
 (av)))
noncomputable def cv:List V→Hp→Out V:=ci [CW "self",CW "a",CW "b"] eL
noncomputable def dL:FS:=am (fIf (aD oLt (aG bL (ad (ae (CW "some")) (ao))) (fC (.int 2))) (am (iH (fC (.str (CW "distinct has two arguments at least"))))
 (av)) (av))
 (am (cR (aN (isI 400 (CW "want_all")) bz (ae (CW "self")) (ad (ae (CW "some")) (ad (ba (a9 400 (CW "term_sorts") (ae (CW "self"))) (ba (ae (CW "some")) (fC (.int 0)))) (ad (fC (.str (CW "distinct"))) (ao))))))
 (am (a6 (aN (isI 400 (CW "make")) bh (ae (CW "self")) (ad (fC (.str (CW "distinct"))) (ad (aG gW (ad (ae (CW "some")) (ao))) (ad (fC (.int 0)) (ad (fC (.int 0)) (ao)))))))
 (av)))
noncomputable def bF:List V→Hp→Out V:=ci [CW "self",CW "some"] dL
noncomputable def d8:FS:=am (cR (aN (isI 400 (CW "want")) cG (ae (CW "self")) (ad (ae (CW "c")) (ad (fC (.int 0)) (ad (fC (.str (CW "ite"))) (ao))))))
 (am (cR (aN (isI 400 (CW "want")) cG (ae (CW "self")) (ad (ae (CW "b")) (ad (ba (a9 400 (CW "term_sorts") (ae (CW "self"))) (ae (CW "a"))) (ad (fC (.str (CW "ite"))) (ao))))))
 (am (a6 (aN (isI 400 (CW "make")) bh (ae (CW "self")) (ad (fC (.str (CW "ite"))) (ad (bM (ad (ae (CW "c")) (ad (ae (CW "a")) (ad (ae (CW "b")) (ao))))) (ad (ba (a9 400 (CW "term_sorts") (ae (CW "self"))) (ae (CW "a"))) (ad (fC (.int 0)) (ao)))))))
 (av)))
noncomputable def cw:List V→Hp→Out V:=ci [CW "self",CW "c",CW "a",CW "b"] d8
noncomputable def ik:FS:=am (aH (gY) (a8 580 (CW "sorts") (ae (CW "self"))))
 (am (aH (gY) (a8 580 (CW "functions") (ae (CW "self"))))
 (am (aH (b8 (ao)) (a8 580 (CW "brought") (ae (CW "self"))))
 (am (aH (b8 (ao)) (a8 580 (CW "scopes") (ae (CW "self"))))
 (am (aH (b8 (ao)) (a8 580 (CW "lets") (ae (CW "self"))))
 (am (aH (fC (.int 1)) (a8 580 (CW "numeral_sort") (ae (CW "self"))))
 (av))))))
noncomputable def dO:List V→Hp→Out V:=ci [CW "self"] ik
noncomputable def iK:FS:=am (aH (ae (CW "bank")) (a8 580 (CW "bank") (ae (CW "self"))))
 (am (cR (aN (isI 580 (CW "clear")) dO (ae (CW "self")) (ao)))
 (av))
noncomputable def dZ:List V→Hp→Out V:=ci [CW "self",CW "bank"] iK
noncomputable def f8:FS:=am (aH (ae (CW "bank")) (a8 704 (CW "bank") (ae (CW "self"))))
 (am (aH (ae (CW "symbols")) (a8 704 (CW "symbols") (ae (CW "self"))))
 (av))
noncomputable def cI:List V→Hp→Out V:=ci [CW "self",CW "bank",CW "symbols"] f8
noncomputable def eC:FS:=am (aH (ae (CW "bank")) (a8 868 (CW "bank") (ae (CW "self"))))
 (am (aH (ae (CW "symbols")) (a8 868 (CW "symbols") (ae (CW "self"))))
 (am (aH (aG (fj 704 cI) (ad (ae (CW "bank")) (ad (ae (CW "symbols")) (ao)))) (a8 868 (CW "sort_reader") (ae (CW "self"))))
 (av)))
noncomputable def cB:List V→Hp→Out V:=ci [CW "self",CW "bank",CW "symbols"] eC
noncomputable def ee:FS:=am (a6 (ae (CW "some")))
 (av)
noncomputable def bn:List V→Hp→Out V:=ci [CW "self",CW "some"] ee
noncomputable def bo:FE:=aN (isI 400 (CW "eq")) cv (a9 868 (CW "bank") (ae (CW "self"))) (ad (ae (CW "a")) (ad (ae (CW "b")) (ao)))
noncomputable def bH:FS:=am (aH (aN (isI 400 (CW "implies_of")) bV (a9 868 (CW "bank") (ae (CW "self"))) (ad (ae (CW "t")) (ad (ae (CW "found")) (ao)))) (bA (CW "found")))
 (av)
noncomputable def bI:FS:=am (aH (aN (isI 400 (CW "xor_of")) cH (a9 868 (CW "bank") (ae (CW "self"))) (ad (ae (CW "found")) (ad (ae (CW "t")) (ao)))) (bA (CW "found")))
 (av)
noncomputable def aU:FS:=am (fIf (mD (aD oEq (ae (CW "name")) (fC (.str (CW "not")))) (aD oEq (aG bL (ad (ae (CW "given")) (ao))) (fC (.int 1)))) (am (a6 (aN (isI 400 (CW "not_of")) aT (a9 868 (CW "bank") (ae (CW "self"))) (ad (ba (ae (CW "given")) (fC (.int 0))) (ao))))
 (av)) (av))
 (am (fIf (aD oEq (ae (CW "name")) (fC (.str (CW "and")))) (am (a6 (aN (isI 400 (CW "and_of")) bf (a9 868 (CW "bank") (ae (CW "self"))) (ad (ae (CW "given")) (ao))))
 (av)) (av))
 (am (fIf (aD oEq (ae (CW "name")) (fC (.str (CW "or")))) (am (a6 (aN (isI 400 (CW "or_of")) bK (a9 868 (CW "bank") (ae (CW "self"))) (ad (ae (CW "given")) (ao))))
 (av)) (av))
 (am (fIf (mD (aD oEq (ae (CW "name")) (fC (.str (CW "ite")))) (aD oEq (aG bL (ad (ae (CW "given")) (ao))) (fC (.int 3)))) (am (aH (aN (isI 868 (CW "alike")) bn (ae (CW "self")) (ad (cN (ae (CW "given")) (fC (.int 1)) (fC .none) (fC .none)) (ao))) (bA (CW "both")))
 (am (a6 (aN (isI 400 (CW "ite")) cw (a9 868 (CW "bank") (ae (CW "self"))) (ad (ba (ae (CW "given")) (fC (.int 0))) (ad (ba (ae (CW "both")) (fC (.int 0))) (ad (ba (ae (CW "both")) (fC (.int 1))) (ao))))))
 (av))) (av))
 (am (fIf (fOr (aD oLt (aG bL (ad (ae (CW "given")) (ao))) (fC (.int 2))) (aD oIn (ae (CW "name")) (bM (ad (fC (.str (CW "not"))) (ad (fC (.str (CW "ite"))) (ad (fC (.str (CW "true"))) (ad (fC (.str (CW "false"))) (ao)))))))) (am (iH ((fJ (fFv (ae (CW "name"))) (fJ (fC (.str (CW " has another number of arguments"))) (fJ0))) Str.empty))
 (av)) (av))
 (am (fIf (aD oEq (ae (CW "name")) (fC (.str (CW "xor")))) (am (aH (ba (ae (CW "given")) (fC (.int 0))) (bA (CW "found")))
 (am (fK (dz (cN (ae (CW "given")) (fC (.int 1)) (fC .none) (fC .none))) (bA (CW "t")) (bI))
 (am (a6 (ae (CW "found")))
 (av)))) (av))
 (am (fIf (aD oEq (ae (CW "name")) (fC (.str (CW "=>")))) (am (aH (ba (ae (CW "given")) (kH (fC (.int 1)))) (bA (CW "found")))
 (am (fK (uF (ad (cN (ae (CW "given")) (fC .none) (kH (fC (.int 1))) (fC .none)) (ao))) (bA (CW "t")) (bH))
 (am (a6 (ae (CW "found")))
 (av)))) (av))
 (am (aH (aN (isI 868 (CW "alike")) bn (ae (CW "self")) (ad (ae (CW "given")) (ao))) (bA (CW "some")))
 (am (fIf (aD oEq (ae (CW "name")) (fC (.str (CW "=")))) (am (a6 (aN (isI 400 (CW "and_of")) bf (a9 868 (CW "bank") (ae (CW "self"))) (ad (b7 [CW "self"] (uG (ad (ae (CW "some")) (ad (cN (ae (CW "some")) (fC (.int 1)) (fC .none) (fC .none)) (ao)))) (m9 (CW "a") (CW "b")) (fC (.bool true)) (bo)) (ao))))
 (av)) (av))
 (am (fIf (aD oEq (aG bL (ad (ae (CW "some")) (ao))) (fC (.int 2))) (am (a6 (aN (isI 400 (CW "not_of")) aT (a9 868 (CW "bank") (ae (CW "self"))) (ad (aN (isI 400 (CW "eq")) cv (a9 868 (CW "bank") (ae (CW "self"))) (ad (ba (ae (CW "some")) (fC (.int 0))) (ad (ba (ae (CW "some")) (fC (.int 1))) (ao)))) (ao))))
 (av)) (av))
 (am (a6 (aN (isI 400 (CW "distinct")) bF (a9 868 (CW "bank") (ae (CW "self"))) (ad (ae (CW "some")) (ao))))
 (av)))))))))))
noncomputable def aq:List V→Hp→Out V:=ci [CW "self",CW "name",CW "given"] aU
noncomputable def jE:FS:=am (aH (ba (ae (CW "feed")) (fC (.str (CW "at")))) (bA (CW "k")))
 (am (aH (aD iu (ae (CW "k")) (fC (.int 1))) (f7 (ae (CW "feed")) (fC (.str (CW "at")))))
 (am (fIf (aD oLt (ae (CW "k")) (aG bL (ad (ba (ae (CW "feed")) (fC (.str (CW "cells")))) (ao)))) (am (a6 (aD lG (ba (ba (ae (CW "feed")) (fC (.str (CW "cells")))) (ae (CW "k"))) (ae (CW "wide"))))
 (av)) (av))
 (am (a6 (aD lG (aD lG (aD iu (aD iu (aD pk (aD pk (fC (.int 7)) (ae (CW "k"))) (ae (CW "k"))) (aD pk (fC (.int 4)) (ae (CW "k")))) (fC (.int 2))) (fC (.int 61))) (ae (CW "wide"))))
 (av))))
noncomputable def aX:List V→Hp→Out V:=ci [CW "feed",CW "wide"] jE
noncomputable def iO:FE:=ba (ae (CW "pool")) (aG aX (ad (ae (CW "feed")) (ad (aG bL (ad (ae (CW "pool")) (ao))) (ao))))
noncomputable def iP:FE:=ba (ae (CW "late")) (aG aX (ad (ae (CW "feed")) (ad (aG bL (ad (ae (CW "late")) (ao))) (ao))))
noncomputable def qw:FS:=am (aH (aG aX (ad (ae (CW "feed")) (ad (fC (.int 5)) (ao)))) (bA (CW "way")))
 (am (aH (dK (aD oIn (ae (CW "name")) (bM (ad (fC (.str (CW "="))) (ad (fC (.str (CW "distinct"))) (ao))))) (ae (CW "things")) (ae (CW "truths"))) (bA (CW "fitting")))
 (am (aH (dK (aD oLt (ae (CW "way")) (fC (.int 3))) (ae (CW "fitting")) (dK (aD oEq (ae (CW "way")) (fC (.int 3))) (ae (CW "things")) (aD iu (aD iu (ae (CW "truths")) (ae (CW "things"))) (b8 (ad (ae (CW "other")) (ao)))))) (bA (CW "pool")))
 (am (fIf (mD (aD oEq (ae (CW "name")) (fC (.str (CW "ite")))) (aD oGt (aG aX (ad (ae (CW "feed")) (ad (fC (.int 3)) (ao)))) (fC (.int 0)))) (am (aH (ba (b8 (ad (ae (CW "truths")) (ad (ae (CW "things")) (ao)))) (aG aX (ad (ae (CW "feed")) (ad (fC (.int 2)) (ao))))) (bA (CW "late")))
 (am (a6 (aD iu (b8 (ad (ba (ae (CW "pool")) (aG aX (ad (ae (CW "feed")) (ad (aG bL (ad (ae (CW "pool")) (ao))) (ao))))) (ao))) (b7 [CW "feed",CW "late"] (df (ad (fC (.int 2)) (ao))) (cz (CW "turn")) (fC (.bool true)) (iP))))
 (av))) (av))
 (am (aH (dK (mD (aD oEq (ae (CW "name")) (fC (.str (CW "not")))) (aD oGt (aG aX (ad (ae (CW "feed")) (ad (fC (.int 3)) (ao)))) (fC (.int 0)))) (fC (.int 1)) (aG aX (ad (ae (CW "feed")) (ad (fC (.int 6)) (ao))))) (bA (CW "many")))
 (am (a6 (b7 [CW "feed",CW "pool"] (df (ad (ae (CW "many")) (ao))) (cz (CW "turn")) (fC (.bool true)) (iO)))
 (av))))))
noncomputable def dU:List V→Hp→Out V:=ci [CW "feed",CW "name",CW "truths",CW "things",CW "other"] qw
noncomputable def fk:FE:=aD oNe (ae (CW "s")) (fC (.int 0))
noncomputable def fm:FE:=ae (CW "s")
noncomputable def eH:FS:=am (aH (bM (ad (aG bL (ad (ae (CW "sorts")) (ao))) (ad (aD oEq (b7 [] (dz (ae (CW "sorts"))) (cz (CW "s")) (fk) (fm)) (b8 (ao))) (ao)))) (ig [CW "many",CW "are_truths"]))
 (am (fIf (aD oEq (ae (CW "name")) (fC (.str (CW "not")))) (am (a6 (fOr (aD oNe (ae (CW "many")) (fC (.int 1))) (jB (ae (CW "are_truths")))))
 (av)) (av))
 (am (fIf (aD oIn (ae (CW "name")) (bM (ad (fC (.str (CW "and"))) (ad (fC (.str (CW "or"))) (ao))))) (am (a6 (jB (ae (CW "are_truths"))))
 (av)) (av))
 (am (fIf (aD oEq (ae (CW "name")) (fC (.str (CW "ite")))) (am (a6 (fOr (aD oNe (ae (CW "many")) (fC (.int 3))) (fOr (aD oNe (ba (ae (CW "sorts")) (fC (.int 0))) (fC (.int 0))) (aD oNe (ba (ae (CW "sorts")) (fC (.int 1))) (ba (ae (CW "sorts")) (fC (.int 2)))))))
 (av)) (av))
 (am (fIf (fOr (aD oLt (ae (CW "many")) (fC (.int 2))) (aD oEq (ae (CW "name")) (fC (.str (CW "true"))))) (am (a6 (fC (.bool true)))
 (av)) (av))
 (am (a6 (dK (aD oIn (ae (CW "name")) (bM (ad (fC (.str (CW "xor"))) (ad (fC (.str (CW "=>"))) (ao))))) (jB (ae (CW "are_truths"))) (aD oNe (aN isL iz (ae (CW "sorts")) (ad (ba (ae (CW "sorts")) (fC (.int 0))) (ao))) (ae (CW "many")))))
 (av))))))
noncomputable def dH:List V→Hp→Out V:=ci [CW "name",CW "sorts"] eH
noncomputable def fw:FE:=aD iU (ba (ae (CW "worths")) (ae (CW "k"))) (cN (ae (CW "worths")) (fC .none) (ae (CW "k")) (fC .none))
noncomputable def gZ:FE:=ae (CW "k")
noncomputable def j3:FE:=aD lN (ae (CW "one")) (fC (.bool true))
noncomputable def j4:FE:=ae (CW "one")
noncomputable def kI:FS:=am (aH (bM (ad (aG bL (ad (ae (CW "worths")) (ao))) (ad (aG bL (ad (b7 [] (dz (ae (CW "worths"))) (cz (CW "one")) (j3) (j4)) (ao))) (ao)))) (ig [CW "many",CW "trues"]))
 (am (fIf (aD oEq (ae (CW "name")) (fC (.str (CW "ite")))) (am (a6 (ba (ae (CW "worths")) (dK (ba (ae (CW "worths")) (fC (.int 0))) (fC (.int 1)) (fC (.int 2)))))
 (av)) (av))
 (am (fIf (aD oIn (ae (CW "name")) (bM (ad (fC (.str (CW "="))) (ad (fC (.str (CW "distinct"))) (ao))))) (am (aH (aG bL (ad (b7 [CW "worths"] (df (ad (ae (CW "many")) (ao))) (cz (CW "k")) (fw) (gZ)) (ao))) (bA (CW "kinds")))
 (am (a6 (aD oEq (ae (CW "kinds")) (dK (aD oEq (ae (CW "name")) (fC (.str (CW "=")))) (fC (.int 1)) (ae (CW "many")))))
 (av))) (av))
 (am (fIf (aD oEq (ae (CW "name")) (fC (.str (CW "=>")))) (am (a6 (fOr (aD oLt (ae (CW "trues")) (aD qP (ae (CW "many")) (fC (.int 1)))) (ba (ae (CW "worths")) (kH (fC (.int 1))))))
 (av)) (av))
 (am (a6 (ba (eG (ad (fC (.str (CW "and"))) (ad (aD oEq (ae (CW "trues")) (ae (CW "many"))) (ad (fC (.str (CW "or"))) (ad (aD oGt (ae (CW "trues")) (fC (.int 0))) (ad (fC (.str (CW "not"))) (ad (aD oEq (ae (CW "trues")) (fC (.int 0))) (ad (fC (.str (CW "xor"))) (ad (aD oEq (aD lG (ae (CW "trues")) (fC (.int 2))) (fC (.int 1))) (ao)))))))))) (ae (CW "name"))))
 (av)))))
noncomputable def kt:List V→Hp→Out V:=ci [CW "name",CW "worths"] kI
noncomputable def mF(G:List V→Hp→Out V):FE:=aD oIn (ba (ae (CW "some")) (ae (CW "k"))) (cN (ae (CW "some")) (fC .none) (ae (CW "k")) (fC .none))
noncomputable def mG(G:List V→Hp→Out V):FE:=ae (CW "k")
noncomputable def eh(G:List V→Hp→Out V):FE:=aG G (ad (ae (CW "bank")) (ad (ae (CW "part")) (ad (ae (CW "world")) (ao))))
noncomputable def f9(G:List V→Hp→Out V):FS:=am (aH (aN (isI 400 (CW "op")) i9 (ae (CW "bank")) (ad (ae (CW "t")) (ao))) (bA (CW "op")))
 (am (fIf (aD oIn (ae (CW "op")) (bM (ad (fC (.str (CW "true"))) (ad (fC (.str (CW "false"))) (ao))))) (am (a6 (aD oEq (ae (CW "op")) (fC (.str (CW "true")))))
 (av)) (av))
 (am (fIf (aD oEq (ae (CW "op")) (fC (.str (CW "app")))) (am (a6 (ba (ae (CW "world")) (ae (CW "t"))))
 (av)) (av))
 (am (aH (b7 [CW "bank",CW "world"] (dz (aN (isI 400 (CW "args")) fW (ae (CW "bank")) (ad (ae (CW "t")) (ao)))) (cz (CW "part")) (fC (.bool true)) ((eh G))) (bA (CW "some")))
 (am (fIf (aD oEq (ae (CW "op")) (fC (.str (CW "ite")))) (am (a6 (dK (ba (ae (CW "some")) (fC (.int 0))) (ba (ae (CW "some")) (fC (.int 1))) (ba (ae (CW "some")) (fC (.int 2)))))
 (av)) (av))
 (am (fIf (aD oIn (ae (CW "op")) (bM (ad (fC (.str (CW "not"))) (ad (fC (.str (CW "and"))) (ad (fC (.str (CW "or"))) (ao)))))) (am (a6 (dK (aD oEq (ae (CW "op")) (fC (.str (CW "not")))) (jB (ba (ae (CW "some")) (fC (.int 0)))) (dK (aD oEq (ae (CW "op")) (fC (.str (CW "and")))) (aD iU (fC (.bool false)) (ae (CW "some"))) (aD oIn (fC (.bool true)) (ae (CW "some"))))))
 (av)) (av))
 (am (fIf (aD oEq (ae (CW "op")) (fC (.str (CW "=>")))) (am (a6 (fOr (ba (ae (CW "some")) (fC (.int 1))) (jB (ba (ae (CW "some")) (fC (.int 0))))))
 (av)) (av))
 (am (fIf (aD oIn (ae (CW "op")) (bM (ad (fC (.str (CW "="))) (ad (fC (.str (CW "xor"))) (ao))))) (am (a6 (aD oEq (aD oEq (ba (ae (CW "some")) (fC (.int 0))) (ba (ae (CW "some")) (fC (.int 1)))) (aD oEq (ae (CW "op")) (fC (.str (CW "="))))))
 (av)) (av))
 (am (a6 (aD oEq (b7 [CW "some"] (df (ad (aG bL (ad (ae (CW "some")) (ao))) (ao))) (cz (CW "k")) ((mF G)) ((mG G))) (b8 (ao))))
 (av)))))))))
noncomputable def cf:Nat→List V→Hp→Out V
 | 0=>fun _ _=>.bad
 | n + 1=>ci [CW "bank",CW "t",CW "world"] (f9 (cf n))
noncomputable def dP:FS:=am (aH (aD oEq (aD lG (aD zg (ae (CW "number")) (aD nS (fC (.int 2)) (ae (CW "k")))) (fC (.int 2))) (fC (.int 1))) (f7 (ae (CW "world")) (ba (ae (CW "truths")) (ae (CW "k")))))
 (am (aH (ba (ae (CW "numbers")) (ae (CW "k"))) (f7 (ae (CW "world")) (ba (ae (CW "things")) (ae (CW "k")))))
 (av))
noncomputable def dQ:FS:=am (aH (kG (ad (ae (CW "other")) (ad (fC (.int 0)) (ao)))) (bA (CW "world")))
 (am (fK (df (ad (fC (.int 3)) (ao))) (bA (CW "k")) (dP))
 (am (cR (aN isL cr (ae (CW "found")) (ad (ae (CW "world")) (ao))))
 (av)))
noncomputable def eY:FS:=am (fK (dz (bM (ad (bM (ad (fC (.int 0)) (ad (fC (.int 0)) (ad (fC (.int 0)) (ao))))) (ad (bM (ad (fC (.int 0)) (ad (fC (.int 0)) (ad (fC (.int 1)) (ao))))) (ad (bM (ad (fC (.int 0)) (ad (fC (.int 1)) (ad (fC (.int 0)) (ao))))) (ad (bM (ad (fC (.int 0)) (ad (fC (.int 1)) (ad (fC (.int 1)) (ao))))) (ad (bM (ad (fC (.int 0)) (ad (fC (.int 1)) (ad (fC (.int 2)) (ao))))) (ao)))))))) (bA (CW "numbers")) (dQ))
 (av)
noncomputable def j6:FS:=am (aH (b8 (ao)) (bA (CW "found")))
 (am (fK (df (ad (fC (.int 8)) (ao))) (bA (CW "number")) (eY))
 (am (a6 (ae (CW "found")))
 (av)))
noncomputable def fp:List V→Hp→Out V:=ci [CW "truths",CW "things",CW "other"] j6
noncomputable def mE:FS:=am (sj (am (a6 (aN (isI 868 (CW "core")) aq (ae (CW "maker")) (ad (ae (CW "name")) (ad (ae (CW "given")) (ao)))))
 (av)) (fC .none))
 (av)
noncomputable def dw:List V→Hp→Out V:=ci [CW "maker",CW "name",CW "given"] mE
noncomputable def cn:FE:=aD oNe (ae (CW "rest")) (b8 (ao))
noncomputable def dj:FS:=am (cR (aN isL cr (ae (CW "found")) (ad (aN isL rU (ae (CW "rest")) (ad (aG aX (ad (ae (CW "feed")) (ad (aG bL (ad (ae (CW "rest")) (ao))) (ao)))) (ao))) (ao))))
 (av)
noncomputable def oV:FS:=am (fIf (aD oIn (ae (CW "name")) (bM (ad (fC (.str (CW "ite"))) (ad (fC (.str (CW "not"))) (ao))))) (am (a6 (ae (CW "given")))
 (av)) (av))
 (am (aH (bM (ad (dK (aD oEq (ae (CW "name")) (fC (.str (CW "=>")))) (cN (ae (CW "given")) (fC .none) (kH (fC (.int 1))) (fC .none)) (aG lY (ad (ae (CW "given")) (ao)))) (ad (b8 (ao)) (ao)))) (ig [CW "rest",CW "found"]))
 (am (d7 (cn) (dj) 5000)
 (am (a6 (dK (aD oEq (ae (CW "name")) (fC (.str (CW "=>")))) (aD iu (ae (CW "found")) (cN (ae (CW "given")) (kH (fC (.int 1))) (fC .none) (fC .none))) (ae (CW "found"))))
 (av))))
noncomputable def gS:List V→Hp→Out V:=ci [CW "feed",CW "name",CW "given"] oV
noncomputable def j5:FE:=aG (cf 20) (ad (ae (CW "bank")) (ad (ae (CW "t")) (ad (ae (CW "world")) (ao))))
noncomputable def j2:FS:=am (aH (aG kt (ad (ae (CW "name")) (ad (b7 [CW "bank",CW "world"] (dz (ae (CW "given"))) (cz (CW "t")) (fC (.bool true)) (j5)) (ao)))) (bA (CW "due")))
 (am (fIf (fOr (aD oNe (aG (cf 20) (ad (ae (CW "bank")) (ad (ae (CW "found")) (ad (ae (CW "world")) (ao))))) (ae (CW "due"))) (aD oNe (aG (cf 20) (ad (ae (CW "bank")) (ad (ae (CW "late")) (ad (ae (CW "world")) (ao))))) (ae (CW "due")))) (am (a6 (fC (.bool false)))
 (av)) (av))
 (av))
noncomputable def gM:FE:=aN (isI 400 (CW "sort")) dv (ae (CW "bank")) (ad (ae (CW "t")) (ao))
noncomputable def iL:FS:=am (aH (ba (fC (.tup [.str (CW "and"),.str (CW "or"),.str (CW "xor"),.str (CW "=>"),.str (CW "="),.str (CW "distinct"),.str (CW "ite"),.str (CW "not"),.str (CW "xor"),.str (CW "=>"),.str (CW "true"),.str (CW "distinct")])) (aG aX (ad (ae (CW "feed")) (ad (aG bL (ad (fC (.tup [.str (CW "and"),.str (CW "or"),.str (CW "xor"),.str (CW "=>"),.str (CW "="),.str (CW "distinct"),.str (CW "ite"),.str (CW "not"),.str (CW "xor"),.str (CW "=>"),.str (CW "true"),.str (CW "distinct")])) (ao))) (ao))))) (bA (CW "name")))
 (am (aH (aG dU (ad (ae (CW "feed")) (ad (ae (CW "name")) (ad (ae (CW "truths")) (ad (ae (CW "things")) (ad (ae (CW "other")) (ao))))))) (bA (CW "given")))
 (am (aH (aG dw (ad (ae (CW "maker")) (ad (ae (CW "name")) (ad (ae (CW "given")) (ao))))) (bA (CW "found")))
 (am (fIf (aD oNe (aD gy (ae (CW "found")) (fC .none)) (aG dH (ad (ae (CW "name")) (ad (b7 [CW "bank"] (dz (ae (CW "given"))) (cz (CW "t")) (fC (.bool true)) (gM)) (ao))))) (am (a6 (fC (.bool false)))
 (av)) (av))
 (am (fIf (aD gy (ae (CW "found")) (fC .none)) (am ((fun m H=>.ok .cont m H))
 (av)) (av))
 (am (aH (bM (ad (aG dw (ad (ae (CW "maker")) (ad (ae (CW "name")) (ad (aG gS (ad (ae (CW "feed")) (ad (ae (CW "name")) (ad (ae (CW "given")) (ao))))) (ao))))) (ad (aN (isI 400 (CW "size")) eQ (ae (CW "bank")) (ao)) (ao)))) (ig [CW "late",CW "size"]))
 (am (fIf (fOr (aD gy (ae (CW "late")) (fC .none)) (fOr (aD oNe (aN (isI 868 (CW "core")) aq (ae (CW "maker")) (ad (ae (CW "name")) (ad (ae (CW "given")) (ao)))) (ae (CW "found"))) (aD oNe (aN (isI 400 (CW "size")) eQ (ae (CW "bank")) (ao)) (ae (CW "size"))))) (am (a6 (fC (.bool false)))
 (av)) (av))
 (am (fIf (aD oNe (aN (isI 400 (CW "sort")) dv (ae (CW "bank")) (ad (ae (CW "found")) (ao))) (dK (aD oEq (ae (CW "name")) (fC (.str (CW "ite")))) (aN (isI 400 (CW "sort")) dv (ae (CW "bank")) (ad (ba (ae (CW "given")) (fC (.int 1))) (ao))) (fC (.int 0)))) (am (a6 (fC (.bool false)))
 (av)) (av))
 (am (fK (dz (ae (CW "worlds"))) (bA (CW "world")) (j2))
 (av)))))))))
noncomputable def iM:FE:=aN (isI 400 (CW "fresh_const")) bZ (ae (CW "bank")) (ad (ae (CW "name")) (ad (ba (ae (CW "sorts")) (fC (.int 0))) (ao)))
noncomputable def iN:FE:=aN (isI 400 (CW "fresh_const")) bZ (ae (CW "bank")) (ad (ae (CW "name")) (ad (fC (.int 0)) (ao)))
noncomputable def Ak:FS:=am (aH (bM (ad (eG (ad (fC (.str (CW "cells"))) (ad (jc (ae (CW "script")) (fC (.int 50))) (ad (fC (.str (CW "at"))) (ad (fC (.int 0)) (ao)))))) (ad (aG (fj 400 fX) (ao)) (ao)))) (j1 2 (fT (bA (CW "feed")) (fT (bA (CW "bank")) (fT0)))))
 (am (aH (b8 (ad (aN (isI 400 (CW "declare_sort")) cp (ae (CW "bank")) (ad (fC (.str (CW "U"))) (ao))) (ad (aN (isI 400 (CW "declare_sort")) cp (ae (CW "bank")) (ad (fC (.str (CW "V"))) (ao))) (ao)))) (bA (CW "sorts")))
 (am (aH (b7 [CW "bank"] (dz (bM (ad (fC (.str (CW "p"))) (ad (fC (.str (CW "q"))) (ad (fC (.str (CW "r"))) (ao)))))) (cz (CW "name")) (fC (.bool true)) (iN)) (bA (CW "truths")))
 (am (aH (bM (ad (b7 [CW "bank",CW "sorts"] (dz (bM (ad (fC (.str (CW "c"))) (ad (fC (.str (CW "d"))) (ad (fC (.str (CW "e"))) (ao)))))) (cz (CW "name")) (fC (.bool true)) (iM)) (ad (aN (isI 400 (CW "fresh_const")) bZ (ae (CW "bank")) (ad (fC (.str (CW "f"))) (ad (ba (ae (CW "sorts")) (fC (.int 1))) (ao)))) (ao)))) (ig [CW "things",CW "other"]))
 (am (aH (bM (ad (aG fp (ad (ae (CW "truths")) (ad (ae (CW "things")) (ad (ae (CW "other")) (ao))))) (ad (aG (fj 868 cB) (ad (ae (CW "bank")) (ad (aG (fj 580 dZ) (ad (ae (CW "bank")) (ao))) (ao)))) (ao)))) (ig [CW "worlds",CW "maker"]))
 (am (aH (aD iu (ae (CW "truths")) (b8 (ad (aN (isI 400 (CW "not_of")) aT (ae (CW "bank")) (ad (ba (ae (CW "truths")) (fC (.int 0))) (ao))) (ad (aN (isI 400 (CW "true_term")) dG (ae (CW "bank")) (ao)) (ao))))) (bA (CW "truths")))
 (am (fK (df (ad (fC (.int 5)) (ao))) (bA (CW "turn")) (iL))
 (am (a6 (fC (.bool true)))
 (av))))))))
noncomputable def tA:List V→Hp→Out V:=ci [CW "script"] Ak
theorem cS{a b:String}(h:CW a=CW b):a=b:=by
 rw[Str.ofString_eq_toList,Str.ofString_eq_toList]at h
 have h1:(a.toList.map Char.toNat).toArray=(b.toList.map Char.toNat).toArray:=congrArg Str.cps h
 have h2:a.toList.map Char.toNat=b.toList.map Char.toNat:=by simpa using h1
 have h3:a.toList=b.toList:=(List.map_inj_right fun x y e=>Char.toNat_inj.mp e).mp h2
 exact String.toList_inj.mp h3
theorem Ba(a b:String):(CW a=CW b)=(a=b):=propext ⟨cS,fun e=>e ▸ rfl⟩
theorem pq(a b:String):(CW a == CW b)=(a == b):=by
 rw[Bool.eq_iff_iff,beq_iff_eq,beq_iff_eq,Ba]

theorem dN{α β:Type}(a:α) (H:Hp) (k:α→Hp→Out β):Out.bind (.ok a H) k=k a H:=rfl
theorem qQ{α β:Type}(H:Hp) (k:α→Hp→Out β):Out.bind (.exc H:Out α) k=.exc H:=rfl
theorem ju{α:Type}(m:Fm) (a:α) (H:Hp) (k:α→Hp→OutS):Out.bindS m (.ok a H) k=k a H:=rfl
theorem sF{α:Type}(m:Fm) (H:Hp) (k:α→Hp→OutS):Out.bindS m (.exc H:Out α) k=.exc m H:=rfl
theorem sM(f:Fl) (m:Fm) (H:Hp) (k:Fl→Fm→Hp→OutS):OutS.bind (.ok f m H) k=k f m H:=rfl
theorem Ax(m:Fm) (H:Hp) (k:Fl→Fm→Hp→OutS):OutS.bind (.exc m H) k=.exc m H:=rfl

theorem oY{H t:Hp}{i:Nat}{o:AObj}(h:H[i]? = some o):(H++t)[i]? = some o:=by
 rw[List.getElem?_append_left (List.getElem?_eq_some_iff.mp h).1];exact h
theorem bc(H:Hp) (o:AObj) (t:Hp):(H++o::t)[H.length]? = some o:=by simp
theorem aP{H:Hp}{i j:Nat}{o o':AObj}(hn:i ≠ j) (h:H[i]? = some o):(H.set j o')[i]? = some o:=by
 rw[List.getElem?_set_ne (Ne.symm hn)];exact h
theorem be{H:Hp}{i:Nat}{o o':AObj}(h:H[i]? = some o):(H.set i o')[i]? = some o':=by
 rw[List.getElem?_set_self (List.getElem?_eq_some_iff.mp h).1]
theorem bq{H:Hp}{i:Nat}{o:AObj}(h:H[i]? = some o):i < H.length:=(List.getElem?_eq_some_iff.mp h).1
theorem eN{xs:List V}{H:Hp}(h:xs.length≤1000000):eZ xs H=.ok (.ref H.length) (H++[.list xs]):=if_pos h
theorem sq{n:Nat}{k:Int}(h0:0≤k) (h1:k < n) (hn:n≤1000000):idx n k=some k.toNat:=by
 unfold idx
 rw[if_pos ⟨Int.lt_of_lt_of_le h1 (Int.le_trans (Int.ofNat_le.mpr hn) (by decide)),Int.le_trans (by decide) h0⟩,if_pos h0,if_pos h1]
theorem yY{n k:Nat}(h1:k < n) (hn:n≤1000000):idx n (k:Int)=some k:=by rw[sq (Dj k) (Int.ofNat_lt.mpr h1) hn,Di]
theorem kg{a b:Int}{H:Hp}(h:0 < b):lG (.int a) (.int b) H=.ok (.int (a.fmod b)) H:=by
 exact if_pos (Int.ne_of_gt h)
theorem bj{H:Hp}{i:Nat}{xs:List V}(h:H[i]? = some (.list xs)) (hl:xs.length < 1000000000):bL [.ref i] H=.ok (.int xs.length) H:=by
 unfold bL
 simp only[h]
 rw[if_pos hl]
theorem cO{H:Hp}{i:Nat}{xs:List V}{k:Int}{v:V}(h:H[i]? = some (.list xs)) (hl:xs.length≤1000000) (h0:0≤k) (h1:k < xs.length) (hv:xs[k.toNat]? = some v):cm (.ref i) (.int k) H=.ok v H:=by
 unfold cm
 dsimp only
 rw[h,iV,sq h0 h1 hl,bP,hv,bP]
theorem nR{H:Hp}{xs:List V}{k:Int}{v:V}(hl:xs.length≤1000000) (h0:0≤k) (h1:k < xs.length) (hv:xs[k.toNat]? = some v):cm (.tup xs) (.int k) H=.ok v H:=by
 unfold cm
 dsimp only
 rw[sq h0 h1 hl,bP,hv,bP]
theorem jj{H:Hp}{j:Nat}{xs:List V}(h:H[j]? = some (.list xs)):fQ H (.ref j)=some xs:=by
 show onL H[j]? _ _=_
 rw[h];rfl
theorem Bj{H:Hp}{xs:List V}:fQ H (.tup xs)=some xs:=rfl
theorem uT{i:Nat}{k:Str}{H:Hp}:cm (.ref i) (.str k) H=zj H[i]? (fun kvs=>onO (dI kvs k) (fun x=>.ok x H) .bad) .bad:=rfl
theorem tO{a b:Int}{H:Hp}:iu (.int a) (.int b) H=.ok (.int (a + b)) H:=rfl
theorem tQ{a b:Int}{H:Hp}:qP (.int a) (.int b) H=.ok (.int (a - b)) H:=rfl
theorem pn{a b:Int}{H:Hp}:pk (.int a) (.int b) H=if -1000000000000≤a∧a≤1000000000000 then .ok (.int (a * b)) H else .bad:=rfl
theorem mQ{a b:Int}{H:Hp}:oLt (.int a) (.int b) H=.ok (.bool (decide (a < b))) H:=rfl
theorem sD{a b:Int}{H:Hp}:oGt (.int a) (.int b) H=.ok (.bool (decide (a > b))) H:=rfl
theorem qL{vs:List V}{k:Int}{H:Hp}:cm (.tup vs) (.int k) H=onO (idx vs.length k) (fun j=>onO vs[j]? (fun x=>.ok x H) .bad) .bad:=rfl
theorem wH{xs:List V}:isL (.list xs)=true:=rfl
theorem uj{i:Nat}{v:V}{H:Hp}:cr [.ref i,v] H=match H[i]? with|some (.list xs)=>if xs.length < 1000000 then .ok .none (H.set i (.list (xs++[v])))else .bad|_=>.bad:=rfl
theorem qu{ft:FE}{fb:FS}{n:Nat}{m:Fm}{H:Hp}:d7 ft fb (n + 1) m H=(ft m H).bindS m fun v H1=>match v with
  | .bool true=>(fb m H1).bind fun fl m2 H2=>(match fl with
   | .next=>d7 ft fb n m2 H2
   | .cont=>d7 ft fb n m2 H2
   | .brk=>.ok .next m2 H2
   | .ret v=>.ok (.ret v) m2 H2)
  | .bool false=>.ok .next m H1
  | _=>.bad:=rfl
theorem tG{fb:FS}{fe:FE}{m:Fm}{H:Hp}:sj fb fe m H=match fb m H with
 | .exc m1 H1=>(match fe m1 H1 with
  | .ok v H2=>.ok (.ret v) m1 H2
  | _=>.bad)
 | o=>o:=rfl
theorem Cl{n:Nat}:idx (n + 1) 0=some 0:=by unfold idx;rw[if_pos (by decide),if_pos (by decide),if_pos (show(0:Int) < ((n + 1:Nat):Int) from Int.ofNat_lt.mpr (Nat.succ_pos n))];rfl
theorem Ck{n:Nat}:idx (n + 2) 1=some 1:=by unfold idx;rw[if_pos (by decide),if_pos (by decide),if_pos (show(1:Int) < ((n + 2:Nat):Int) from Int.ofNat_lt.mpr (Nat.le_add_left 2 n))];rfl
theorem jk(s:String):PyData.strOk (CW s)=true:=by
 rw[Str.ofString_eq_toList]
 unfold PyData.strOk
 rw[Array.all_eq_true]
 intro i hi
 simp only[List.getElem_toArray,List.getElem_map,decide_eq_true_eq]
 have hv:=(s.toList[i]'(by simpa using hi)).valid
 rcases hv with h|⟨_,h⟩
 ·exact Dd h (by decide)
 ·exact h
theorem lO{H:Hp}{n:Nat}{x:Str}(h:PyData.strOk x=true):toD H n (.str x)=some (.str x):=by
 cases n<;>exact if_pos h
theorem jl{H:Hp}{n:Nat}{i:Int}:toD H n (.int i)=some (.int i):=by cases n<;>rfl
theorem xY{H:Hp}{n:Nat}{b:Bool}:toD H n (.bool b)=some (.bool b):=by cases n<;>rfl
theorem kj{H:Hp}{n i:Nat}{xs:List V}(h:H[i]? = some (.list xs)):toD H (n + 1) (.ref i)=(lI (toD H n) xs).map .list:=by
 show onL H[i]? _ _=_
 rw[h];rfl
theorem zh{x y:Str}{H:Hp}(h1:PyData.strOk x=true) (h2:PyData.strOk y=true):oEq (.str x) (.str y) H=.ok (.bool (x == y)) H:=by
 unfold oEq;rw[lO h1,lO h2];rfl
theorem fO{x y:String}{H:Hp}:oEq (.str (CW x)) (.str (CW y)) H=.ok (.bool (x == y)) H:=by
 rw[zh (jk x) (jk y),← pq]
theorem eO{a b:Int}{H:Hp}:oEq (.int a) (.int b) H=.ok (.bool (a == b)) H:=by
 unfold oEq;rw[jl,jl];rfl
theorem gB{a b:Int}{H:Hp}:oNe (.int a) (.int b) H=.ok (.bool !(a == b)) H:=by
 unfold oNe;rw[jl,jl];rfl
noncomputable def dy(h:Nat) (H H':Hp):Prop:=H.length≤H'.length∧∀ i o,i ≠ h→H[i]? = some o→H'[i]? = some o
noncomputable def Ext(H H':Hp):Prop:=∃ t,H'=H++t
theorem dy.refl(h:Nat) (H:Hp):dy h H H:=⟨Nat.le_refl _,fun _ _ _ e=>e⟩
theorem dy.trans{h:Nat}{H1 H2 H3:Hp}(x:dy h H1 H2) (y:dy h H2 H3):dy h H1 H3:=⟨CX x.1 y.1,fun i o n e=>y.2 i o n (x.2 i o n e)⟩
theorem dy.set(h:Nat) (H:Hp) (o:AObj):dy h H (H.set h o):=⟨by simp,fun i o' n e=>aP n e⟩
theorem Ext.refl(H:Hp):Ext H H:=⟨[],by simp⟩
theorem Ext.app(H t:Hp):Ext H (H++t):=⟨t,rfl⟩
theorem Ext.trans{H1 H2 H3:Hp}(x:Ext H1 H2) (y:Ext H2 H3):Ext H1 H3:=by
 obtain⟨a,rfl⟩:=x;obtain⟨b,rfl⟩:=y;exact⟨a++b,by rw[List.append_assoc]⟩
theorem Ext.get{H H':Hp}(x:Ext H H') {i:Nat}{o:AObj}(e:H[i]? = some o):H'[i]? = some o:=by obtain⟨a,rfl⟩:=x;exact oY e
theorem Ext.len{H H':Hp}(x:Ext H H'):H.length≤H'.length:=by obtain⟨a,rfl⟩:=x;simp
theorem Ext.step{H H':Hp}(x:Ext H H') (h:Nat):dy h H H':=⟨x.len,fun _ _ _ e=>x.get e⟩
theorem Ext.set{H H':Hp}(x:Ext H H') {i:Nat}(hi:H.length≤i) (o:AObj):Ext H (H'.set i o):=by
 refine byC fun kq=>?_
 obtain⟨a,rfl⟩:=x
 refine kq ?_;try clear kq
 exact⟨a.set (i - H.length) o,by rw[List.set_append_right _ _ hi]⟩
theorem gv{xs:List V}(H:Hp) (h:xs.length≤1000000):∃ H1,eZ xs H=.ok (.ref H.length) H1∧Ext H H1∧H1[H.length]? = some (.list xs):=⟨_,eN h,.app _ _,by simp⟩
theorem lW{H:Hp}{i j:Nat}{xs ys:List V}(h1:H[i]? = some (.list xs)) (h2:H[j]? = some (.list ys)) (h:xs.length + ys.length≤1000000):
  ∃ H1,iu (.ref i) (.ref j) H=.ok (.ref H.length) H1∧Ext H H1∧H1[H.length]? = some (.list (xs++ys)):=by
 refine⟨H++[.list (xs++ys)],?_,.app _ _,by simp⟩
 unfold iu
 dsimp only
 rw[h1,h2]
 exact eN (by simpa using h)
theorem si{G:Hp→Prop}{fa:V→FS}{fb:FS}{v:V}{r:List V}{m:Fm}{H:Hp}(h:G H):eX G fa fb (v::r) m H=(fa v m H).bind fun fl m1 H1=>(match fl with
   | .next=>(fb m1 H1).bind fun fl m2 H2=>(match fl with
    | .next=>eX G fa fb r m2 H2
    | .cont=>eX G fa fb r m2 H2
    | .brk=>.ok .next m2 H2
    | .ret v=>.ok (.ret v) m2 H2)
   | _=>.bad):=by
 rw[eX];exact if_pos h
theorem jA{G:Hp→Prop}{fa:V→FS}{fb:FS}{m:Fm}{H:Hp}(h:G H):eX G fa fb [] m H=.ok .next m H:=by
 rw[eX];exact if_pos h
theorem fu{G:Hp→Prop}{fa:V→Fm→Option Fm}{ft fe:FE}{i:Nat}{m:Fm}{H:Hp}(h:G H):bN G fa ft fe i [] m H=.ok () H:=by
 rw[bN];exact if_pos h
theorem oF{G:Hp→Prop}{fa:V→Fm→Option Fm}{ft fe:FE}{i:Nat}{v:V}{r:List V}{m m1:Fm}{H:Hp}(h:G H) (hf:fa v m=some m1):bN G fa ft fe i (v::r) m H=(ft m1 H).bind fun b H1=>match b with
   | .bool true=>(fe m1 H1).bind fun x H2=>(match H2[i]? with
    | some (.list xs)=>if xs.length < 1000000 then bN G fa ft fe i r m1 (H2.set i (.list (xs++[x])))else .bad
    | _=>.bad)
   | .bool false=>bN G fa ft fe i r m1 H1
   | _=>.bad:=by
 rw[bN,if_pos h];simp only[hf]<;>rfl
theorem wD{n:Nat}(h:n < 1000000):idx (n + 1) (-1)=some n:=by
 unfold idx
 rw[if_pos ⟨by decide,by decide⟩,if_neg (by decide),if_pos (by omega)]
 congr 1
 omega
theorem mO{H:Hp}{i:Nat}{xs:List V}{v:V}(h:H[i]? = some (.list (xs++[v]))) (hl:xs.length < 1000000):cm (.ref i) (.int (-1)) H=.ok v H:=by
 unfold cm
 dsimp only
 rw[h,iV,C1,Df,List.length_nil,Nat.zero_add,wD hl,bP,List.getElem?_concat_length,bP]
theorem Ext.of_get{H H':Hp}(h:∀ i,i < H.length→H'[i]? = H[i]?):Ext H H':=by
 refine⟨H'.drop H.length,?_⟩
 apply List.ext_getElem?
 intro i
 by_cases hi:i < H.length
 ·rw[h i hi,List.getElem?_append_left hi]
 ·rw[List.getElem?_append_right (Nat.not_lt.mp hi),List.getElem?_drop,Nat.add_sub_cancel' (Nat.not_lt.mp hi)]
theorem au{x:Str}{v:V}{m:Fm}:((x,v)::m).lookup x=some v:=by rw[List.lookup_cons,beq_self_eq_true]
theorem aK{x y:Str}{v w:V}{m:Fm}(h:(x == y)=false) (q:m.lookup x=some v):((y,w)::m).lookup x=some v:=by rw[List.lookup_cons,h];exact q
theorem ah{x:Str}{m:Fm}{H:Hp}{v:V}(h:m.lookup x=some v):ae x m H=.ok v H:=by unfold ae;rw[h]
theorem aj{f:FE}{g:Fm→Hp→Out (List V)}{m:Fm}{H H1 H2:Hp}{v:V}{vs:List V}(h1:f m H=.ok v H1) (h2:g m H1=.ok vs H2):ad f g m H=.ok (v::vs) H2:=by unfold ad;rw[h1,dN,h2,dN]
theorem aV{F:List V→Hp→Out V}{g:Fm→Hp→Out (List V)}{m:Fm}{H H1:Hp}{vs:List V}{r:Out V}(h1:g m H=.ok vs H1) (h2:F vs H1=r):aG F g m H=r:=by unfold aG;rw[h1,dN,h2]
theorem aF{F:V→V→Hp→Out V}{f g:FE}{m:Fm}{H H1 H2:Hp}{v w:V}{r:Out V}(h1:f m H=.ok v H1) (h2:g m H1=.ok w H2) (h3:F v w H2=r):aD F f g m H=r:=by unfold aD;rw[h1,dN,h2,dN,h3]
theorem bw{f g:FE}{m:Fm}{H H1 H2:Hp}{v w:V}{r:Out V}(h1:f m H=.ok v H1) (h2:g m H1=.ok w H2) (h3:cm v w H2=r):ba f g m H=r:=aF h1 h2 h3
theorem cC{g:Fm→Hp→Out (List V)}{m:Fm}{H H1:Hp}{vs:List V}(h:g m H=.ok vs H1) (hl:Nat.ble vs.length 1000000=true):bM g m H=.ok (.tup vs) H1:=by unfold bM;rw[h,dN,if_pos (Nat.le_of_ble_eq_true hl)]
theorem eE{g:Fm→Hp→Out (List V)}{m:Fm}{H H1:Hp}{vs:List V}{r:Out V}(h:g m H=.ok vs H1) (q:eZ vs H1=r):b8 g m H=r:=by unfold b8;rw[h,dN,q]
theorem wt{f:FE}{m:Fm}{H H1:Hp}{b:Bool}(h:f m H=.ok (.bool b) H1):jB f m H=.ok (.bool !b) H1:=by unfold jB;rw[h];rfl
theorem qo{f:FE}{m:Fm}{H H1:Hp}{i:Int}(h:f m H=.ok (.int i) H1):kH f m H=.ok (.int (-i)) H1:=by unfold kH;rw[h];rfl
theorem e_c{v:V}{m:Fm}{H:Hp}:fC v m H=.ok v H:=rfl
theorem aA{m:Fm}{H:Hp}:ao m H=.ok [] H:=rfl
theorem aR{m:Fm}{H:Hp}:av m H=.ok .next m H:=rfl
theorem c_t{α:Type}{x y r:α}(h:x=r):cond true x y=r:=h
theorem c_f{α:Type}{x y r:α}(h:y=r):cond false x y=r:=h
theorem CO{α:Type}{x y r:α}(h:y=r):cond (!true) x y=r:=h
theorem lE{f g:FE}{m:Fm}{H H1:Hp}{b:Bool}{r:Out V}(h:f m H=.ok (.bool b) H1) (q:cond b (.ok (.bool true) H1) (g m H1)=r):fOr f g m H=r:=by unfold fOr;rw[h];cases b<;>exact q
theorem fF{f g:FE}{m:Fm}{H H1:Hp}{b:Bool}{r:Out V}(h:f m H=.ok (.bool b) H1) (q:cond b (g m H1) (.ok (.bool false) H1)=r):mD f g m H=r:=by unfold mD;rw[h];cases b<;>exact q
theorem bW{t f g:FE}{m:Fm}{H H1:Hp}{b:Bool}{r:Out V}(h:t m H=.ok (.bool b) H1) (q:cond b (f m H1) (g m H1)=r):dK t f g m H=r:=by unfold dK;rw[h];cases b<;>exact q
theorem b4{t:FE}{f g:FS}{m:Fm}{H H1:Hp}{b:Bool}{r:OutS}(h:t m H=.ok (.bool b) H1) (q:cond b (f m H1) (g m H1)=r):fIf t f g m H=r:=by unfold fIf;rw[h];cases b<;>exact q
noncomputable def zA(fl:Fl) (B:FS) (m:Fm) (H:Hp):OutS:=match fl with
 | .next=>B m H
 | fl=>.ok fl m H
theorem az{A B:FS}{m m1:Fm}{H H1:Hp}{fl:Fl}{r:OutS}(h1:A m H=.ok fl m1 H1) (h2:zA fl B m1 H1=r):am A B m H=r:=by unfold am;rw[h1,sM];cases fl<;>exact h2
theorem aE{B:FS}{m:Fm}{H:Hp}{r:OutS}(h:B m H=r):zA .next B m H=r:=h
theorem wM{B:FS}{m:Fm}{H:Hp}:zA .cont B m H=.ok .cont m H:=rfl
theorem bO{B:FS}{m:Fm}{H:Hp}{v:V}:zA (.ret v) B m H=.ok (.ret v) m H:=rfl
theorem bQ{x:Str}{v:V}{m:Fm}{H:Hp}:bA x v m H=.ok .next ((x,v)::m) H:=rfl
theorem jh{x y:Str}{v w:V}{m:Fm}{H:Hp}:ig [x,y] (.tup [v,w]) m H=.ok .next ((x,v)::(y,w)::m) H:=rfl
theorem A8{H:Hp}:gy .none .none H=.ok (.bool true) H:=rfl
theorem bu{K:Addr}{x:Str}{f:FE}{m:Fm}{H H1:Hp}{i:Nat}{fs:List (Str × V)}{v:V}(h:f m H=.ok (.ref i) H1) (g:H1[i]? = some (.inst K fs)) (q:fs.lookup x=some v):a9 K x f m H=.ok v H1:=by
 unfold a9;rw[h,dN];dsimp only;rw[g];dsimp only;rw[if_pos rfl,q]
theorem aW{K:AObj→Bool}{F:List V→Hp→Out V}{fo:FE}{g:Fm→Hp→Out (List V)}{m:Fm}{H H1 H2:Hp}{i:Nat}{o:AObj}{vs:List V}{r:Out V}(h:fo m H=.ok (.ref i) H1) (ho:H1[i]? = some o) (k:K o=true) (h2:g m H1=.ok vs H2) (q:F (.ref i::vs) H2=r):aN K F fo g m H=r:=by
 unfold aN;rw[h,dN];dsimp only;rw[ho];dsimp only;rw[if_pos k,h2,dN,q]
theorem gX{f a b c:FE}{m:Fm}{H H1 H2 H3 H4:Hp}{v x y z:V}{r:Out V}(h:f m H=.ok v H1) (h1:a m H1=.ok x H2) (h2:b m H2=.ok y H3) (h3:c m H3=.ok z H4) (s:jO v H4=true) (q:nx v x y z H4=r):cN f a b c m H=r:=by
 unfold cN;rw[h,dN,h1,dN,h2,dN,h3,dN,if_pos s,q]
theorem bD{A B:FS}{m m1:Fm}{H H1:Hp}(h1:A m H=.exc m1 H1):am A B m H=.exc m1 H1:=by unfold am;rw[h1,Ax]
theorem bY{fe:FE}{fa:V→FS}{m:Fm}{H H1:Hp}{v:V}{r:OutS}(h1:fe m H=.ok v H1) (h2:fa v m H1=r):aH fe fa m H=r:=by unfold aH;rw[h1,ju];exact h2
theorem n6{fe:FE}{fa:V→FS}{m:Fm}{H H1:Hp}(h1:fe m H=.exc H1):aH fe fa m H=.exc m H1:=by unfold aH;rw[h1,sF]
theorem b9{f:FE}{m:Fm}{H H1:Hp}{v:V}(h:f m H=.ok v H1):a6 f m H=.ok (.ret v) m H1:=by unfold a6;rw[h,ju]
theorem cE{f:FE}{m:Fm}{H H1:Hp}(h:f m H=.ok .none H1):cR f m H=.ok .next m H1:=by unfold cR;rw[h,ju]
theorem kh{fit:Fm→Hp→Out It}{fa:V→FS}{fb:FS}{m:Fm}{H H1:Hp}{items:List V}{G:Hp→Prop}{r:OutS}(h:fit m H=.ok (.mk items G) H1) (q:eX G fa fb items m H1=r):fK fit fa fb m H=r:=by unfold fK;rw[h,ju];exact q
noncomputable def Bg(vs:List V) (H:Hp):Out It:=df (fun _ H=>.ok vs H) [] H
theorem nM{g:Fm→Hp→Out (List V)}{m:Fm}{H H1:Hp}{vs:List V}{r:Out It}(h:g m H=.ok vs H1) (q:Bg vs H1=r):df g m H=r:=by rw[← q];unfold Bg df;rw[h]
theorem jd{H:Hp}{n:Int}(b:-1000000000≤n∧n≤1000000000):Bg [.int n] H=.ok (.mk (eu 0 n.toNat) fun _=>True) H:=if_pos b
theorem cq{ps:List Str}{f:FS}{vs:List V}{H H1:Hp}{m:Fm}{v:V}(fr:Fm) (hl:vs.length=ps.length∧ps.zip vs=fr) (h:f fr H=.ok (.ret v) m H1):ci ps f vs H=.ok v H1:=by unfold ci;rw[if_pos hl.1,hl.2,h]
theorem kE{ps:List Str}{f:FS}{vs:List V}{H H1:Hp}{m:Fm}(fr:Fm) (hl:vs.length=ps.length∧ps.zip vs=fr) (h:f fr H=.ok .next m H1):ci ps f vs H=.ok .none H1:=by unfold ci;rw[if_pos hl.1,hl.2,h]
theorem ie{ps:List Str}{f:FS}{vs:List V}{H H1:Hp}{m:Fm}(fr:Fm) (hl:vs.length=ps.length∧ps.zip vs=fr) (h:f fr H=.exc m H1):ci ps f vs H=.exc H1:=by unfold ci;rw[if_pos hl.1,hl.2,h]
theorem it0{v:V}{vs:List V}{H:Hp}:cm (.tup (v::vs)) (.int 0) H=.ok v H:=by rw[qL,Df,Cl];rfl
theorem it1{v w:V}{vs:List V}{H:Hp}:cm (.tup (v::w::vs)) (.int 1) H=.ok w H:=by rw[qL,Df,Df,Ck];rfl
theorem nu{x y:String}{H:Hp}(h:(x == y)=false):oEq (.str (CW x)) (.str (CW y)) H=.ok (.bool false) H:=by rw[fO,h]
theorem qs{x:String}{H:Hp}:oEq (.str (CW x)) (.str (CW x)) H=.ok (.bool true) H:=by rw[fO,beq_self_eq_true]
theorem Cs{a b:Int}{H:Hp}(h:a < b):oLt (.int a) (.int b) H=.ok (.bool true) H:=by rw[mQ,decide_eq_true h]
theorem o8{a b:Int}{H:Hp}(h:¬a < b):oLt (.int a) (.int b) H=.ok (.bool false) H:=by rw[mQ,decide_eq_false h]
theorem iG{a:Int}{H:Hp}:oEq (.int a) (.int a) H=.ok (.bool true) H:=by rw[eO,beq_self_eq_true]
theorem j0{a b:Int}{H:Hp}(h:(a == b)=false):oEq (.int a) (.int b) H=.ok (.bool false) H:=by rw[eO,h]
theorem ma{i:Nat}{v:V}{H:Hp}{xs:List V}(h:H[i]? = some (.list xs)) (hl:xs.length < 1000000):cr [.ref i,v] H=.ok .none (H.set i (.list (xs++[v]))):=by rw[uj,h];exact if_pos hl
theorem Av{g:FE}{m:Fm}{H H1:Hp}{v:V}(h:g m H=.ok v H1):iH g m H=.exc m H1:=by unfold iH;rw[h,ju]
theorem CU{fb:FS}{fe:FE}{m m1:Fm}{H H1:Hp}{fl:Fl}(h:fb m H=.ok fl m1 H1):sj fb fe m H=.ok fl m1 H1:=by rw[tG,h]
theorem CD{fb:FS}{fe:FE}{m m1:Fm}{H H1 H2:Hp}{v:V}(h:fb m H=.exc m1 H1) (h2:fe m1 H1=.ok v H2):sj fb fe m H=.ok (.ret v) m1 H2:=by rw[tG,h];dsimp only;rw[h2]
theorem u2{f:FE}{m:Fm}{H H1:Hp}(h:f m H=.exc H1):a6 f m H=.exc m H1:=by unfold a6;rw[h,sF]
theorem cP{f:FE}{m:Fm}{H H1:Hp}(h:f m H=.exc H1):cR f m H=.exc m H1:=by unfold cR;rw[h,sF]
theorem mw{f:FE}{g:Fm→Hp→Out (List V)}{m:Fm}{H H1:Hp}(h1:f m H=.exc H1):ad f g m H=.exc H1:=by unfold ad;rw[h1,qQ]
theorem my{K:AObj→Bool}{F:List V→Hp→Out V}{fo:FE}{g:Fm→Hp→Out (List V)}{m:Fm}{H H1 H2:Hp}{i:Nat}{o:AObj}(h:fo m H=.ok (.ref i) H1) (ho:H1[i]? = some o) (k:K o=true) (h2:g m H1=.exc H2):aN K F fo g m H=.exc H2:=by
 unfold aN;rw[h,dN];dsimp only;rw[ho];dsimp only;rw[if_pos k,h2,qQ]
theorem o6{i:Nat}{k:Str}{H:Hp}{kvs:List (Str × V)}{v:V}(h:H[i]? = some (.dictS kvs)) (g:dI kvs k=some v):cm (.ref i) (.str k) H=.ok v H:=by rw[uT,h];show onO (dI kvs k) _ _=_;rw[g];rfl
theorem zM{i:Nat}{k:Str}{H:Hp}{kvs kvs':List (Str × V)}{v:V}(h:H[i]? = some (.dictS kvs)) (hl:kvs.length≤1000000) (g:dM kvs k v=kvs'):fc (.ref i) (.str k) v H=some (H.set i (.dictS kvs')):=by
 unfold fc;dsimp only;rw[h,← g];exact if_pos hl
theorem cy{K:AObj→Bool}{F:List V→Hp→Out V}{fo:FE}{g:Fm→Hp→Out (List V)}{m:Fm}{H H1 H2 H3:Hp}{i:Nat}{o:AObj}{vs:List V}(h:fo m H=.ok (.ref i) H1) (ho:H1[i]? = some o) (k:K o=true) (h2:g m H1=.ok vs H2) (q:F (.ref i::vs) H2=.exc H3):aN K F fo g m H=.exc H3:=aW h ho k h2 q
theorem qp{f g:FE}{m:Fm}{H:Hp}{b c:Bool}(h:f m H=.ok (.bool b) H) (q:g m H=.ok (.bool c) H):fOr f g m H=.ok (.bool (b || c)) H:=lE h (by cases b<;>first|rfl|exact q)
theorem ak{x y:String}{v:V}{m:Fm}(h:x ≠ y):((CW y,v)::m).lookup (CW x)=m.lookup (CW x):=by rw[List.lookup_cons,pq,beq_eq_false_iff_ne.mpr h]
theorem g6{G:Hp→Prop}{fa:V→FS}{fb:FS}{v:V}{r:List V}{m m1 m2:Fm}{H H1 H2:Hp}(g:G H) (ha:fa v m H=.ok .next m1 H1) (hb:fb m1 H1=.ok .next m2 H2):eX G fa fb (v::r) m H=eX G fa fb r m2 H2:=by rw[si g,ha,sM];dsimp only;rw[hb,sM]
theorem AS{G:Hp→Prop}{fa:V→FS}{fb:FS}{v:V}{r:List V}{m m1 m2:Fm}{H H1 H2:Hp}(g:G H) (ha:fa v m H=.ok .next m1 H1) (hb:fb m1 H1=.ok .cont m2 H2):eX G fa fb (v::r) m H=eX G fa fb r m2 H2:=by rw[si g,ha,sM];dsimp only;rw[hb,sM]
theorem kB{G:Hp→Prop}{fa:V→Fm→Option Fm}{ft fe:FE}{i:Nat}{v x:V}{r:List V}{m m1:Fm}{H H1 H2:Hp}{xs:List V}(g:G H) (hf:fa v m=some m1) (ht:ft m1 H=.ok (.bool true) H1) (he:fe m1 H1=.ok x H2) (hi:H2[i]? = some (.list xs)) (hl:xs.length < 1000000):
  bN G fa ft fe i (v::r) m H=bN G fa ft fe i r m1 (H2.set i (.list (xs++[x]))):=by rw[oF g hf,ht,dN];dsimp only;rw[he,dN,hi];exact if_pos hl
theorem BW{G:Hp→Prop}{fa:V→Fm→Option Fm}{ft fe:FE}{i:Nat}{v:V}{r:List V}{m m1:Fm}{H H1:Hp}(g:G H) (hf:fa v m=some m1) (ht:ft m1 H=.ok (.bool false) H1):bN G fa ft fe i (v::r) m H=bN G fa ft fe i r m1 H1:=by rw[oF g hf,ht,dN]
theorem fG{fv:List Str}{fit:Fm→Hp→Out It}{fa:V→Fm→Option Fm}{ft fe:FE}{m m0:Fm}{H H1 H2:Hp}{items:List V}{G:Hp→Prop}(h:fit m H=.ok (.mk items G) H1) (hm:(m.filter fun p=>fv.contains p.1)=m0) (q:bN G fa ft fe H1.length items m0 (H1++[.list []])=.ok () H2):b7 fv fit fa ft fe m H=.ok (.ref H1.length) H2:=by
 unfold b7;rw[h,dN];first|rw[hm,q,dN]|(dsimp only;rw[hm,q,dN])
theorem jF{f:FE}{m:Fm}{H H1:Hp}{j:Nat}{xs:List V}(h:f m H=.ok (.ref j) H1) (g:H1[j]? = some (.list xs)):dz f m H=.ok (.mk xs fun H=>H[j]? = some (.list xs)) H1:=by unfold dz;rw[h,dN];show onL H1[j]? _ _=_;rw[g];rfl
theorem qB{f:FE}{m:Fm}{H H1:Hp}{xs:List V}(h:f m H=.ok (.tup xs) H1):dz f m H=.ok (.mk xs fun _=>True) H1:=by unfold dz;rw[h,dN];rfl
theorem Aj{G:Hp→Prop}{fa:V→FS}{fb:FS}{v:V}{r:List V}{m m1 m2:Fm}{H H1 H2:Hp}(g:G H) (ha:fa v m H=.ok .next m1 H1) (hb:fb m1 H1=.exc m2 H2):eX G fa fb (v::r) m H=.exc m2 H2:=by rw[si g,ha,sM];dsimp only;rw[hb,Ax]
noncomputable def u1(m:Fm):Out V→OutS
 | .ok v H=>.ok (.ret v) m H
 | .exc H=>.exc m H
 | .bad=>.bad
theorem iW{f:FE}{m:Fm}{H:Hp}{R:Out V}(h:f m H=R):a6 f m H=u1 m R:=by unfold a6;rw[h];cases R<;>rfl
theorem dC{A B:FS}{m m':Fm}{H:Hp}{R:Out V}(h:A m H=u1 m' R):am A B m H=u1 m' R:=by unfold am;rw[h];cases R<;>rfl
theorem iF{ps:List Str}{f:FS}{vs:List V}{H:Hp}{m:Fm}{R:Out V}(fr:Fm) (hl:vs.length=ps.length∧ps.zip vs=fr) (h:f fr H=u1 m R):ci ps f vs H=R:=by unfold ci;rw[if_pos hl.1,hl.2,h];cases R<;>rfl
theorem dp{A B:FS}{m:Fm}{H:Hp}{r:OutS}(h:A m H=.ok .next m H) (q:B m H=r):am A B m H=r:=az h (aE q)
theorem jv{t:FE}{a b:FS}{m:Fm}{H:Hp}{r:OutS}(h:t m H=.ok (.bool true) H) (q:a m H=r):fIf t a b m H=r:=b4 h (c_t q)
theorem tj{n:Nat}{k:Int}(h0:0≤k) (h1:k≤n):clipAt n k=k.toNat:=by
 unfold clipAt
 rw[if_neg (Int.not_lt.mpr h0),Int.min_eq_left h1,Int.max_eq_right h0]
theorem ug{m:Nat}:clipAt (m + 1) (-1)=m:=by
 unfold clipAt
 have e:(-1:Int) + ((m + 1:Nat):Int)=m:=by omega
 rw[if_pos (by decide),e,Int.min_eq_left (Int.ofNat_le.mpr (Nat.le_succ m)),Int.max_eq_right (Dj m),Di]
theorem zT{xs:List V}(h:1≤xs.length):cut xs (some 1) none=xs.drop 1:=by
 show(xs.drop (clipAt xs.length 1)).take (xs.length - clipAt xs.length 1)=_
 rw[tj (k:=1) (by decide) (Int.ofNat_le.mpr h)]
 exact List.take_of_length_le (Nat.le_of_eq List.length_drop)
theorem yf{xs:List V}{v:V}:cut (xs++[v]) none (some (-1))=xs:=by
 show((xs++[v]).drop 0).take (clipAt (xs++[v]).length (-1) - 0)=_
 rw[List.drop_zero,Nat.sub_zero,C1]
 show(xs++[v]).take (clipAt (xs.length + 1) (-1))=_
 rw[ug,List.take_left]
theorem Bt{xs:List V}{v:V}:cut (xs++[v]) (some (-1)) none=[v]:=by
 show((xs++[v]).drop (clipAt (xs++[v]).length (-1))).take ((xs++[v]).length - clipAt (xs++[v]).length (-1))=_
 rw[C1]
 show((xs++[v]).drop (clipAt (xs.length + 1) (-1))).take (xs.length + 1 - clipAt (xs.length + 1) (-1))=_
 rw[ug,List.drop_left,Nat.add_sub_cancel_left]
 rfl
theorem Bu{xs:List V}{k:Nat}(h:k≤xs.length):cut xs none (some (k:Int))=xs.take k:=by
 show(xs.drop 0).take (clipAt xs.length k - 0)=_
 rw[List.drop_zero,Nat.sub_zero,tj (Dj _) (Int.ofNat_le.mpr h),Di]
theorem h7{H:Hp}{f:Nat}{xs ys:List V}{a b c:V}(h:H[f]? = some (.list xs)) (hl:xs.length≤1000000) (hy:ys.length≤1000000) (e:nx (.ref f) a b c H=eZ ys H):
  ∃ H1,jO (.ref f) H=true∧nx (.ref f) a b c H=.ok (.ref H.length) H1∧Ext H H1∧H1[H.length]? = some (.list ys):=by
 refine byC fun kq=>?_
 obtain⟨H1,q,x,g⟩:=gv (xs:=ys) H hy
 refine kq ?_;try clear kq
 exact⟨H1,by unfold jO;dsimp only;rw[h];exact decide_eq_true hl,e.trans q,x,g⟩
theorem nd{H:Hp}{f:Nat}{xs:List V}{a b:V}{lo hi:Option Int}(h:H[f]? = some (.list xs)) (ha:mR a=some lo) (hb:mR b=some hi):nx (.ref f) a b .none H=eZ (cut xs lo hi) H:=by
 unfold nx;dsimp only;rw[h,iV,ha,bP,hb,bP];rfl
theorem Ci{g:Fm→Hp→Out (List V)}{m:Fm}{H H1:Hp}{j:Nat}{xs:List V}(h:g m H=.ok [.ref j] H1) (e:H1[j]? = some (.list xs)):uF g m H=.ok (.mk xs.reverse fun H=>H[j]? = some (.list xs)) H1:=by
 unfold uF;rw[h,dN];show onL H1[j]? _ _=_;rw[e];rfl
theorem Cj{g:Fm→Hp→Out (List V)}{m:Fm}{H H1:Hp}{a b:V}{xs ys:List V}(h:g m H=.ok [a,b] H1) (ha:fQ H1 a=some xs) (hb:fQ H1 b=some ys):
  uG g m H=.ok (.mk (kT xs ys) fun H=>fQ H a=some xs∧fQ H b=some ys∧H[H1.length]? = some .opq) (H1++[.opq]):=by
 unfold uG;rw[h,dN];show onO (fQ H1 a) _ _=_;rw[ha,bP,hb,bP]
theorem AH{G:Hp→Prop}{fa:V→Fm→Option Fm}{ft fe:FE}{i:Nat}{v:V}{r:List V}{m m1:Fm}{H H1 H2:Hp}(g:G H) (hf:fa v m=some m1) (ht:ft m1 H=.ok (.bool true) H1) (he:fe m1 H1=.exc H2):bN G fa ft fe i (v::r) m H=.exc H2:=by
 rw[oF g hf,ht,dN];dsimp only;rw[he,qQ]
theorem sg{fv:List Str}{fit:Fm→Hp→Out It}{fa:V→Fm→Option Fm}{ft fe:FE}{m m0:Fm}{H H1 H2:Hp}{items:List V}{G:Hp→Prop}(h:fit m H=.ok (.mk items G) H1) (hm:(m.filter fun p=>fv.contains p.1)=m0) (q:bN G fa ft fe H1.length items m0 (H1++[.list []])=.exc H2):b7 fv fit fa ft fe m H=.exc H2:=by
 unfold b7;rw[h,dN];first|rw[hm,q,qQ]|(dsimp only;rw[hm,q,qQ])
noncomputable def fL(k:TK):Nat→List TK→Option Nat
 | _,[]=>none
 | i,x::r=>if x=k then some i else fL k (i + 1) r
noncomputable def ki:Nat→List TK→List (TK × V)
 | _,[]=>[]
 | i,x::r=>(x,.int i)::ki (i + 1) r
theorem zO(k:TK) (l:List TK):∀ i,dI (ki i l) k=(fL k i l).map fun n=>V.int n:=by
 induction l with
 | nil=>exact fun i=>rfl
 | cons x r ih=>
  intro i
  unfold ki fL
  rw[kD]
  by_cases h:x=k
  ·rw[if_pos h,if_pos h];rfl
  ·rw[if_neg h,if_neg h];exact ih (i + 1)
theorem zN(k:TK) (l:List TK):∀ i,fL k i l=none→((ki i l).any fun kv=>decide (kv.1=k))=false:=by
 induction l with
 | nil=>exact fun i _=>rfl
 | cons x r ih=>
  intro i h
  unfold fL at h
  unfold ki
  rw[List.any_cons]
  by_cases hx:x=k
  ·rw[if_pos hx]at h;cases h
  ·rw[if_neg hx]at h
   rw[ih _ h,Bool.or_false]
   exact decide_eq_false hx
theorem xU(k:TK) (l:List TK):∀ i,ki i (l++[k])=ki i l++[(k,.int ((i + l.length:Nat):Int))]:=by
 induction l with
 | nil=>exact fun i=>rfl
 | cons x r ih=>
  intro i
  rw[List.cons_append]
  unfold ki
  rw[ih (i + 1),List.cons_append,Df,Dh,Nat.add_comm 1]
theorem yR{k:TK}{l:List TK}:∀ {i n:Nat},fL k i l=some n→i≤n∧l[n - i]? = some k:=by
 induction l with
 | nil=>intro i n h;cases h
 | cons x r ih=>
  intro i n h
  unfold fL at h
  by_cases hx:x=k
  ·rw[if_pos hx]at h;cases h;rw[hx,Nat.sub_self];exact⟨Nat.le_refl _,rfl⟩
  ·rw[if_neg hx]at h
   refine byC fun kq=>?_
   obtain⟨a,b⟩:=ih h
   refine kq ?_;try clear kq
   refine⟨Nat.le_of_succ_le a,?_⟩
   refine byC fun kq=>?_
   obtain⟨j,rfl⟩:=Nat.exists_eq_add_of_le a
   refine kq ?_;try clear kq
   rw[show i + 1 + j - (i + 1)=j from Nat.add_sub_cancel_left ..]at b
   rw[show i + 1 + j - i=j + 1 by rw[Dh,Nat.add_sub_cancel_left,Nat.add_comm]]
   exact b
theorem wx{k:TK}{l:List TK}(l':List TK):∀ {i n:Nat},fL k i l=some n→fL k i (l++l')=some n:=by
 induction l with
 | nil=>intro i n h;cases h
 | cons x r ih=>
  intro i n h
  rw[List.cons_append]
  unfold fL at h ⊢
  by_cases hx:x=k
  ·rw[if_pos hx]at h ⊢;exact h
  ·rw[if_neg hx]at h ⊢;exact ih h
theorem uH{k:TK}{l:List TK}:∀ {i:Nat},fL k i l=none→fL k i (l++[k])=some (i + l.length):=by
 induction l with
 | nil=>intro i _;exact if_pos rfl
 | cons x r ih=>
  intro i h
  rw[List.cons_append]
  unfold fL at h ⊢
  by_cases hx:x=k
  ·rw[if_pos hx]at h;cases h
  ·rw[if_neg hx]at h ⊢
   rw[ih h,Df,Dh,Nat.add_comm 1]
noncomputable def fnd(T:List TK) (k:TK):Option Nat:=fL k 1 (T.drop 1)
noncomputable def mkP(T:List TK) (k:TK):Nat × List TK:=match fnd T k with
 | some n=>(n,T)
 | none=>(T.length,T++[k])
theorem gu{T:List TK}{k:TK}{n:Nat}(h:fnd T k=some n):mkP T k=(n,T):=by unfold mkP;rw[h]
theorem je{T:List TK}{k:TK}(h:fnd T k=none):mkP T k=(T.length,T++[k]):=by unfold mkP;rw[h]
theorem wy{T:List TK}{k:TK}{n:Nat}(h:fnd T k=some n):1≤n∧T[n]? = some k:=by
 refine byC fun kq=>?_
 obtain⟨a,b⟩:=yR h
 refine kq ?_;try clear kq
 refine⟨a,?_⟩
 rw[List.getElem?_drop,Nat.add_sub_cancel' a]at b
 exact b
theorem yS{T:List TK}{k:TK}{n:Nat}(l:List TK) (h0:0 < T.length) (h:fnd T k=some n):fnd (T++l) k=some n:=by
 unfold fnd at *
 rw[List.drop_append_of_le_length h0]
 exact wx l h
theorem wT{T:List TK}(h0:0 < T.length) (k:TK):fnd (mkP T k).2 k=some (mkP T k).1:=by
 cases h:fnd T k with
 | some n=>rw[gu h];exact h
 | none=>
  rw[je h]
  unfold fnd at *
  rw[List.drop_append_of_le_length h0]
  show fL k 1 (T.drop 1++[k])=_
  rw[uH h,List.length_drop,Nat.add_sub_cancel' h0]
theorem A0{T:List TK}(k:TK):∃ t,(mkP T k).2=T++t∧t.length≤1:=by
 cases h:fnd T k with
 | some n=>rw[gu h];exact⟨[],(List.append_nil _).symm,Nat.zero_le _⟩
 | none=>rw[je h];exact⟨[k],rfl,Nat.le_refl _⟩
theorem wS{T:List TK}(h0:0 < T.length) (k:TK):1≤(mkP T k).1∧(mkP T k).2[(mkP T k).1]? = some k:=wy (wT h0 k)
theorem vJ(is:List Int):i3 (is.map .int)=some is:=by
 induction is with
 | nil=>rfl
 | cons i r ih=>rw[List.map_cons,uf,ih];rfl
theorem ya{a:Str}{is:List Int}{b c:Int}:vG (.tup [.str a,.tup (is.map .int),.int b,.int c])=some (a,is,b,c):=by
 show Option.map _ (i3 (is.map .int))=_
 rw[vJ];rfl
theorem Cg{H:Hp}{i:Nat}{kvs:List (TK × V)}{w:V}(k:TK) (h:H[i]? = some (.dictT kvs)):nF [.ref i,.tup [.str k.1,.tup (k.2.1.map .int),.int k.2.2.1,.int k.2.2.2],w] H=.ok ((dI kvs k).getD w) H:=by
 unfold nF;dsimp only;rw[h,ya];rfl
theorem CC{H:Hp}{i:Nat}{kvs:List (TK × V)}{u:V}(k:TK) (h:H[i]? = some (.dictT kvs)) (hl:kvs.length≤1000000):fc (.ref i) (.tup [.str k.1,.tup (k.2.1.map .int),.int k.2.2.1,.int k.2.2.2]) u H=some (H.set i (.dictT (dM kvs k u))):=by
 unfold fc;dsimp only;rw[h,ya];exact if_pos hl
theorem qE{kvs:List (TK × V)}:isT (.dictT kvs)=true:=rfl
theorem iX{f g:FE}{u:V}{m:Fm}{H H1 H2 H':Hp}{v w:V}(h1:f m H=.ok v H1) (h2:g m H1=.ok w H2) (h3:fc v w u H2=some H'):f7 f g u m H=.ok .next m H':=by
 unfold f7;rw[h1,ju,h2,ju,h3]
noncomputable abbrev aZ:List (Str × V):=[(CW "false_number",.int 2),(CW "true_number",.int 1),(CW "numbers",.ref 13),(CW "term_datas",.ref 12),(CW "term_sorts",.ref 11),(CW "term_args",.ref 10),(CW "term_ops",.ref 9),
 (CW "fresh_count",.int 0),(CW "fun_results",.ref 8),(CW "fun_args",.ref 7),(CW "fun_names",.ref 6),(CW "sort_widths",.ref 5),(CW "sort_names",.ref 4)]
noncomputable abbrev snL:List V:=[.str (CW "Bool"),.str (CW "Int"),.str (CW "Real"),.str (CW "U"),.str (CW "V")]

structure BK (H:Hp) (T:List TK):Prop where
 bank:H[3]? = some (.inst 400 aZ)
 ops:H[9]? = some (.list (T.map fun k=>.str k.1))
 args:H[10]? = some (.list (T.map fun k=>.tup (k.2.1.map .int)))
 sorts:H[11]? = some (.list (T.map fun k=>.int k.2.2.1))
 datas:H[12]? = some (.list (T.map fun k=>.int k.2.2.2))
 nums:H[13]? = some (.dictT (ki 1 (T.drop 1)))
 pos:0 < T.length
structure Chg (H H':Hp):Prop where
 len:H.length≤H'.length
 get:∀ i o,i < 9∨14≤i→H[i]? = some o→H'[i]? = some o
theorem Chg.refl(H:Hp):Chg H H:=⟨Nat.le_refl _,fun _ _ _ e=>e⟩
theorem Chg.trans{H1 H2 H3:Hp}(x:Chg H1 H2) (y:Chg H2 H3):Chg H1 H3:=⟨CX x.len y.len,fun i o n e=>y.get i o n (x.get i o n e)⟩
theorem Ext.chg{H H':Hp}(x:Ext H H'):Chg H H':=⟨x.len,fun _ _ _ e=>x.get e⟩
theorem BK.ext{H H':Hp}{T} (x:BK H T) (e:Ext H H'):BK H' T:=⟨e.get x.bank,e.get x.ops,e.get x.args,e.get x.sorts,e.get x.datas,e.get x.nums,x.pos⟩
theorem jW{H:Hp}{i:Nat}{xs:List V}(v:V) (h:H[i]? = some (.list xs)) (hl:xs.length < 1000000):∃ H',cr [.ref i,v] H=.ok .none H'∧H'[i]? = some (.list (xs++[v]))∧H'.length=H.length∧∀ j o,j ≠ i→H[j]? = some o→H'[j]? = some o:=
 ⟨_,ma h hl,be h,List.length_set,fun j o n e=>aP n e⟩
theorem zc{H:Hp}{T:List TK}(X:BK H T) (k:TK) (hl:T.length≤900):∃ H',bh [.ref 3,.str k.1,.tup (k.2.1.map .int),.int k.2.2.1,.int k.2.2.2] H=.ok (.int (mkP T k).1) H'∧BK H' (mkP T k).2∧Chg H H':=by
 refine byC fun K=>?_
 have X0:=X.bank
 have g0:=Cg (w:=.int 0) k X.nums
 rw[zO]at g0
 have hlm:∀ {α:Type}(f:TK→α),(T.map f).length < 1000000:=fun f=>by rw[C4];exact Dc hl (by decide)
 cases h:fnd T k with
 | some n=>
  have hn:=wy h
  unfold fnd at h
  rw[h]at g0
  have g0:_=Out.ok (V.int n) H:=g0
  have e0:((n:Int) == 0)=false:=beq_eq_false_iff_ne.mpr fun z=>absurd (Int.ofNat.inj z) (Nat.ne_of_gt hn.1)
  refine K ⟨H,?_,by rw[gu h];exact X,.refl H⟩
  rw[gu h]
  have X13:=X.nums
  clear K X h hl hn
  delta bh iI
  apply cq [(CW "self",.ref 3),(CW "op",.str k.1),(CW "args",.tup (k.2.1.map .int)),(CW "sort",.int k.2.2.1),(CW "data",.int k.2.2.2)] ⟨rfl,rfl⟩
  (repeat' with_reducible (first|exact bQ|exact aA|exact e_c|exact aR|apply aj|apply ah|apply aF|apply cC|apply az|apply bY|apply b4|apply b9|apply aW|apply bu|exact bO|apply c_f|apply aE|assumption|(apply j0;first|assumption|kernel_rfl)|exact qE|exact au|(apply aK;kernel_rfl)|(show Nat.ble _ _=true;kernel_rfl)))
 | none=>
  have h':=h
  unfold fnd at h
  rw[h]at g0
  have g0:_=Out.ok (V.int 0) H:=g0
  obtain⟨H1,a1,s1,l1,k1⟩:=jW (.str k.1) X.ops (hlm _)
  have X1:=k1 _ _ (by decide) X.bank
  obtain⟨H2,a2,s2,l2,k2⟩:=jW (.tup (k.2.1.map .int)) (k1 _ _ (by decide) X.args) (hlm _)
  have X2:=k2 _ _ (by decide) X1
  obtain⟨H3,a3,s3,l3,k3⟩:=jW (.int k.2.2.1) (k2 _ _ (by decide) (k1 _ _ (by decide) X.sorts)) (hlm _)
  have X3:=k3 _ _ (by decide) X2
  obtain⟨H4,a4,s4,l4,k4⟩:=jW (.int k.2.2.2) (k3 _ _ (by decide) (k2 _ _ (by decide) (k1 _ _ (by decide) X.datas))) (hlm _)
  have X4:=k4 _ _ (by decide) X3
  have n4:=k4 _ _ (by decide) (k3 _ _ (by decide) (k2 _ _ (by decide) (k1 _ _ (by decide) X.nums)))
  have kk:∀ j o,j ≠ 9→j ≠ 10→j ≠ 11→j ≠ 12→H[j]? = some o→H4[j]? = some o:=fun j o n1 n2 n3 n4 e=>k4 _ _ n4 (k3 _ _ n3 (k2 _ _ n2 (k1 _ _ n1 e)))
  have htl:∀ (l:List TK) i,(ki i l).length=l.length:=fun l=>by
   induction l with
   | nil=>exact fun _=>rfl
   | cons x r ih=>exact fun i=>congrArg (· + 1) (ih (i + 1))
  have st:=CC (u:=.int (T.length:Int)) k n4 (by rw[htl,List.length_drop];exact CX (Nat.sub_le ..) (CX hl (by decide)))
  have hd:dM (ki 1 (T.drop 1)) k (.int (T.length:Int))=ki 1 ((T++[k]).drop 1):=by
   unfold dM
   rw[zN k _ 1 h,List.drop_append_of_le_length X.pos,xU,List.length_drop,Nat.add_sub_cancel' X.pos]
   rfl
  rw[hd]at st
  have b1:=bj X.ops (Nat.lt_trans (hlm _) (by decide))
  rw[C4]at b1
  rw[je h']at K
  have mp:∀ {α:Type}(f:TK→α),T.map f++[f k]=(T++[k]).map f:=fun f=>by rw[De];rfl
  refine K ⟨H4.set 13 (.dictT (ki 1 ((T++[k]).drop 1))),?_,⟨aP (by decide) X4,aP (by decide) (k4 _ _ (by decide) (k3 _ _ (by decide) (k2 _ _ (by decide) (mp (fun k=>V.str k.1) ▸ s1)))),
   aP (by decide) (k4 _ _ (by decide) (k3 _ _ (by decide) (mp (fun k=>V.tup (k.2.1.map .int)) ▸ s2))),aP (by decide) (k4 _ _ (by decide) (mp (fun k=>V.int k.2.2.1) ▸ s3)),aP (by decide) (mp (fun k=>V.int k.2.2.2) ▸ s4),be n4,by rw[C1];exact Nat.succ_pos _⟩,
   ⟨by rw[List.length_set,l4,l3,l2,l1];exact Nat.le_refl _,fun i o hi e=>?_⟩⟩
  ·have X13:=X.nums
   have x9:=X.ops
   have x10:=k1 _ _ (by decide) X.args
   have x11:=k2 _ _ (by decide) (k1 _ _ (by decide) X.sorts)
   have x12:=k3 _ _ (by decide) (k2 _ _ (by decide) (k1 _ _ (by decide) X.datas))
   clear K X h h' hl k1 k2 k3 k4 kk l1 l2 l3 l4 s1 s2 s3 s4 hd htl mp
   delta bh iI
   apply cq [(CW "self",.ref 3),(CW "op",.str k.1),(CW "args",.tup (k.2.1.map .int)),(CW "sort",.int k.2.2.1),(CW "data",.int k.2.2.2)] ⟨rfl,rfl⟩
   (repeat' with_reducible (first|exact bQ|exact aA|exact e_c|exact aR|apply aj|apply ah|apply aV|apply aF|apply cC|apply az|apply bY|apply b4|apply b9|apply cE|apply iX|apply aW|apply bu|exact bO|apply c_t|apply aE|assumption|exact iG|exact wH|exact qE|exact au|(apply aK;kernel_rfl)|(show Nat.ble _ _=true;kernel_rfl)))
  ·have n:∀ c,9≤c→c < 14→i ≠ c:=fun c h9 h14 z=>by subst z;exact hi.elim (fun q=>absurd q (Nat.not_lt.mpr h9)) fun q=>absurd h14 (Nat.not_lt.mpr q)
   exact aP (n 13 (by decide) (by decide)) (kk i o (n 9 (by decide) (by decide)) (n 10 (by decide) (by decide)) (n 11 (by decide) (by decide)) (n 12 (by decide) (by decide)) e)

theorem jI{H:Hp}{i n:Nat}{T:List TK}{k:TK}(f:TK→V) (h:H[i]? = some (.list (T.map f))) (hn:T[n]? = some k) (hl:T.length≤1000):cm (.ref i) (.int (n:Int)) H=.ok (f k) H:=
 cO h (by rw[C4];exact CX hl (by decide)) (Dj _) (by rw[C4];exact Int.ofNat_lt.mpr (List.getElem?_eq_some_iff.mp hn).1) (by rw[Di,List.getElem?_map,hn];rfl)
theorem Cy{H:Hp}{T:List TK}(X:BK H T) {n:Nat}{k:TK}(hn:T[n]? = some k) (hl:T.length≤1000):i9 [.ref 3,.int n] H=.ok (.str k.1) H:=by
 have X0:=X.bank
 have i0:=jI (fun k=>V.str k.1) X.ops hn hl
 clear X hn hl
 delta i9 nJ
 apply cq [(CW "self",.ref 3),(CW "t",.int n)] ⟨rfl,rfl⟩
 (repeat' with_reducible (first|apply ah|apply bw|apply az|apply b9|apply bu|exact bO|assumption|exact au|(apply aK;kernel_rfl)))
theorem yz{H:Hp}{T:List TK}(X:BK H T) {n:Nat}{k:TK}(hn:T[n]? = some k) (hl:T.length≤1000):fW [.ref 3,.int n] H=.ok (.tup (k.2.1.map .int)) H:=by
 have X0:=X.bank
 have i0:=jI (fun k=>V.tup (k.2.1.map .int)) X.args hn hl
 clear X hn hl
 delta fW kW
 apply cq [(CW "self",.ref 3),(CW "t",.int n)] ⟨rfl,rfl⟩
 (repeat' with_reducible (first|apply ah|apply bw|apply az|apply b9|apply bu|exact bO|assumption|exact au|(apply aK;kernel_rfl)))
theorem pA{H:Hp}{T:List TK}(X:BK H T) {n:Nat}{k:TK}(hn:T[n]? = some k) (hl:T.length≤1000):dv [.ref 3,.int n] H=.ok (.int k.2.2.1) H:=by
 have X0:=X.bank
 have i0:=jI (fun k=>V.int k.2.2.1) X.sorts hn hl
 clear X hn hl
 delta dv kY
 apply cq [(CW "self",.ref 3),(CW "t",.int n)] ⟨rfl,rfl⟩
 (repeat' with_reducible (first|apply ah|apply bw|apply az|apply b9|apply bu|exact bO|assumption|exact au|(apply aK;kernel_rfl)))
theorem tW{H:Hp}{T:List TK}(X:BK H T) (hl:T.length≤1000):eQ [.ref 3] H=.ok (.int ((T.length:Int) - 1)) H:=by
 have X0:=X.bank
 have b1:=bj X.ops (by rw[C4];exact Dc hl (by decide))
 rw[C4]at b1
 clear X hl
 delta eQ kX
 apply cq [(CW "self",.ref 3)] ⟨rfl,rfl⟩
 (repeat' with_reducible (first|exact aA|exact e_c|apply aj|apply ah|apply aV|apply aF|apply az|apply b9|apply bu|exact bO|assumption|exact tQ|exact au|(apply aK;kernel_rfl)))
theorem zR{H:Hp}{T:List TK}(X:BK H T):dG [.ref 3] H=.ok (.int 1) H:=by
 have X0:=X.bank
 clear X
 delta dG gL
 apply cq [(CW "self",.ref 3)] ⟨rfl,rfl⟩
 (repeat' with_reducible (first|apply ah|apply az|apply b9|apply bu|exact bO|assumption|exact au|(apply aK;kernel_rfl)))
theorem yO{f:FE}{m:Fm}{H H1:Hp}{x:Str}(h:f m H=.ok (.str x) H1) (hl:x.length≤100000):fFv f m H=.ok (.str x) H1:=by unfold fFv;rw[h,dN];exact if_pos hl
theorem jG{g:FE}{r:Str→FE}{acc y:Str}{m:Fm}{H H1:Hp}{R:Out V}(h:g m H=.ok (.str y) H1) (hl:(acc++y).length≤1000000) (q:r (acc++y) m H1=R):fJ g r acc m H=R:=by unfold fJ;rw[h,dN];dsimp only;rw[if_pos hl,q]
theorem Ao{acc:Str}{m:Fm}{H:Hp}(hl:acc.length≤1000000):fJ0 acc m H=.ok (.str acc) H:=if_pos hl
theorem tX{H:Hp}(h:H[4]? = some (.list snL)) {s:Int}(h0:0≤s) (h1:s < 5):∃ x:Str,cm (.ref 4) (.int s) H=.ok (.str x) H∧x.length≤100:=by
 refine byC fun kq=>?_
 obtain⟨j,rfl⟩:=Int.eq_ofNat_of_zero_le h0
 refine kq ?_;try clear kq
 have hj:j < 5:=Int.ofNat_lt.mp h1
 have g:∀ x:Str,snL[j]? = some (.str x)→cm (.ref 4) (.int (j:Int)) H=.ok (.str x) H:=fun x e=>cO h (by decide) h0 h1 (by rw[Di];exact e)
 match j,hj with
 | 0,_=>exact⟨_,g _ rfl,by decide +kernel⟩
 | 1,_=>exact⟨_,g _ rfl,by decide +kernel⟩
 | 2,_=>exact⟨_,g _ rfl,by decide +kernel⟩
 | 3,_=>exact⟨_,g _ rfl,by decide +kernel⟩
 | 4,_=>exact⟨_,g _ rfl,by decide +kernel⟩
noncomputable def sOk(T:List TK):Prop:=∀ k∈T,0≤k.2.2.1∧k.2.2.1 < 5
noncomputable def srt(T:List TK) (t:Nat):Int:=match T[t]? with
 | some k=>k.2.2.1
 | none=>0
theorem fh{T:List TK}{t:Nat}{k:TK}(h:T[t]? = some k):srt T t=k.2.2.1:=by unfold srt;rw[h]
theorem km{H:Hp}{T:List TK}(X:BK H T) (N:H[4]? = some (.list snL)) (S:sOk T) {n:Nat}{s:Int}{w:Str}(hn:n < T.length) (hl:T.length≤1000) (s0:0≤s) (s1:s < 5) (hw:w.length≤100):
  cG [.ref 3,.int n,.int s,.str w] H=if srt T n=s then .ok .none H else .exc H:=by
 have X0:=X.bank
 refine byC fun kq=>?_
 obtain⟨k,hk⟩:∃ k,T[n]? = some k:=⟨_,C0 hn⟩
 refine kq ?_;try clear kq
 rw[fh hk]
 have hks:=S k (List.mem_of_getElem? hk)
 have i0:=jI (fun k=>V.int k.2.2.1) X.sorts hk hl
 have e0:=@gB k.2.2.1 s H
 by_cases h:k.2.2.1=s
 ·rw[if_pos h]
  rw[h,beq_self_eq_true]at e0
  rw[h]at i0
  clear X hl S N hks h hk hn
  delta cG iJ
  apply kE [(CW "self",.ref 3),(CW "t",.int n),(CW "s",.int s),(CW "where",.str w)] ⟨rfl,rfl⟩
  (repeat' with_reducible (first|exact aR|apply ah|apply bw|apply aF|apply az|apply b4|apply bu|apply CO|apply aE|assumption|exact au|(apply aK;kernel_rfl)))
 ·rw[if_neg h]
  have e0:oNe (.int k.2.2.1) (.int s) H=.ok (.bool true) H:=by rw[gB,beq_eq_false_iff_ne.mpr h];rfl
  refine byC fun kq=>?_
  obtain⟨x,ix,lx⟩:=tX N s0 s1
  obtain⟨y,iy,ly⟩:=tX N hks.1 hks.2
  refine kq ?_;try clear kq
  have l1:(Str.empty++w).length≤100:=by rw[Str.length_append];exact CX (Nat.le_of_eq (Nat.zero_add _)) hw
  have l2:(Str.empty++w++CW ": ").length≤200:=by rw[Str.length_append];exact Nat.add_le_add l1 (show(CW ": ").length≤100 by decide +kernel)
  have l3:(Str.empty++w++CW ": "++x).length≤300:=by rw[Str.length_append];exact Nat.add_le_add l2 lx
  have l4:(Str.empty++w++CW ": "++x++CW " is wanted, not ").length≤400:=by rw[Str.length_append];exact Nat.add_le_add l3 (show(CW " is wanted, not ").length≤100 by decide +kernel)
  have l5:(Str.empty++w++CW ": "++x++CW " is wanted, not "++y).length≤500:=by rw[Str.length_append];exact Nat.add_le_add l4 ly
  have u:∀ {a:Str}{c:Nat},a.length≤c→c≤1000000→a.length≤1000000:=fun h h'=>CX h h'
  clear X hl S hks h hk hn
  delta cG iJ
  apply ie [(CW "self",.ref 3),(CW "t",.int n),(CW "s",.int s),(CW "where",.str w)] ⟨rfl,rfl⟩
  refine bD (b4 (b:=true) (H1:=H) ?_ (c_t (bD (Av (jG (yO (ah ?_) (CX hw (by decide))) (u l1 (by decide)) (jG e_c (u l2 (by decide)) (jG (yO (bw (H1:=H) ?_ ?_ ix) (CX lx (by decide))) (u l3 (by decide))
   (jG e_c (u l4 (by decide)) (jG (yO (bw (H1:=H) ?_ (bw (H1:=H) ?_ ?_ i0) iy) (CX ly (by decide))) (u l5 (by decide)) (Ao (u l5 (by decide))))))))))))<;>(repeat' with_reducible (first|apply ah|apply bw|apply aF|apply bu|assumption|exact au|(apply aK;kernel_rfl)))
theorem vK{H:Hp}{T:List TK}{G:Hp→Prop}(g:G H) (X:BK H T) (N:H[4]? = some (.list snL)) (S:sOk T) {s:Int}{w:Str}(hl:T.length≤1000) (s0:0≤s) (s1:s < 5) (hw:w.length≤100) (ts:List Nat):
  ∀ m:Fm,m.lookup (CW "self")=some (.ref 3)→m.lookup (CW "s")=some (.int s)→m.lookup (CW "where")=some (.str w)→(∀ t∈ts,t < T.length)→
  ∃ m',eX G (bA (CW "t")) dh (ts.map fun(t:Nat)=>V.int t) m H=if ts.all (fun t=>srt T t == s)then .ok .next m' H else .exc m' H:=by
 induction ts with
 | nil=>exact fun m _ _ _ _=>⟨m,jA g⟩
 | cons t r ih=>
  intro m m1 m2 m3 ht
  have X0:=X.bank
  have e:=km X N S (ht t (CY ..)) hl s0 s1 hw
  rw[List.all_cons,List.map_cons]
  by_cases h:srt T t=s
  ·rw[if_pos h]at e
   rw[h,beq_self_eq_true,Bool.true_and]
   refine byC fun kq=>?_
   obtain⟨m',e'⟩:=ih ((CW "t",.int t)::m) ((ak (by decide)).trans m1) ((ak (by decide)).trans m2) ((ak (by decide)).trans m3) fun z hz=>ht z (CZ _ hz)
   refine kq ?_;try clear kq
   refine⟨m',?_⟩
   rw[← e']
   refine g6 g bQ (H2:=H) ?_
   clear e' ih ht h X N S
   delta dh
   (repeat' with_reducible (first|exact aA|exact aR|apply aj|apply ah|apply az|apply cE|apply aW|apply aE|assumption|exact au|(apply aK;kernel_rfl)|(show isI 400 _ (AObj.inst 400 aZ)=true;kernel_rfl)))
  ·rw[if_neg h]at e
   rw[beq_eq_false_iff_ne.mpr h,Bool.false_and]
   refine⟨(CW "t",.int t)::m,Aj g bQ ?_⟩
   clear ih ht h N S X
   delta dh
   refine bD (cP (cy (i:=3) ?_ X0 ?_ ?_ e))<;>(repeat' with_reducible (first|exact aA|apply aj|apply ah|assumption|exact au|(apply aK;kernel_rfl)|(show isI 400 _ (AObj.inst 400 aZ)=true;kernel_rfl)))

noncomputable def gI(T:List TK) (ts:List Nat) (s:Int):Bool:=ts.all fun t=>srt T t == s
noncomputable abbrev iv(ts:List Nat):List V:=ts.map fun(t:Nat)=>V.int t
structure BB (H:Hp) (T:List TK):Prop where
 bk:BK H T
 nm:H[4]? = some (.list snL)
 ok:sOk T
theorem BB.ext{H H':Hp}{T} (x:BB H T) (e:Ext H H'):BB H' T:=⟨x.bk.ext e,e.get x.nm,x.ok⟩
theorem lu{H:Hp}{T:List TK}{v:V}{G:Hp→Prop}{ts:List Nat}(B:BB H T) (it:dz (ae (CW "some")) [(CW "self",.ref 3),(CW "some",v),(CW "s",.int s),(CW "where",.str w)] H=.ok (.mk (iv ts) G) H) (g:G H)
  (hl:T.length≤1000) (s0:0≤s) (s1:s < 5) (hw:w.length≤100) (ht:∀ t∈ts,t < T.length):bz [.ref 3,v,.int s,.str w] H=if gI T ts s then .ok .none H else .exc H:=by
 refine byC fun kq=>?_
 obtain⟨m',e⟩:=vK g B.bk B.nm B.ok hl s0 s1 hw ts [(CW "self",.ref 3),(CW "some",v),(CW "s",.int s),(CW "where",.str w)] au (by(repeat' with_reducible (first|exact au|(apply aK;kernel_rfl)))) (by(repeat' with_reducible (first|exact au|(apply aK;kernel_rfl)))) ht
 refine kq ?_;try clear kq
 delta bz ij
 by_cases h:gI T ts s=true
 ·have h':(ts.all fun t=>srt T t == s)=true:=h
  rw[if_pos h']at e
  rw[if_pos h]
  exact kE [(CW "self",.ref 3),(CW "some",v),(CW "s",.int s),(CW "where",.str w)] ⟨rfl,rfl⟩ (az (kh it e) (aE aR))
 ·have h':¬(ts.all fun t=>srt T t == s)=true:=h
  rw[if_neg h']at e
  rw[if_neg h]
  exact ie [(CW "self",.ref 3),(CW "some",v),(CW "s",.int s),(CW "where",.str w)] ⟨rfl,rfl⟩ (bD (kh it e))
theorem kR{H:Hp}{T:List TK}{j:Nat}{ts:List Nat}(B:BB H T) (hj:H[j]? = some (.list (iv ts))) (hl:T.length≤1000) (s0:0≤s) (s1:s < 5) (hw:w.length≤100) (ht:∀ t∈ts,t < T.length):
  bz [.ref 3,.ref j,.int s,.str w] H=if gI T ts s then .ok .none H else .exc H:=
 lu B (jF (ah (by(repeat' with_reducible (first|exact au|(apply aK;kernel_rfl))))) hj) hj hl s0 s1 hw ht
theorem oj{H:Hp}{T:List TK}{ts:List Nat}(B:BB H T) (hl:T.length≤1000) (s0:0≤s) (s1:s < 5) (hw:w.length≤100) (ht:∀ t∈ts,t < T.length):
  bz [.ref 3,.tup (iv ts),.int s,.str w] H=if gI T ts s then .ok .none H else .exc H:=
 lu B (qB (ah (by(repeat' with_reducible (first|exact au|(apply aK;kernel_rfl)))))) trivial hl s0 s1 hw ht
noncomputable abbrev PR:=Option Nat × List TK
noncomputable def Res(H:Hp) (R:Out V) (p:PR):Prop:=∃ H',BB H' p.2∧Chg H H'∧R=match p.1 with
 | some n=>.ok (.int (n:Int)) H'
 | none=>.exc H'
noncomputable def mkR(T:List TK) (k:TK):PR:=(some (mkP T k).1,(mkP T k).2)
theorem sOk.mk{T:List TK}{k:TK}(S:sOk T) (hk:0≤k.2.2.1∧k.2.2.1 < 5):sOk (mkP T k).2:=by
 cases h:fnd T k with
 | some n=>rw[gu h];exact S
 | none=>
  rw[je h]
  intro x hx
  rcases List.mem_append.mp hx with hx|hx
  ·exact S x hx
  ·rw[List.mem_singleton.mp hx];exact hk
theorem A7{H:Hp}{T:List TK}(B:BB H T) (k:TK) (hk:0≤k.2.2.1∧k.2.2.1 < 5) (hl:T.length≤900):∃ H',bh [.ref 3,.str k.1,.tup (k.2.1.map .int),.int k.2.2.1,.int k.2.2.2] H=.ok (.int (mkP T k).1) H'∧BB H' (mkP T k).2∧Chg H H':=by
 refine byC fun kq=>?_
 obtain⟨H',e,x,c⟩:=zc B.bk k hl
 refine kq ?_;try clear kq
 exact⟨H',e,⟨x,c.get 4 _ (.inl (by decide)) B.nm,B.ok.mk hk⟩,c⟩
theorem AV(ts:List Nat):(ts.map fun(t:Nat)=>(t:Int)).map V.int=iv ts:=List.map_map ..
noncomputable abbrev tk(op:String) (ts:List Nat) (s:Int):TK:=(CW op,ts.map fun(t:Nat)=>(t:Int),s,0)
theorem iS{H:Hp}{T:List TK}(B:BB H T) (op:String) (ts:List Nat) (s:Int) (hk:0≤s∧s < 5) (hl:T.length≤900):∃ H',bh [.ref 3,.str (CW op),.tup (iv ts),.int s,.int 0] H=.ok (.int (mkP T (tk op ts s)).1) H'∧BB H' (mkP T (tk op ts s)).2∧Chg H H':=by
 have:=A7 B (tk op ts s) hk hl
 dsimp only at this
 rw[AV]at this
 exact this
noncomputable def jQ(T:List TK) (a b:Nat):PR:=if gI T [a,b] 0 then mkR T (tk "xor" [a,b] 0)else(none,T)
noncomputable def ir(T:List TK) (a b:Nat):PR:=if gI T [a,b] 0 then mkR T (tk "=>" [a,b] 0)else(none,T)
theorem yc{T:List TK}{a b:Nat}(ha:a < T.length) (hb:b < T.length):∀ t∈[a,b],t < T.length:=fun t ht=>by
 rcases List.mem_cons.mp ht with rfl|ht
 ·exact ha
 ·rw[List.mem_singleton.mp ht];exact hb
theorem Ac{H:Hp}{T:List TK}{a b:Nat}(B:BB H T) (ha:a < T.length) (hb:b < T.length) (hl:T.length≤900):Res H (cH [.ref 3,.int a,.int b] H) (jQ T a b):=by
 have X0:=B.bk.bank
 have w:=oj (s:=0) (w:=CW "xor") B (CX hl (by decide)) (by decide) (by decide) (by decide +kernel) (yc ha hb)
 unfold jQ
 by_cases h:gI T [a,b] 0=true
 ·rw[if_pos h]at w ⊢
  refine byC fun kq=>?_
  obtain⟨H',e,x,c⟩:=iS B "xor" [a,b] 0 (by decide) hl
  refine kq ?_;try clear kq
  refine⟨H',x,c,?_⟩
  dsimp only[iv,List.map]at w e
  clear c x hl ha hb B h
  delta cH d9
  apply cq [(CW "self",.ref 3),(CW "a",.int a),(CW "b",.int b)] ⟨rfl,rfl⟩
  (repeat' with_reducible (first|exact aA|exact e_c|apply aj|apply ah|apply cC|apply az|apply b9|apply cE|apply aW|exact bO|apply aE|assumption|exact au|(apply aK;kernel_rfl)|(show isI 400 _ (AObj.inst 400 aZ)=true;kernel_rfl)|(show Nat.ble _ _=true;kernel_rfl)))
 ·rw[if_neg h]at w ⊢
  refine⟨H,B,.refl H,?_⟩
  dsimp only[iv,List.map]at w
  delta cH d9
  apply ie [(CW "self",.ref 3),(CW "a",.int a),(CW "b",.int b)] ⟨rfl,rfl⟩
  refine bD (cP (cy (H1:=H) (i:=3) ?_ X0 ?_ ?_ w))<;>(repeat' with_reducible (first|exact aA|exact e_c|apply aj|apply ah|apply cC|exact au|(apply aK;kernel_rfl)|(show isI 400 _ (AObj.inst 400 aZ)=true;kernel_rfl)|(show Nat.ble _ _=true;kernel_rfl)))
theorem yZ{H:Hp}{T:List TK}{a b:Nat}(B:BB H T) (ha:a < T.length) (hb:b < T.length) (hl:T.length≤900):Res H (bV [.ref 3,.int a,.int b] H) (ir T a b):=by
 have X0:=B.bk.bank
 have w:=oj (s:=0) (w:=CW "=>") B (CX hl (by decide)) (by decide) (by decide) (by decide +kernel) (yc ha hb)
 unfold ir
 by_cases h:gI T [a,b] 0=true
 ·rw[if_pos h]at w ⊢
  refine byC fun kq=>?_
  obtain⟨H',e,x,c⟩:=iS B "=>" [a,b] 0 (by decide) hl
  refine kq ?_;try clear kq
  refine⟨H',x,c,?_⟩
  dsimp only[iv,List.map]at w e
  clear c x hl ha hb B h
  delta bV dm
  apply cq [(CW "self",.ref 3),(CW "a",.int a),(CW "b",.int b)] ⟨rfl,rfl⟩
  (repeat' with_reducible (first|exact aA|exact e_c|apply aj|apply ah|apply cC|apply az|apply b9|apply cE|apply aW|exact bO|apply aE|assumption|exact au|(apply aK;kernel_rfl)|(show isI 400 _ (AObj.inst 400 aZ)=true;kernel_rfl)|(show Nat.ble _ _=true;kernel_rfl)))
 ·rw[if_neg h]at w ⊢
  refine⟨H,B,.refl H,?_⟩
  dsimp only[iv,List.map]at w
  delta bV dm
  apply ie [(CW "self",.ref 3),(CW "a",.int a),(CW "b",.int b)] ⟨rfl,rfl⟩
  refine bD (cP (cy (H1:=H) (i:=3) ?_ X0 ?_ ?_ w))<;>(repeat' with_reducible (first|exact aA|exact e_c|apply aj|apply ah|apply cC|exact au|(apply aK;kernel_rfl)|(show isI 400 _ (AObj.inst 400 aZ)=true;kernel_rfl)|(show Nat.ble _ _=true;kernel_rfl)))

theorem mZ{H:Hp}{T:List TK}{t:Nat}(X:BK H T) (ht:t < T.length) (hl:T.length≤1000):cm (.ref 11) (.int t) H=.ok (.int (srt T t)) H:=by
 have hk:T[t]? = some T[t]:=C0 ht
 rw[fh hk]
 exact jI (fun k=>V.int k.2.2.1) X.sorts hk hl
theorem tc{T:List TK}{t:Nat}(S:sOk T) (ht:t < T.length):0≤srt T t∧srt T t < 5:=by
 have hk:T[t]? = some T[t]:=C0 ht
 rw[fh hk]
 exact S _ (List.getElem_mem ht)
noncomputable def mn(a b:Nat):Nat:=if b < a then b else a
noncomputable def mx(a b:Nat):Nat:=if b > a then b else a
theorem yB{a b:Nat}{H:Hp}:uo [.int a,.int b] H=.ok (.int (mn a b:Nat)) H:=by
 unfold uo mn;dsimp only
 by_cases h:b < a
 ·rw[if_pos (Int.ofNat_lt.mpr h),if_pos h]
 ·rw[if_neg (fun z=>h (Int.ofNat_lt.mp z)),if_neg h]
theorem yA{a b:Nat}{H:Hp}:um [.int a,.int b] H=.ok (.int (mx a b:Nat)) H:=by
 unfold um mx;dsimp only
 by_cases h:b > a
 ·rw[if_pos (Int.ofNat_lt.mpr h),if_pos h]
 ·rw[if_neg (fun z=>h (Int.ofNat_lt.mp z)),if_neg h]
noncomputable def eqP(T:List TK) (a b:Nat):PR:=if srt T b=srt T a then(if a=b then(some 1,T)else mkR T (tk "=" [mn a b,mx a b] 0))else(none,T)
theorem wv{H:Hp}{T:List TK}{a b:Nat}(B:BB H T) (ha:a < T.length) (hb:b < T.length) (hl:T.length≤900):Res H (cv [.ref 3,.int a,.int b] H) (eqP T a b):=by
 have X0:=B.bk.bank
 have hl1:T.length≤1000:=CX hl (by decide)
 have sa:=tc B.ok ha
 have w:=km (s:=srt T a) (w:=CW "=") B.bk B.nm B.ok hb hl1 sa.1 sa.2 (by decide +kernel)
 have i0:=mZ B.bk ha hl1
 unfold eqP
 by_cases h:srt T b=srt T a
 ·rw[if_pos h]at w ⊢
  by_cases hab:a=b
  ·rw[if_pos hab]
   refine⟨H,B,.refl H,?_⟩
   show _=Out.ok (V.int 1) H
   clear hl hl1 ha hb B h sa
   subst hab
   delta cv eL
   apply cq [(CW "self",.ref 3),(CW "a",.int a),(CW "b",.int a)] ⟨rfl,rfl⟩
   (repeat' with_reducible (first|exact aA|exact e_c|apply aj|apply ah|apply bw|apply aF|apply az|apply b4|apply b9|apply cE|apply aW|apply bu|exact bO|apply c_t|apply aE|assumption|exact iG|exact au|(apply aK;kernel_rfl)|(show isI 400 _ (AObj.inst 400 aZ)=true;kernel_rfl)))
  ·rw[if_neg hab]
   have hn:((a:Int) == b)=false:=beq_eq_false_iff_ne.mpr fun z=>hab (Int.ofNat.inj z)
   refine byC fun kq=>?_
   obtain⟨H',e,x,c⟩:=iS B "=" [mn a b,mx a b] 0 (by decide) hl
   refine kq ?_;try clear kq
   refine⟨H',x,c,?_⟩
   dsimp only[iv,List.map]at e
   have m1:=@yB a b H
   have m2:=@yA a b H
   clear c x hl hl1 ha hb B h sa hab
   delta cv eL
   apply cq [(CW "self",.ref 3),(CW "a",.int a),(CW "b",.int b)] ⟨rfl,rfl⟩
   (repeat' with_reducible (first|exact aA|exact e_c|exact aR|apply aj|apply ah|apply aV|apply bw|apply aF|apply cC|apply az|apply b4|apply b9|apply cE|apply aW|apply bu|exact bO|apply c_f|apply aE|assumption|(apply j0;first|assumption|kernel_rfl)|exact au|(apply aK;kernel_rfl)|(show isI 400 _ (AObj.inst 400 aZ)=true;kernel_rfl)|(show Nat.ble _ _=true;kernel_rfl)))
 ·rw[if_neg h]at w ⊢
  refine⟨H,B,.refl H,?_⟩
  delta cv eL
  apply ie [(CW "self",.ref 3),(CW "a",.int a),(CW "b",.int b)] ⟨rfl,rfl⟩
  refine bD (cP (cy (H1:=H) (i:=3) ?_ X0 ?_ ?_ w))<;>(repeat' with_reducible (first|exact aA|exact e_c|apply aj|apply ah|apply bw|apply bu|assumption|exact au|(apply aK;kernel_rfl)|(show isI 400 _ (AObj.inst 400 aZ)=true;kernel_rfl)))
noncomputable def qF(T:List TK) (c a b:Nat):PR:=if srt T c=0 then(if srt T b=srt T a then mkR T (tk "ite" [c,a,b] (srt T a))else(none,T))else(none,T)
theorem y8{H:Hp}{T:List TK}{c a b:Nat}(B:BB H T) (hc:c < T.length) (ha:a < T.length) (hb:b < T.length) (hl:T.length≤900):Res H (cw [.ref 3,.int c,.int a,.int b] H) (qF T c a b):=by
 have X0:=B.bk.bank
 have hl1:T.length≤1000:=CX hl (by decide)
 have sa:=tc B.ok ha
 have w0:=km (s:=0) (w:=CW "ite") B.bk B.nm B.ok hc hl1 (by decide) (by decide) (by decide +kernel)
 have w:=km (s:=srt T a) (w:=CW "ite") B.bk B.nm B.ok hb hl1 sa.1 sa.2 (by decide +kernel)
 have i0:=mZ B.bk ha hl1
 unfold qF
 by_cases h0:srt T c=0
 ·rw[if_pos h0]at w0 ⊢
  by_cases h:srt T b=srt T a
  ·rw[if_pos h]at w ⊢
   refine byC fun kq=>?_
   obtain⟨H',e,x,cc⟩:=iS B "ite" [c,a,b] (srt T a) sa hl
   refine kq ?_;try clear kq
   refine⟨H',x,cc,?_⟩
   dsimp only[iv,List.map]at e
   clear cc x hl hl1 ha hb hc B h h0 sa
   delta cw d8
   apply cq [(CW "self",.ref 3),(CW "c",.int c),(CW "a",.int a),(CW "b",.int b)] ⟨rfl,rfl⟩
   (repeat' with_reducible (first|exact aA|exact e_c|apply aj|apply ah|apply bw|apply cC|apply az|apply b9|apply cE|apply aW|apply bu|exact bO|apply aE|assumption|exact au|(apply aK;kernel_rfl)|(show isI 400 _ (AObj.inst 400 aZ)=true;kernel_rfl)|(show Nat.ble _ _=true;kernel_rfl)))
  ·rw[if_neg h]at w ⊢
   refine⟨H,B,.refl H,?_⟩
   delta cw d8
   apply ie [(CW "self",.ref 3),(CW "c",.int c),(CW "a",.int a),(CW "b",.int b)] ⟨rfl,rfl⟩
   refine az (m1:=[(CW "self",.ref 3),(CW "c",.int c),(CW "a",.int a),(CW "b",.int b)]) (H1:=H) (fl:=.next) ?_ (aE (bD (cP (cy (H1:=H) (i:=3) ?_ X0 ?_ ?_ w))))<;>(repeat' with_reducible (first|exact aA|exact e_c|apply aj|apply ah|apply bw|apply cE|apply aW|apply bu|assumption|exact au|(apply aK;kernel_rfl)|(show isI 400 _ (AObj.inst 400 aZ)=true;kernel_rfl)))
 ·rw[if_neg h0]at w0 ⊢
  refine⟨H,B,.refl H,?_⟩
  delta cw d8
  apply ie [(CW "self",.ref 3),(CW "c",.int c),(CW "a",.int a),(CW "b",.int b)] ⟨rfl,rfl⟩
  refine bD (cP (cy (H1:=H) (i:=3) ?_ X0 ?_ ?_ w0))<;>(repeat' with_reducible (first|exact aA|exact e_c|apply aj|apply ah|exact au|(apply aK;kernel_rfl)|(show isI 400 _ (AObj.inst 400 aZ)=true;kernel_rfl)))
noncomputable def gQ(T:List TK) (t:Nat):PR:=match T[t]? with
 | none=>(none,T)
 | some k=>if k.2.2.1=0 then(if k.1=CW "not" then(some (k.2.1.headD 0).toNat,T)else if t=1 then(some 2,T)else if t=2 then(some 1,T)else mkR T (tk "not" [t] 0))else(none,T)
theorem zf{H:Hp}{T:List TK}{t:Nat}{k:TK}{x:String}(B:BB H T) (hk:T[t]? = some k) (hx:k.1=CW x) (hn:k.1=CW "not"→∃ u:Nat,k.2.1=[(u:Int)]) (hl:T.length≤900):Res H (aT [.ref 3,.int t] H) (gQ T t):=by
 have X0:=B.bk.bank
 have hl1:T.length≤1000:=CX hl (by decide)
 have ht:t < T.length:=(List.getElem?_eq_some_iff.mp hk).1
 have w:=km (s:=0) (w:=CW "not") B.bk B.nm B.ok ht hl1 (by decide) (by decide) (by decide +kernel)
 rw[fh hk]at w
 have io:=jI (fun k=>V.str k.1) B.bk.ops hk hl1
 have ia:=jI (fun k=>V.tup (k.2.1.map .int)) B.bk.args hk hl1
 rw[hx]at io
 unfold gQ
 rw[hk]
 dsimp only
 by_cases h:k.2.2.1=0
 ·rw[if_pos h]at w ⊢
  by_cases h1:k.1=CW "not"
  ·rw[if_pos h1]
   refine byC fun kq=>?_
   obtain⟨u,hu⟩:=hn h1
   refine kq ?_;try clear kq
   have hx':x="not":=cS (hx.symm.trans h1)
   subst hx'
   rw[hu]at ia ⊢
   dsimp only[List.map]at ia
   have hu':([(u:Int)].headD 0).toNat=u:=Di u
   rw[hu']
   refine⟨H,B,.refl H,?_⟩
   show _=Out.ok (V.int u) H
   clear hl hl1 ht hk B h hn hx h1 hu
   delta aT cj
   apply cq [(CW "self",.ref 3),(CW "t",.int t)] ⟨rfl,rfl⟩
   (repeat' with_reducible (first|exact aA|exact e_c|apply aj|apply ah|apply bw|apply aF|apply az|apply b4|apply b9|apply cE|apply aW|apply bu|exact bO|apply c_t|apply aE|assumption|exact it0|exact qs|exact au|(apply aK;kernel_rfl)|(show isI 400 _ (AObj.inst 400 aZ)=true;kernel_rfl)))
  ·rw[if_neg h1]
   have hx':(x == "not")=false:=beq_eq_false_iff_ne.mpr fun z=>h1 (hx.trans (by rw[z]))
   by_cases h2:t=1
   ·rw[if_pos h2]
    refine⟨H,B,.refl H,?_⟩
    show _=Out.ok (V.int 2) H
    clear hl hl1 ht hk B h hn hx h1
    subst h2
    delta aT cj
    apply cq [(CW "self",.ref 3),(CW "t",.int ((1:Nat):Int))] ⟨rfl,rfl⟩
    have q:oEq (.int ((1:Nat):Int)) (.int 1) H=.ok (.bool true) H:=iG
    (repeat' with_reducible (first|exact aA|exact e_c|exact aR|apply aj|apply ah|apply bw|apply aF|apply az|apply b4|apply b9|apply cE|apply aW|apply bu|exact bO|apply c_t|apply c_f|apply aE|assumption|(apply nu;first|assumption|kernel_rfl)|exact au|(apply aK;kernel_rfl)|(show isI 400 _ (AObj.inst 400 aZ)=true;kernel_rfl)))
   ·rw[if_neg h2]
    have n2:((t:Int) == 1)=false:=beq_eq_false_iff_ne.mpr fun z=>h2 (Int.ofNat.inj z)
    by_cases h3:t=2
    ·rw[if_pos h3]
     refine⟨H,B,.refl H,?_⟩
     show _=Out.ok (V.int 1) H
     clear hl hl1 ht hk B h hn hx h1 h2
     subst h3
     delta aT cj
     apply cq [(CW "self",.ref 3),(CW "t",.int ((2:Nat):Int))] ⟨rfl,rfl⟩
     have q:oEq (.int ((2:Nat):Int)) (.int 2) H=.ok (.bool true) H:=iG
     (repeat' with_reducible (first|exact aA|exact e_c|exact aR|apply aj|apply ah|apply bw|apply aF|apply az|apply b4|apply b9|apply cE|apply aW|apply bu|exact bO|apply c_t|apply c_f|apply aE|assumption|(apply nu;first|assumption|kernel_rfl)|(apply j0;first|assumption|kernel_rfl)|exact au|(apply aK;kernel_rfl)|(show isI 400 _ (AObj.inst 400 aZ)=true;kernel_rfl)))
    ·rw[if_neg h3]
     have n3:((t:Int) == 2)=false:=beq_eq_false_iff_ne.mpr fun z=>h3 (Int.ofNat.inj z)
     refine byC fun kq=>?_
     obtain⟨H',e,x,cc⟩:=iS B "not" [t] 0 (by decide) hl
     refine kq ?_;try clear kq
     refine⟨H',x,cc,?_⟩
     dsimp only[iv,List.map]at e
     clear hl hl1 ht hk B h hn hx h1 h2 h3 cc x
     delta aT cj
     apply cq [(CW "self",.ref 3),(CW "t",.int t)] ⟨rfl,rfl⟩
     (repeat' with_reducible (first|exact aA|exact e_c|exact aR|apply aj|apply ah|apply bw|apply aF|apply cC|apply az|apply b4|apply b9|apply cE|apply aW|apply bu|exact bO|apply c_f|apply aE|assumption|(apply nu;first|assumption|kernel_rfl)|(apply j0;first|assumption|kernel_rfl)|exact au|(apply aK;kernel_rfl)|(show isI 400 _ (AObj.inst 400 aZ)=true;kernel_rfl)|(show Nat.ble _ _=true;kernel_rfl)))
 ·rw[if_neg h]at w ⊢
  refine⟨H,B,.refl H,?_⟩
  delta aT cj
  apply ie [(CW "self",.ref 3),(CW "t",.int t)] ⟨rfl,rfl⟩
  refine bD (cP (cy (H1:=H) (i:=3) ?_ X0 ?_ ?_ w))<;>(repeat' with_reducible (first|exact aA|exact e_c|apply aj|apply ah|exact au|(apply aK;kernel_rfl)|(show isI 400 _ (AObj.inst 400 aZ)=true;kernel_rfl)))

theorem lZ{j:Nat}{H:Hp}{xs:List V}(h:H[j]? = some (.list xs)) (hl:xs.length≤1000000):gW [.ref j] H=.ok (.tup xs) H:=by unfold gW;dsimp only;rw[h];exact if_pos hl
theorem aY(ts:List Nat):(iv ts).length=ts.length:=C4 ..
theorem en{j:Nat}{H:Hp}{t:Nat}{ts:List Nat}(h:H[j]? = some (.list (iv (t::ts)))) (hl:(t::ts).length≤100):cm (.ref j) (.int 0) H=.ok (.int t) H:=
 cO h (by rw[aY];exact CX hl (by decide)) (by decide) (by rw[aY];exact Int.ofNat_lt.mpr (Nat.succ_pos _)) rfl
noncomputable def anP(op:String) (d:Nat) (T:List TK) (ts:List Nat):PR:=if gI T ts 0 then(match ts with
 | []=>(some d,T)
 | [t]=>(some t,T)
 | t::u::r=>mkR T (tk op (t::u::r) 0))else(none,T)
theorem tC{H:Hp}{T:List TK}{j:Nat}{ts:List Nat}(B:BB H T) (hj:H[j]? = some (.list (iv ts))) (ht:∀ t∈ts,t < T.length) (hts:ts.length≤100) (hl:T.length≤900):Res H (bf [.ref 3,.ref j] H) (anP "and" 1 T ts):=by
 have X0:=B.bk.bank
 have hl1:T.length≤1000:=CX hl (by decide)
 have w:=kR (s:=0) (w:=CW "and") B hj hl1 (by decide) (by decide) (by decide +kernel) ht
 have hil:(iv ts).length≤100:=by rw[aY];exact hts
 have b1:=bj hj (Dc hil (by decide))
 rw[aY]at b1
 unfold anP
 by_cases h:gI T ts 0=true
 ·rw[if_pos h]at w ⊢
  cases ts with
  | nil=>
   refine⟨H,B,.refl H,?_⟩
   show _=Out.ok (V.int 1) H
   have b1:bL [.ref j] H=.ok (.int 0) H:=b1
   clear hl hl1 ht hts hil hj h B
   delta bf cK
   apply cq [(CW "self",.ref 3),(CW "some",.ref j)] ⟨rfl,rfl⟩
   (repeat' with_reducible (first|exact aA|exact e_c|apply aj|apply ah|apply aV|apply aF|apply az|apply b4|apply b9|apply cE|apply aW|apply bu|exact bO|apply c_t|apply aE|assumption|exact iG|exact au|(apply aK;kernel_rfl)|(show isI 400 _ (AObj.inst 400 aZ)=true;kernel_rfl)))
  | cons t r=>
   have i0:=en hj hts
   cases r with
   | nil=>
    refine⟨H,B,.refl H,?_⟩
    show _=Out.ok (V.int t) H
    have b1:bL [.ref j] H=.ok (.int 1) H:=b1
    clear hl hl1 ht hts hil hj h B
    delta bf cK
    apply cq [(CW "self",.ref 3),(CW "some",.ref j)] ⟨rfl,rfl⟩
    (repeat' with_reducible (first|exact aA|exact e_c|exact aR|apply aj|apply ah|apply aV|apply bw|apply aF|apply az|apply b4|apply b9|apply cE|apply aW|apply bW|exact bO|apply c_t|apply c_f|apply aE|assumption|exact iG|(apply j0;first|assumption|kernel_rfl)|exact au|(apply aK;kernel_rfl)|(show isI 400 _ (AObj.inst 400 aZ)=true;kernel_rfl)))
   | cons u r=>
    refine byC fun kq=>?_
    obtain⟨H',e,x,cc⟩:=iS B "and" (t::u::r) 0 (by decide) hl
    refine kq ?_;try clear kq
    refine⟨H',x,cc,?_⟩
    have n0:(((t::u::r).length:Int) == 0)=false:=beq_eq_false_iff_ne.mpr fun z=>by cases Int.ofNat.inj z
    have n1:(((t::u::r).length:Int) == 1)=false:=beq_eq_false_iff_ne.mpr fun z=>by cases Int.ofNat.inj z
    have b2:=lZ hj (CX hil (by decide))
    clear hl hl1 ht hts hil hj h B cc x
    delta bf cK
    apply cq [(CW "self",.ref 3),(CW "some",.ref j)] ⟨rfl,rfl⟩
    (repeat' with_reducible (first|exact aA|exact e_c|exact aR|apply aj|apply ah|apply aV|apply aF|apply az|apply b4|apply b9|apply cE|apply aW|apply bW|exact bO|apply c_f|apply aE|assumption|(apply j0;first|assumption|kernel_rfl)|exact au|(apply aK;kernel_rfl)|(show isI 400 _ (AObj.inst 400 aZ)=true;kernel_rfl)))
 ·rw[if_neg h]at w ⊢
  refine⟨H,B,.refl H,?_⟩
  delta bf cK
  apply ie [(CW "self",.ref 3),(CW "some",.ref j)] ⟨rfl,rfl⟩
  refine bD (cP (cy (H1:=H) (i:=3) ?_ X0 ?_ ?_ w))<;>(repeat' with_reducible (first|exact aA|exact e_c|apply aj|apply ah|exact au|(apply aK;kernel_rfl)|(show isI 400 _ (AObj.inst 400 aZ)=true;kernel_rfl)))
theorem Be{H:Hp}{T:List TK}{j:Nat}{ts:List Nat}(B:BB H T) (hj:H[j]? = some (.list (iv ts))) (ht:∀ t∈ts,t < T.length) (hts:ts.length≤100) (hl:T.length≤900):Res H (bK [.ref 3,.ref j] H) (anP "or" 2 T ts):=by
 have X0:=B.bk.bank
 have hl1:T.length≤1000:=CX hl (by decide)
 have w:=kR (s:=0) (w:=CW "or") B hj hl1 (by decide) (by decide) (by decide +kernel) ht
 have hil:(iv ts).length≤100:=by rw[aY];exact hts
 have b1:=bj hj (Dc hil (by decide))
 rw[aY]at b1
 unfold anP
 by_cases h:gI T ts 0=true
 ·rw[if_pos h]at w ⊢
  cases ts with
  | nil=>
   refine⟨H,B,.refl H,?_⟩
   show _=Out.ok (V.int 2) H
   have b1:bL [.ref j] H=.ok (.int 0) H:=b1
   clear hl hl1 ht hts hil hj h B
   delta bK cV
   apply cq [(CW "self",.ref 3),(CW "some",.ref j)] ⟨rfl,rfl⟩
   (repeat' with_reducible (first|exact aA|exact e_c|apply aj|apply ah|apply aV|apply aF|apply az|apply b4|apply b9|apply cE|apply aW|apply bu|exact bO|apply c_t|apply aE|assumption|exact iG|exact au|(apply aK;kernel_rfl)|(show isI 400 _ (AObj.inst 400 aZ)=true;kernel_rfl)))
  | cons t r=>
   have i0:=en hj hts
   cases r with
   | nil=>
    refine⟨H,B,.refl H,?_⟩
    show _=Out.ok (V.int t) H
    have b1:bL [.ref j] H=.ok (.int 1) H:=b1
    clear hl hl1 ht hts hil hj h B
    delta bK cV
    apply cq [(CW "self",.ref 3),(CW "some",.ref j)] ⟨rfl,rfl⟩
    (repeat' with_reducible (first|exact aA|exact e_c|exact aR|apply aj|apply ah|apply aV|apply bw|apply aF|apply az|apply b4|apply b9|apply cE|apply aW|apply bW|exact bO|apply c_t|apply c_f|apply aE|assumption|exact iG|(apply j0;first|assumption|kernel_rfl)|exact au|(apply aK;kernel_rfl)|(show isI 400 _ (AObj.inst 400 aZ)=true;kernel_rfl)))
   | cons u r=>
    refine byC fun kq=>?_
    obtain⟨H',e,x,cc⟩:=iS B "or" (t::u::r) 0 (by decide) hl
    refine kq ?_;try clear kq
    refine⟨H',x,cc,?_⟩
    have n0:(((t::u::r).length:Int) == 0)=false:=beq_eq_false_iff_ne.mpr fun z=>by cases Int.ofNat.inj z
    have n1:(((t::u::r).length:Int) == 1)=false:=beq_eq_false_iff_ne.mpr fun z=>by cases Int.ofNat.inj z
    have b2:=lZ hj (CX hil (by decide))
    clear hl hl1 ht hts hil hj h B cc x
    delta bK cV
    apply cq [(CW "self",.ref 3),(CW "some",.ref j)] ⟨rfl,rfl⟩
    (repeat' with_reducible (first|exact aA|exact e_c|exact aR|apply aj|apply ah|apply aV|apply aF|apply az|apply b4|apply b9|apply cE|apply aW|apply bW|exact bO|apply c_f|apply aE|assumption|(apply j0;first|assumption|kernel_rfl)|exact au|(apply aK;kernel_rfl)|(show isI 400 _ (AObj.inst 400 aZ)=true;kernel_rfl)))
 ·rw[if_neg h]at w ⊢
  refine⟨H,B,.refl H,?_⟩
  delta bK cV
  apply ie [(CW "self",.ref 3),(CW "some",.ref j)] ⟨rfl,rfl⟩
  refine bD (cP (cy (H1:=H) (i:=3) ?_ X0 ?_ ?_ w))<;>(repeat' with_reducible (first|exact aA|exact e_c|apply aj|apply ah|exact au|(apply aK;kernel_rfl)|(show isI 400 _ (AObj.inst 400 aZ)=true;kernel_rfl)))
noncomputable def mr(T:List TK) (ts:List Nat):PR:=if gI T ts (srt T (ts.headD 0))then mkR T (tk "distinct" ts 0)else(none,T)
theorem wq{H:Hp}{T:List TK}{j t u:Nat}{r:List Nat}(B:BB H T) (hj:H[j]? = some (.list (iv (t::u::r)))) (ht:∀ x∈t::u::r,x < T.length) (hts:(t::u::r).length≤100) (hl:T.length≤900):Res H (bF [.ref 3,.ref j] H) (mr T (t::u::r)):=by
 have X0:=B.bk.bank
 have hl1:T.length≤1000:=CX hl (by decide)
 have h0:=ht t (CY ..)
 have st:=tc B.ok h0
 have w:=kR (s:=srt T t) (w:=CW "distinct") B hj hl1 st.1 st.2 (by decide +kernel) ht
 have hil:(iv (t::u::r)).length≤100:=by rw[aY];exact hts
 have b1:=bj hj (Dc hil (by decide))
 rw[aY]at b1
 have n2:¬((t::u::r).length:Int) < 2:=fun z=>absurd (Int.ofNat_lt.mp z) (Nat.not_lt.mpr (Nat.le_add_left 2 r.length))
 have i0:=en hj hts
 have i1:=mZ B.bk h0 hl1
 unfold mr
 show Res H _ (if gI T (t::u::r) (srt T t)=true then _ else _)
 by_cases h:gI T (t::u::r) (srt T t)=true
 ·rw[if_pos h]at w ⊢
  refine byC fun kq=>?_
  obtain⟨H',e,x,cc⟩:=iS B "distinct" (t::u::r) 0 (by decide) hl
  refine kq ?_;try clear kq
  refine⟨H',x,cc,?_⟩
  have b2:=lZ hj (CX hil (by decide))
  clear hl hl1 ht hts hil hj h B cc x st h0
  delta bF dL
  apply cq [(CW "self",.ref 3),(CW "some",.ref j)] ⟨rfl,rfl⟩
  (repeat' with_reducible (first|exact aA|exact e_c|exact aR|apply aj|apply ah|apply aV|apply bw|apply aF|apply az|apply b4|apply b9|apply cE|apply aW|apply bu|exact bO|apply c_f|apply aE|assumption|(apply o8;first|assumption|decide)|exact au|(apply aK;kernel_rfl)|(show isI 400 _ (AObj.inst 400 aZ)=true;kernel_rfl)))
 ·rw[if_neg h]at w ⊢
  refine⟨H,B,.refl H,?_⟩
  delta bF dL
  apply ie [(CW "self",.ref 3),(CW "some",.ref j)] ⟨rfl,rfl⟩
  refine az (m1:=[(CW "self",.ref 3),(CW "some",.ref j)]) (H1:=H) (fl:=.next) ?_ (aE (bD (cP (cy (H1:=H) (i:=3) ?_ X0 ?_ ?_ w))))<;>(repeat' with_reducible (first|exact aA|exact e_c|exact aR|apply aj|apply ah|apply aV|apply bw|apply aF|apply b4|apply bu|apply c_f|assumption|(apply o8;first|assumption|decide)|exact au|(apply aK;kernel_rfl)|(show isI 400 _ (AObj.inst 400 aZ)=true;kernel_rfl)))
theorem xZ{H:Hp}{n:Nat}(xs:List String):lI (toD H n) (xs.map fun x=>.str (CW x))=some (xs.map fun x=>.str (CW x)):=by
 induction xs with
 | nil=>rfl
 | cons x r ih=>rw[List.map_cons,pD,lO (jk x),ih];rfl
theorem eM{H:Hp}(ys:List String) (x:String):oIn (.str (CW x)) (.tup (ys.map fun y=>.str (CW y))) H=.ok (.bool (ys.any fun y=>y == x)) H:=by
 have e:inD H (.str (CW x)) (ys.map fun y=>.str (CW y))=some (ys.any fun y=>y == x):=by
  unfold inD
  rw[lO (jk x),xZ]
  dsimp only
  rw[List.any_map]
  exact congrArg (fun f=>some (ys.any f)) (funext fun y=>pq y x)
 unfold oIn
 rw[Bj,bP,e,bP]
structure MK (H:Hp) (mk:Nat):Prop where
 ge:14≤mk
 ex:∃ fs,H[mk]? = some (.inst 868 fs)∧fs.lookup (CW "bank")=some (.ref 3)∧fs.lookup (CW "alike")=none∧fs.lookup (CW "core")=none
theorem MK.chg{H H':Hp}{mk} (x:MK H mk) (c:Chg H H'):MK H' mk:=by
 refine byC fun kq=>?_
 obtain⟨fs,a,b⟩:=x.ex
 refine kq ?_;try clear kq
 exact⟨x.ge,fs,c.get mk _ (.inr x.ge) a,b⟩
theorem lX{v w:V}{H:Hp}:bn [v,w] H=.ok w H:=by
 delta bn ee
 apply cq [(CW "self",v),(CW "some",w)] ⟨rfl,rfl⟩
 (repeat' with_reducible (first|apply ah|apply az|apply b9|exact bO|exact au|(apply aK;kernel_rfl)))

noncomputable abbrev cfr(mk:Nat) (x:String) (j:Nat):Fm:=[(CW "self",.ref mk),(CW "name",.str (CW x)),(CW "given",.ref j)]
theorem iR{fs:List (Str × V)}{x:Str}(h:fs.lookup x=none):isI 868 x (.inst 868 fs)=true:=by unfold isI;dsimp only;rw[h];rfl
theorem wh{H:Hp}{mk j:Nat}{n:Int}(M:MK H mk) (X0:H[3]? = some (.inst 400 aZ)) (b1:bL [.ref j] H=.ok (.int n) H):aq [.ref mk,.str (CW "and"),.ref j] H=bf [.ref 3,.ref j] H:=by
 refine byC fun kq=>?_
 obtain⟨fs,m1,m2,_,_⟩:=M.ex
 refine kq ?_;try clear kq
 clear M
 delta aq aU
 refine iF (m:=cfr mk "and" j) (cfr mk "and" j) ⟨rfl,rfl⟩ (dp ?_ (dC (jv ?_ (dC (iW (aW (i:=3) (H1:=H) (H2:=H) ?_ X0 ?_ ?_ rfl))))))<;>(repeat' with_reducible (first|exact aA|exact e_c|exact aR|apply aj|apply ah|apply aF|apply b4|apply bu|apply fF|apply c_f|assumption|exact qs|(apply nu;first|assumption|kernel_rfl)|exact au|(apply aK;kernel_rfl)|rfl|(show isI 400 _ (AObj.inst 400 aZ)=true;kernel_rfl)))
theorem yH{H:Hp}{mk j:Nat}{n:Int}(M:MK H mk) (X0:H[3]? = some (.inst 400 aZ)) (b1:bL [.ref j] H=.ok (.int n) H):aq [.ref mk,.str (CW "or"),.ref j] H=bK [.ref 3,.ref j] H:=by
 refine byC fun kq=>?_
 obtain⟨fs,m1,m2,_,_⟩:=M.ex
 refine kq ?_;try clear kq
 clear M
 delta aq aU
 refine iF (m:=cfr mk "or" j) (cfr mk "or" j) ⟨rfl,rfl⟩ (dp ?_ (dp ?_ (dC (jv ?_ (dC (iW (aW (i:=3) (H1:=H) (H2:=H) ?_ X0 ?_ ?_ rfl)))))))<;>(repeat' with_reducible (first|exact aA|exact e_c|exact aR|apply aj|apply ah|apply aF|apply b4|apply bu|apply fF|apply c_f|assumption|exact qs|(apply nu;first|assumption|kernel_rfl)|exact au|(apply aK;kernel_rfl)|rfl|(show isI 400 _ (AObj.inst 400 aZ)=true;kernel_rfl)))
theorem uB{H:Hp}{mk j t:Nat}(M:MK H mk) (X0:H[3]? = some (.inst 400 aZ)) (hj:H[j]? = some (.list (iv [t]))):aq [.ref mk,.str (CW "not"),.ref j] H=aT [.ref 3,.int t] H:=by
 refine byC fun kq=>?_
 obtain⟨fs,m1,m2,_,_⟩:=M.ex
 refine kq ?_;try clear kq
 have b1:bL [.ref j] H=.ok (.int 1) H:=bj hj (Nat.le_of_ble_eq_true rfl)
 have i0:=en hj (Nat.le_of_ble_eq_true rfl)
 clear M hj
 delta aq aU
 refine iF (m:=cfr mk "not" j) (cfr mk "not" j) ⟨rfl,rfl⟩ (dC (jv ?_ (dC (iW (aW (i:=3) (H1:=H) (H2:=H) (vs:=[.int t]) ?_ X0 ?_ ?_ rfl)))))<;>(repeat' with_reducible (first|exact aA|exact e_c|apply aj|apply ah|apply aV|apply bw|apply aF|apply bu|apply fF|apply c_t|assumption|exact qs|exact iG|exact au|(apply aK;kernel_rfl)|(show isI 400 _ (AObj.inst 400 aZ)=true;kernel_rfl)))
theorem uA{H:Hp}{mk j t u v:Nat}(M:MK H mk) (X0:H[3]? = some (.inst 400 aZ)) (hj:H[j]? = some (.list (iv [t,u,v]))):∃ H1,Ext H H1∧aq [.ref mk,.str (CW "ite"),.ref j] H=cw [.ref 3,.int t,.int u,.int v] H1:=by
 refine byC fun kq=>?_
 obtain⟨fs,m1,m2,m3,_⟩:=M.ex
 have m4:=iR m3
 have b1:bL [.ref j] H=.ok (.int 3) H:=bj hj (Nat.le_of_ble_eq_true rfl)
 obtain⟨H1,sm,cu,x,g⟩:=h7 (ys:=iv [u,v]) hj (Nat.le_of_ble_eq_true rfl) (Nat.le_of_ble_eq_true rfl) (nd (a:=.int 1) (b:=.none) hj rfl rfl)
 refine kq ?_;try clear kq
 refine⟨H1,x,?_⟩
 have i0:=en (x.get hj) (Nat.le_of_ble_eq_true rfl)
 have i1:=en g (Nat.le_of_ble_eq_true rfl)
 have i2:cm (.ref H.length) (.int 1) H1=.ok (.int v) H1:=cO g (Nat.le_of_ble_eq_true rfl) (by decide) (Int.ofNat_lt.mpr (Nat.le_refl 2)) rfl
 have y1:=x.get m1
 have Y0:=x.get X0
 have al:=fun a=>@lX (.ref mk) a H1
 have al:=al (.ref H.length)
 clear M x hj g
 delta aq aU
 refine iF (m:=(CW "both",.ref H.length)::cfr mk "ite" j) (cfr mk "ite" j) ⟨rfl,rfl⟩ (dp ?_ (dp ?_ (dp ?_ (dC (jv ?_ (az (m1:=(CW "both",.ref H.length)::cfr mk "ite" j) (H1:=H1) (fl:=.next) ?_ (aE (dC (iW (aW (i:=3) (H1:=H1) (H2:=H1) (vs:=[.int t,.int u,.int v]) ?_ Y0 ?_ ?_ rfl))))))))))<;>(repeat' with_reducible (first|exact bQ|exact aA|exact e_c|exact aR|apply aj|apply ah|apply aV|apply bw|apply aF|apply bY|apply b4|apply aW|apply bu|apply fF|apply gX|apply c_t|apply c_f|assumption|exact qs|exact iG|(apply nu;first|assumption|kernel_rfl)|exact au|(apply aK;kernel_rfl)|rfl|(show isI 400 _ (AObj.inst 400 aZ)=true;kernel_rfl)))
theorem wi{H:Hp}{mk j:Nat}{n:Int}{x:String}(M:MK H mk) (b1:bL [.ref j] H=.ok (.int n) H) (h1:(x == "not")=true→(n == 1)=false) (h2:(x == "and")=false) (h3:(x == "or")=false) (h4:(x == "ite")=true→(n == 3)=false) (hx:x.length≤20)
  (h5:n < 2∨(["not","ite","true","false"].any fun y=>y == x)=true) (hl:(CW x).length≤100):aq [.ref mk,.str (CW x),.ref j] H=.exc H:=by
 have eq:∀ y:String,aD oEq (ae (CW "name")) (fC (.str (CW y))) (cfr mk x j) H=.ok (.bool (x == y)) H:=fun y=>aF (ah (by(repeat' with_reducible (first|exact au|(apply aK;kernel_rfl))))) e_c fO
 have ln:∀ c:Int,aD oEq (aG bL (ad (ae (CW "given")) ao)) (fC (.int c)) (cfr mk x j) H=.ok (.bool (n == c)) H:=fun c=>aF (aV (aj (ah (by(repeat' with_reducible (first|exact au|(apply aK;kernel_rfl))))) aA) b1) e_c eO
 have an:∀ {f g:FE}{b c:Bool},f (cfr mk x j) H=.ok (.bool b) H→g (cfr mk x j) H=.ok (.bool c) H→(b=true→c=false)→mD f g (cfr mk x j) H=.ok (.bool false) H:=fun {f g b c} hf hg h=>by
  refine fF hf ?_
  cases b with
  | true=>rw[h rfl]at hg;exact hg
  | false=>rfl
 have l1:(Str.empty++CW x).length≤100:=by rw[Str.length_append];exact CX (Nat.le_of_eq (Nat.zero_add _)) hl
 have l2:(Str.empty++CW x++CW " has another number of arguments").length≤200:=by rw[Str.length_append];exact Nat.add_le_add l1 (show(CW " has another number of arguments").length≤100 by decide +kernel)
 have o5:fOr (aD oLt (aG bL (ad (ae (CW "given")) ao)) (fC (.int 2))) (aD oIn (ae (CW "name")) (bM (ad (fC (.str (CW "not"))) (ad (fC (.str (CW "ite"))) (ad (fC (.str (CW "true"))) (ad (fC (.str (CW "false"))) ao)))))) (cfr mk x j) H=.ok (.bool true) H:=by
  have a:aD oLt (aG bL (ad (ae (CW "given")) ao)) (fC (.int 2)) (cfr mk x j) H=.ok (.bool (decide (n < 2))) H:=aF (aV (aj (ah (by(repeat' with_reducible (first|exact au|(apply aK;kernel_rfl))))) aA) b1) e_c mQ
  by_cases h:n < 2
  ·rw[decide_eq_true h]at a;exact lE a (c_t rfl)
  ·rw[decide_eq_false h]at a
   have h5:=h5.resolve_left h
   have i:=eM (H:=H) ["not","ite","true","false"] x
   rw[h5]at i
   exact lE a (c_f (aF (ah (by(repeat' with_reducible (first|exact au|(apply aK;kernel_rfl))))) (cC (aj e_c (aj e_c (aj e_c (aj e_c aA)))) rfl) i))
 delta aq aU
 refine ie (cfr mk x j) ⟨rfl,rfl⟩ (dp (b4 (an (eq "not") (ln 1) h1) (c_f aR)) (dp (b4 (eq "and") (by rw[h2];exact aR)) (dp (b4 (eq "or") (by rw[h3];exact aR)) (dp (b4 (an (eq "ite") (ln 3) h4) (c_f aR)) (bD (jv o5 (bD (Av (jG (yO (ah ?_) (CX hl (by decide))) (CX l1 (by decide)) (jG e_c (CX l2 (by decide)) (Ao (CX l2 (by decide)))))))))))))
 (repeat' with_reducible (first|exact au|(apply aK;kernel_rfl)))

structure PG (T:List TK) (c:Nat) (p:PR):Prop where
 app:∃ t,p.2=T++t∧t.length≤c
 lt:∀ n,p.1=some n→n < p.2.length
theorem PG.len{T c p} (x:PG T c p):T.length≤p.2.length∧p.2.length≤T.length + c:=by
 refine byC fun kq=>?_
 obtain⟨t,e,h⟩:=x.app
 refine kq ?_;try clear kq
 rw[e,C1]
 exact⟨C9 _ _,Da h _⟩
theorem PG.trans{T c c' p q} (x:PG T c p) (y:PG p.2 c' q):PG T (c + c') q:=by
 refine byC fun kq=>?_
 obtain⟨t,e,h⟩:=x.app
 obtain⟨u,e',h'⟩:=y.app
 refine kq ?_;try clear kq
 exact⟨⟨t++u,by rw[e',e,List.append_assoc],by rw[C1];exact Nat.add_le_add h h'⟩,y.lt⟩
theorem PG.none{T:List TK}:PG T 0 (none,T):=⟨⟨[],(List.append_nil _).symm,Nat.le_refl _⟩,fun _ h=>nomatch h⟩
theorem PG.some{T:List TK}{n:Nat}(h:n < T.length):PG T 0 (some n,T):=⟨⟨[],(List.append_nil _).symm,Nat.le_refl _⟩,fun _ e=>by cases e;exact h⟩
theorem PG.mono{T c c' p} (x:PG T c p) (h:c≤c'):PG T c' p:=⟨let ⟨t,e,q⟩:=x.app;⟨t,e,CX q h⟩,x.lt⟩
theorem PG.make{T:List TK}(h0:0 < T.length) (k:TK):PG T 1 (mkR T k):=⟨A0 k,fun n e=>by cases e;exact(List.getElem?_eq_some_iff.mp (wS h0 k).2).1⟩
theorem BJ{T:List TK}{a b:Nat}(h0:0 < T.length):PG T 1 (jQ T a b):=by
 unfold jQ
 by_cases h:gI T [a,b] 0=true
 ·rw[if_pos h];exact .make h0 _
 ·rw[if_neg h];exact PG.none.mono (Nat.zero_le _)
theorem AU{T:List TK}{a b:Nat}(h0:0 < T.length):PG T 1 (ir T a b):=by
 unfold ir
 by_cases h:gI T [a,b] 0=true
 ·rw[if_pos h];exact .make h0 _
 ·rw[if_neg h];exact PG.none.mono (Nat.zero_le _)
theorem wu{T:List TK}{a b:Nat}(h0:1 < T.length):PG T 1 (eqP T a b):=by
 unfold eqP
 by_cases h:srt T b=srt T a
 ·rw[if_pos h]
  by_cases h':a=b
  ·rw[if_pos h'];exact(PG.some h0).mono (Nat.zero_le _)
  ·rw[if_neg h'];exact .make (Nat.lt_of_succ_lt h0) _
 ·rw[if_neg h];exact PG.none.mono (Nat.zero_le _)
noncomputable def dk(P:List TK→Nat→Nat→PR):List TK→Nat→List Nat→PR
 | T,a,[]=>(some a,T)
 | T,a,t::r=>match P T a t with
  | (some n,T1)=>dk P T1 n r
  | (none,T1)=>(none,T1)
noncomputable def tY(b:FS) (m:Fm) (H:Hp) (p:PR):Prop:=∃ H1,BB H1 p.2∧Chg H H1∧b m H=match p.1 with
 | some n=>.ok .next ((CW "found",.int (n:Int))::m) H1
 | none=>.exc m H1
theorem tS{P:List TK→Nat→Nat→PR}{b:FS}{mk j:Nat}{L:List V}(hj:14≤j)
  (hstep:∀ {T:List TK}{a t:Nat}{H:Hp}{m:Fm},BB H T→MK H mk→m.lookup (CW "self")=some (.ref mk)→m.lookup (CW "found")=some (.int a)→m.lookup (CW "t")=some (.int t)→a < T.length→t < T.length→T.length≤900→tY b m H (P T a t))
  (hg:∀ {T a t},0 < T.length→PG T 1 (P T a t)) (r:List Nat):∀ {T:List TK}{a:Nat}{H:Hp}{m:Fm},BB H T→MK H mk→H[j]? = some (.list L)→m.lookup (CW "self")=some (.ref mk)→m.lookup (CW "found")=some (.int a)→a < T.length→(∀ t∈r,t < T.length)→T.length + r.length≤900→
  ∃ m' H',BB H' (dk P T a r).2∧Chg H H'∧eX (fun H=>H[j]? = some (.list L)) (bA (CW "t")) b (iv r) m H=(match (dk P T a r).1 with
   | some _=>.ok .next m' H'
   | none=>.exc m' H')∧∀ n,(dk P T a r).1=some n→m'.lookup (CW "found")=some (.int (n:Int)):=by
 induction r with
 | nil=>
  intro T a H m B M g m1 m2 ha ht hl
  exact⟨m,H,B,.refl H,jA (G:=fun H=>H[j]? = some (.list L)) g,fun n e=>by cases e;exact m2⟩
 | cons t r ih=>
  intro T a H m B M g m1 m2 ha ht hl
  refine byC fun kq=>?_
  obtain⟨H1,B1,c1,e1⟩:=hstep (m:=(CW "t",.int t)::m) B M ((ak (by decide)).trans m1) ((ak (by decide)).trans m2) au ha (ht t (CY ..)) (CX (C9 _ _) hl)
  refine kq ?_;try clear kq
  have g1:=hg (a:=a) (t:=t) (Dc (Nat.zero_le _) ha)
  unfold dk
  cases e:P T a t with
  | mk o T1=>
   rw[e]at B1 e1 g1
   cases o with
   | none=>exact⟨_,H1,B1,c1,Aj (G:=fun H=>H[j]? = some (.list L)) g bQ e1,fun n z=>nomatch z⟩
   | some n=>
    have ln:=g1.len
    refine byC fun kq=>?_
    obtain⟨m',H',B',c',e',q'⟩:=ih (m:=(CW "found",.int (n:Int))::(CW "t",.int t)::m) B1 (M.chg c1) (c1.get j _ (.inr hj) g) ((ak (by decide)).trans ((ak (by decide)).trans m1)) au (g1.lt n rfl) (fun z hz=>Dd (ht z (CZ _ hz)) ln.1)
     (CX (Db ln.2 _) (CX (Nat.le_of_eq (by rw[Dh,Nat.add_comm 1];rfl)) hl))
    refine kq ?_;try clear kq
    exact⟨m',H',B',c1.trans c',(g6 (G:=fun H=>H[j]? = some (.list L)) g bQ e1).trans e',q'⟩
theorem qW{b:FS}{m:Fm}{H:Hp}{R:Out V}{p:PR}(h:Res H R p) (ok:∀ {n:Nat}{H1:Hp},R=.ok (.int (n:Int)) H1→b m H=.ok .next ((CW "found",.int (n:Int))::m) H1) (no:∀ {H1:Hp},R=.exc H1→b m H=.exc m H1):tY b m H p:=by
 refine byC fun kq=>?_
 obtain⟨H1,B,c,e⟩:=h
 obtain⟨o,T1⟩:=p
 refine kq ?_;try clear kq
 cases o with
 | some n=>exact⟨H1,B,c,ok e⟩
 | none=>exact⟨H1,B,c,no e⟩
theorem yo{mk:Nat}{T:List TK}{a t:Nat}{H:Hp}{m:Fm}(B:BB H T) (M:MK H mk) (m1:m.lookup (CW "self")=some (.ref mk)) (m2:m.lookup (CW "found")=some (.int a)) (m3:m.lookup (CW "t")=some (.int t)) (ha:a < T.length) (ht:t < T.length) (hl:T.length≤900):tY bI m H (jQ T a t):=by
 have X0:=B.bk.bank
 refine byC fun kq=>?_
 obtain⟨fs,n1,n2,_,_⟩:=M.ex
 refine kq ?_;try clear kq
 refine qW (Ac B ha ht hl) (fun e=>?_) fun e=>?_
 ·clear B ha ht hl M
  delta bI
  (repeat' with_reducible (first|exact bQ|exact aA|exact aR|apply aj|apply ah|apply az|apply bY|apply aW|apply bu|apply aE|assumption|(show isI 400 _ (AObj.inst 400 aZ)=true;kernel_rfl)))
 ·delta bI
  refine bD (n6 (cy (i:=3) (H1:=H) ?_ X0 ?_ ?_ e))<;>(repeat' with_reducible (first|exact aA|apply aj|apply ah|apply bu|assumption|(show isI 400 _ (AObj.inst 400 aZ)=true;kernel_rfl)))
theorem wF{mk:Nat}{T:List TK}{a t:Nat}{H:Hp}{m:Fm}(B:BB H T) (M:MK H mk) (m1:m.lookup (CW "self")=some (.ref mk)) (m2:m.lookup (CW "found")=some (.int a)) (m3:m.lookup (CW "t")=some (.int t)) (ha:a < T.length) (ht:t < T.length) (hl:T.length≤900):tY bH m H (ir T t a):=by
 have X0:=B.bk.bank
 refine byC fun kq=>?_
 obtain⟨fs,n1,n2,_,_⟩:=M.ex
 refine kq ?_;try clear kq
 refine qW (yZ B ht ha hl) (fun e=>?_) fun e=>?_
 ·clear B ha ht hl M
  delta bH
  (repeat' with_reducible (first|exact bQ|exact aA|exact aR|apply aj|apply ah|apply az|apply bY|apply aW|apply bu|apply aE|assumption|(show isI 400 _ (AObj.inst 400 aZ)=true;kernel_rfl)))
 ·delta bH
  refine bD (n6 (cy (i:=3) (H1:=H) ?_ X0 ?_ ?_ e))<;>(repeat' with_reducible (first|exact aA|apply aj|apply ah|apply bu|assumption|(show isI 400 _ (AObj.inst 400 aZ)=true;kernel_rfl)))
theorem qI{A:FS}{m:Fm}{H:Hp}{p:PR}(h:∃ m' H',BB H' p.2∧Chg H H'∧A m H=(match p.1 with
   | some _=>.ok .next m' H'
   | none=>.exc m' H')∧∀ n,p.1=some n→m'.lookup (CW "found")=some (.int (n:Int))):∃ m' R,Res H R p∧am A (am (a6 (ae (CW "found"))) av) m H=u1 m' R:=by
 refine byC fun kq=>?_
 obtain⟨m',H',B,c,e,q⟩:=h
 obtain⟨o,T1⟩:=p
 refine kq ?_;try clear kq
 cases o with
 | some n=>exact⟨m',.ok (.int (n:Int)) H',⟨H',B,c,rfl⟩,az e (aE (az (b9 (ah (q n rfl))) bO))⟩
 | none=>exact⟨m',.exc H',⟨H',B,c,rfl⟩,bD e⟩
theorem Res.shift{H H1:Hp}{R:Out V}{p:PR}(x:Res H1 R p) (c:Chg H H1):Res H R p:=by
 refine byC fun kq=>?_
 obtain⟨H',B,c',e⟩:=x
 refine kq ?_;try clear kq
 exact⟨H',B,c.trans c',e⟩
theorem qG(t:Nat) (r:List Nat) (hr:1≤(iv (t::r)).length):cut (iv (t::r)) (some 1) none=iv r:=zT hr
theorem wm{H:Hp}{T:List TK}{mk j t u:Nat}{r:List Nat}(B:BB H T) (M:MK H mk) (hj:H[j]? = some (.list (iv (t::u::r)))) (hH:14≤H.length) (ht:∀ x∈t::u::r,x < T.length) (hts:(t::u::r).length≤20) (hl:T.length≤800):
  Res H (aq [.ref mk,.str (CW "xor"),.ref j] H) (dk jQ T t (u::r)):=by
 have hil:(iv (t::u::r)).length≤20:=by rw[aY];exact hts
 have b1:=bj hj (Dc hil (by decide))
 rw[aY]at b1
 refine byC fun kq=>?_
 obtain⟨H1,sm,cu,x,g⟩:=h7 (ys:=iv (u::r)) hj (CX hil (by decide)) (CX (Nat.le_succ _) (CX hil (by decide))) ((nd (a:=.int 1) (b:=.none) hj rfl rfl).trans (by rw[qG _ _ (Nat.succ_pos _)]))
 have i0:=en hj (CX hts (by decide))
 have lp:=tS (mk:=mk) (L:=iv (u::r)) hH yo BJ (u::r) (m:=(CW "found",.int t)::cfr mk "xor" j) (B.ext x) (M.chg x.chg) g (by(repeat' with_reducible (first|exact au|(apply aK;kernel_rfl)))) au (ht t (CY ..)) (fun z hz=>ht z (CZ _ hz)) (CX (Nat.add_le_add hl (CX (Nat.le_succ _) hts)) (by decide))
 have n2:¬((t::u::r).length:Int) < 2:=fun z=>absurd (Int.ofNat_lt.mp z) (Nat.not_lt.mpr (Nat.le_add_left 2 r.length))
 obtain⟨m',R,hR,e⟩:=qI (A:=fK (dz (cN (ae (CW "given")) (fC (.int 1)) (fC .none) (fC .none))) (bA (CW "t")) bI) (m:=(CW "found",.int t)::cfr mk "xor" j) (H:=H) (p:=dk jQ T t (u::r)) (by
  obtain⟨m',H',B',c',e',q'⟩:=lp
  exact⟨m',H',B',x.chg.trans c',(kh (jF (gX (ah (by(repeat' with_reducible (first|exact au|(apply aK;kernel_rfl))))) e_c e_c e_c sm cu) g) e'),q'⟩)
 refine kq ?_;try clear kq
 have is:=eM (H:=H) ["not","ite","true","false"] "xor"
 dsimp only[List.map]at is
 have is:_=Out.ok (V.bool false) H:=is
 have fin:aq [.ref mk,.str (CW "xor"),.ref j] H=R:=by
  clear lp B M g sm cu x hil hts hl ht hj hH hR
  delta aq aU
  refine iF (cfr mk "xor" j) ⟨rfl,rfl⟩ (dp ?_ (dp ?_ (dp ?_ (dp ?_ (dp ?_ (dC (jv ?_ (az (m1:=(CW "found",.int t)::cfr mk "xor" j) (H1:=H) (fl:=.next) ?_ (aE e)))))))))<;>(repeat' with_reducible (first|exact bQ|exact aA|exact e_c|exact aR|apply aj|apply ah|apply aV|apply bw|apply aF|apply cC|apply bY|apply b4|apply lE|apply fF|apply c_f|assumption|exact qs|(apply nu;first|assumption|kernel_rfl)|(apply o8;first|assumption|decide)|exact au|(apply aK;kernel_rfl)|rfl|(show Nat.ble _ _=true;kernel_rfl)))
 rw[fin];exact hR

theorem wj{H:Hp}{T:List TK}{mk j u:Nat}{t:Nat}{r:List Nat}(B:BB H T) (M:MK H mk) (hj:H[j]? = some (.list (iv ((t::r)++[u])))) (hH:14≤H.length) (ht:∀ x∈t::r,x < T.length) (hu:u < T.length) (hts:(t::r).length≤20) (hl:T.length≤800):
  Res H (aq [.ref mk,.str (CW "=>"),.ref j] H) (dk (fun T a t=>ir T t a) T u (t::r).reverse):=by
 have hil:(iv ((t::r)++[u])).length≤21:=by rw[aY,C1];exact Nat.succ_le_succ hts
 have b1:=bj hj (Dc hil (by decide))
 rw[aY]at b1
 have hap:iv ((t::r)++[u])=iv (t::r)++[V.int u]:=De
 have hj':=hj
 rw[hap]at hj'
 have hil':(iv (t::r)).length≤20:=by rw[aY];exact hts
 refine byC fun kq=>?_
 obtain⟨H1,sm,cu,x,g⟩:=h7 (ys:=iv (t::r)) hj' (hap ▸ CX hil (by decide)) (CX hil' (by decide)) ((nd (a:=.none) (b:=.int (-1)) hj' rfl rfl).trans (by rw[yf]))
 have i0:=mO hj' (Dc hil' (by decide))
 have hrev:(iv (t::r)).reverse=iv (t::r).reverse:=List.map_reverse.symm
 have lp:=tS (P:=fun T a t=>ir T t a) (mk:=mk) (L:=iv (t::r)) hH wF AU (t::r).reverse (m:=(CW "found",.int u)::cfr mk "=>" j) (B.ext x) (M.chg x.chg) g (by(repeat' with_reducible (first|exact au|(apply aK;kernel_rfl)))) au hu (fun z hz=>ht z (List.mem_reverse.mp hz)) (by rw[List.length_reverse];exact CX (Nat.add_le_add hl hts) (by decide))
 rw[← hrev]at lp
 have n2:¬(((t::r)++[u]).length:Int) < 2:=fun z=>absurd (Int.ofNat_lt.mp z) (Nat.not_lt.mpr (by rw[C1];exact Nat.le_add_left 2 r.length))
 obtain⟨m',R,hR,e⟩:=qI (A:=fK (uF (ad (cN (ae (CW "given")) (fC .none) (kH (fC (.int 1))) (fC .none)) ao)) (bA (CW "t")) bH) (m:=(CW "found",.int u)::cfr mk "=>" j) (H:=H) (p:=dk (fun T a t=>ir T t a) T u (t::r).reverse) (by
  obtain⟨m',H',B',c',e',q'⟩:=lp
  exact⟨m',H',B',x.chg.trans c',(kh (Ci (aj (gX (ah (by(repeat' with_reducible (first|exact au|(apply aK;kernel_rfl))))) e_c (qo e_c) e_c sm cu) aA) g) e'),q'⟩)
 refine kq ?_;try clear kq
 have is:=eM (H:=H) ["not","ite","true","false"] "=>"
 dsimp only[List.map]at is
 have is:_=Out.ok (V.bool false) H:=is
 have fin:aq [.ref mk,.str (CW "=>"),.ref j] H=R:=by
  clear lp B M g sm cu x hil hil' hts hl ht hu hj hj' hH hR hrev hap
  delta aq aU
  refine iF (cfr mk "=>" j) ⟨rfl,rfl⟩ (dp ?_ (dp ?_ (dp ?_ (dp ?_ (dp ?_ (dp ?_ (dC (jv ?_ (az (m1:=(CW "found",.int u)::cfr mk "=>" j) (H1:=H) (fl:=.next) ?_ (aE e))))))))))<;>(repeat' with_reducible (first|exact bQ|exact aA|exact e_c|exact aR|apply aj|apply ah|apply aV|apply bw|apply aF|apply cC|apply bY|apply b4|apply lE|apply fF|apply qo|apply c_f|assumption|exact qs|(apply nu;first|assumption|kernel_rfl)|(apply o8;first|assumption|decide)|exact au|(apply aK;kernel_rfl)|rfl|(show Nat.ble _ _=true;kernel_rfl)))
 rw[fin];exact hR
noncomputable def fH:List TK→List (Nat × Nat)→Option (List Nat) × List TK
 | T,[]=>(some [],T)
 | T,p::r=>match eqP T p.1 p.2 with
  | (none,T1)=>(none,T1)
  | (some n,T1)=>((fH T1 r).1.map (n::·),(fH T1 r).2)
structure PGs (T:List TK) (c:Nat) (p:Option (List Nat) × List TK):Prop where
 app:∃ t,p.2=T++t∧t.length≤c
 lt:∀ l,p.1=some l→∀ n∈l,n < p.2.length
theorem AQ(r:List (Nat × Nat)):∀ {T:List TK},1 < T.length→PGs T r.length (fH T r):=by
 induction r with
 | nil=>exact fun h=>⟨⟨[],(List.append_nil _).symm,Nat.zero_le _⟩,fun l e n hn=>by cases e;cases hn⟩
 | cons p r ih=>
  intro T h
  have g:=wu (a:=p.1) (b:=p.2) h
  unfold fH
  cases e:eqP T p.1 p.2 with
  | mk o T1=>
   rw[e]at g
   cases o with
   | none=>exact⟨let ⟨t,a,b⟩:=g.app;⟨t,a,CX b (Nat.le_add_left 1 _)⟩,fun l z=>nomatch z⟩
   | some n=>
    have i:=ih (Dd h g.len.1)
    refine byC fun kq=>?_
    obtain⟨t,a,b⟩:=g.app
    obtain⟨u,a',b'⟩:=i.app
    refine kq ?_;try clear kq
    have a:T1=T++t:=a
    refine⟨⟨t++u,by show(fH T1 r).2=_;rw[a',a,List.append_assoc],by rw[C1,Df,Nat.add_comm];exact Nat.add_le_add b' b⟩,fun l z x hx=>?_⟩
    refine byC fun kq=>?_
    obtain⟨l',e1,e2⟩:=Option.map_eq_some_iff.mp z
    refine kq ?_;try clear kq
    rw[← e2]at hx
    rcases List.mem_cons.mp hx with rfl|hx
    ·exact Dd (g.lt _ rfl) (by show T1.length≤(fH T1 r).2.length;rw[a',C1];exact C9 _ _)
    ·exact i.lt l' e1 x hx
theorem BB.set{H:Hp}{T:List TK}{i:Nat}(x:BB H T) (o:AObj) (hi:14≤i):BB (H.set i o) T:=by
 have n:∀ c,c < 14→c ≠ i:=fun c h z=>absurd h (Nat.not_lt.mpr (z ▸ hi))
 exact⟨⟨aP (n 3 (by decide)) x.bk.bank,aP (n 9 (by decide)) x.bk.ops,aP (n 10 (by decide)) x.bk.args,aP (n 11 (by decide)) x.bk.sorts,aP (n 12 (by decide)) x.bk.datas,aP (n 13 (by decide)) x.bk.nums,x.bk.pos⟩,aP (n 4 (by decide)) x.nm,x.ok⟩
theorem Chg.set{H H':Hp}{i:Nat}(x:Chg H H') (o:AObj) (hi:H.length≤i):Chg H (H'.set i o):=
 ⟨by rw[List.length_set];exact x.len,fun k p n e=>aP (fun z=>absurd (bq e) (Nat.not_lt.mpr (z ▸ hi))) (x.get k p n e)⟩
noncomputable abbrev pr2(p:Nat × Nat):V:=.tup [.int p.1,.int p.2]
theorem yP{Hc:Hp}{i mk:Nat}{G:Hp→Prop}(M:MK Hc mk) (hi:14≤i) (hci:Hc.length≤i) (hG:∀ H,Chg Hc H→G H) (ps:List (Nat × Nat)):∀ {T:List TK}{H:Hp}{m:Fm}{acc:List Nat},BB H T→Chg Hc H→H[i]? = some (.list (iv acc))→m.lookup (CW "self")=some (.ref mk)→(∀ p∈ps,p.1 < T.length∧p.2 < T.length)→1 < T.length→T.length + ps.length≤900→acc.length + ps.length≤100→
  ∃ H',BB H' (fH T ps).2∧Chg Hc H'∧bN G (m9 (CW "a") (CW "b")) (fC (.bool true)) bo i (ps.map pr2) m H=(match (fH T ps).1 with
   | some _=>.ok () H'
   | none=>.exc H')∧∀ l,(fH T ps).1=some l→H'[i]? = some (.list (iv (acc++l))):=by
 induction ps with
 | nil=>
  intro T H m acc B c h m1 _ _ _ _
  exact⟨H,B,c,fu (hG H c),fun l e=>by cases e;rw[List.append_nil];exact h⟩
 | cons p r ih=>
  intro T H m acc B c h m1 hp h1 hl ha
  have X0:=B.bk.bank
  refine byC fun kq=>?_
  obtain⟨fs,n1,n2,_,_⟩:=(M.chg c).ex
  have lt:=hp p (CY ..)
  obtain⟨H1,B1,c1,e1⟩:=wv B lt.1 lt.2 (CX (C9 _ _) hl)
  refine kq ?_;try clear kq
  have g1:=wu (a:=p.1) (b:=p.2) h1
  have pv:m9 (CW "a") (CW "b") (pr2 p) m=some ((CW "b",.int p.2)::(CW "a",.int p.1)::m):=rfl
  unfold fH
  cases e:eqP T p.1 p.2 with
  | mk o T1=>
   rw[e]at B1 e1 g1
   cases o with
   | none=>
    have e1:_=Out.exc H1:=e1
    refine⟨H1,B1,c.trans c1,AH (hG H c) pv e_c ?_,fun l z=>nomatch z⟩
    delta bo
    refine cy (i:=3) (H1:=H) ?_ X0 ?_ ?_ e1<;>(repeat' with_reducible (first|exact aA|apply aj|apply ah|apply bu|assumption|exact au|(apply aK;kernel_rfl)|(show isI 400 _ (AObj.inst 400 aZ)=true;kernel_rfl)))
   | some n=>
    have e1:_=Out.ok (V.int (n:Int)) H1:=e1
    have ln:=g1.len
    have B2:=B1.set (.list (iv (acc++[n]))) hi
    have c2:=(c.trans c1).set (.list (iv (acc++[n]))) hci
    have h2:=c1.get i _ (.inr hi) h
    refine byC fun kq=>?_
    obtain⟨H',B',c',e',q'⟩:=ih (m:=(CW "b",.int p.2)::(CW "a",.int p.1)::m) (acc:=acc++[n]) B2 c2 (be h2) ((ak (by decide)).trans ((ak (by decide)).trans m1)) (fun z hz=>let q:=hp z (CZ _ hz);⟨Dd q.1 ln.1,Dd q.2 ln.1⟩) (Dd h1 ln.1)
     (CX (Db ln.2 _) (CX (Nat.le_of_eq (by rw[Dh,Nat.add_comm 1];rfl)) hl)) (by rw[C1];exact CX (Nat.le_of_eq (by rw[Dh];show acc.length + (1 + r.length)=acc.length + (r.length + 1);rw[Nat.add_comm 1])) ha)
    refine kq ?_;try clear kq
    refine⟨H',B',c',?_,fun l z=>?_⟩
    ·have st:bo ((CW "b",.int p.2)::(CW "a",.int p.1)::m) H=.ok (.int (n:Int)) H1:=by
      clear e' q' B' c' B2 c2 h2 B1 c1 B c hp h1 hl ha ih hG M h
      delta bo
      (repeat' with_reducible (first|exact aA|apply aj|apply ah|apply aW|apply bu|assumption|exact au|(apply aK;kernel_rfl)|(show isI 400 _ (AObj.inst 400 aZ)=true;kernel_rfl)))
     have hal:acc.length < 1000000:=Dc (CX (C9 _ _) ha) (by decide)
     rw[List.map_cons,kB (hG H c) pv e_c st h2 (by rw[aY];exact hal)]
     have hm:iv acc++[V.int (n:Int)]=iv (acc++[n]):=by show _=List.map _ (acc++[n]);rw[De];rfl
     rw[hm,e']
     dsimp only
     cases (fH T1 r).1<;>rfl
    ·refine byC fun kq=>?_
     obtain⟨l',a1,a2⟩:=Option.map_eq_some_iff.mp z
     refine kq ?_;try clear kq
     rw[q' l' a1,← a2,List.append_assoc]
     rfl

theorem Af(ts:List Nat):∀ us:List Nat,kT (iv ts) (iv us)=(ts.zip us).map pr2:=by
 induction ts with
 | nil=>exact fun us=>rfl
 | cons t r ih=>
  intro us
  cases us with
  | nil=>rfl
  | cons u us=>
   show V.tup [.int t,.int u]::kT (iv r) (iv us)=_
   rw[ih us];rfl
noncomputable def eqC(T:List TK) (ts:List Nat):PR:=match fH T (ts.zip (ts.drop 1))with
 | (some l,T1)=>anP "and" 1 T1 l
 | (none,T1)=>(none,T1)
theorem BM{T:List TK}{ts us:List Nat}(h:∀ x∈ts,x < T.length) (h':∀ x∈us,x < T.length):∀ p∈ts.zip us,p.1 < T.length∧p.2 < T.length:=fun p hp=>
 ⟨h _ (List.of_mem_zip hp).1,h' _ (List.of_mem_zip hp).2⟩
theorem tF(r:List (Nat × Nat)):∀ {T:List TK}{l},(fH T r).1=some l→l.length=r.length:=by
 induction r with
 | nil=>intro T l e;cases e;rfl
 | cons p r ih=>
  intro T l e
  unfold fH at e
  cases q:eqP T p.1 p.2 with
  | mk o T1=>
   rw[q]at e
   cases o with
   | none=>cases e
   | some n=>
    refine byC fun kq=>?_
    obtain⟨l',a,b⟩:=Option.map_eq_some_iff.mp e
    refine kq ?_;try clear kq
    rw[← b,Df,ih a,Df]
theorem yG{H:Hp}{T:List TK}{mk j t u:Nat}{r:List Nat}(B:BB H T) (M:MK H mk) (hj:H[j]? = some (.list (iv (t::u::r)))) (hj14:14≤j) (ht:∀ x∈t::u::r,x < T.length) (h1T:1 < T.length) (hts:(t::u::r).length≤20) (hl:T.length≤800):
  Res H (aq [.ref mk,.str (CW "="),.ref j] H) (eqC T (t::u::r)):=by
 have hH:14≤H.length:=CX hj14 (Nat.le_of_lt (bq hj))
 have hil:(iv (t::u::r)).length≤20:=by rw[aY];exact hts
 have hrl:(u::r).length≤20:=CX (Nat.le_succ _) hts
 have b1:=bj hj (Dc hil (by decide))
 rw[aY]at b1
 refine byC fun kq=>?_
 obtain⟨H1,sm,cu,x,g⟩:=h7 (ys:=iv (u::r)) hj (CX hil (by decide)) (CX (Nat.le_succ _) (CX hil (by decide))) ((nd (a:=.int 1) (b:=.none) hj rfl rfl).trans (by rw[qG _ _ (Nat.succ_pos _)]))
 have x2:Ext H1 (H1++[AObj.opq]):=.app _ _
 have x3:Ext (H1++[AObj.opq]) ((H1++[AObj.opq])++[AObj.list []]):=.app _ _
 have zi:=Cj (g:=ad (ae (CW "some")) (ad (cN (ae (CW "some")) (fC (.int 1)) (fC .none) (fC .none)) ao)) (m:=(CW "some",.ref j)::cfr mk "=" j) (H:=H) (H1:=H1) (a:=.ref j) (b:=.ref H.length) (xs:=iv (t::u::r)) (ys:=iv (u::r)) (by
  clear x2 x3 B M hil hrl hts hl ht hj14 hH
  (repeat' with_reducible (first|exact aA|exact e_c|apply aj|apply ah|apply gX|assumption|exact au))) (jj (x.get hj)) (jj g)
 have lp:=yP (Hc:=H1++[AObj.opq]) (i:=(H1++[AObj.opq]).length) (mk:=mk) (M.chg (x.trans x2).chg) (CX hH (x.trans x2).len) (Nat.le_refl _) (G:=fun H'=>fQ H' (.ref j)=some (iv (t::u::r))∧fQ H' (.ref H.length)=some (iv (u::r))∧H'[H1.length]? = some .opq) (fun H' c=>by
   refine⟨?_,?_,c.get _ _ (.inr (CX hH x.len)) (bc _ _ _)⟩
   ·exact jj (c.get _ _ (.inr hj14) ((x.trans x2).get hj))
   ·exact jj (c.get _ _ (.inr hH) (x2.get g))) ((t::u::r).zip (u::r)) (m:=[(CW "self",.ref mk)]) (acc:=[]) (B.ext ((x.trans x2).trans x3)) x3.chg (bc _ _ _) au (BM ht fun z hz=>ht z (CZ _ hz)) h1T
   (by rw[List.length_zip];exact CX (Nat.add_le_add hl (CX (Nat.min_le_left ..) hts)) (by decide)) (by rw[List.length_zip];exact CX (Nat.le_of_eq (Nat.zero_add _)) (CX (Nat.min_le_left ..) (CX hts (by decide))))
 rw[← Af]at lp
 have hc:=(x.trans x2).chg
 have is:=eM (H:=H) ["not","ite","true","false"] "="
 dsimp only[List.map]at is
 have is:_=Out.ok (V.bool false) H:=is
 have n2:¬((t::u::r).length:Int) < 2:=fun z=>absurd (Int.ofNat_lt.mp z) (Nat.not_lt.mpr (Nat.le_add_left 2 r.length))
 obtain⟨fs,m1,m2,m3,_⟩:=M.ex
 refine kq ?_;try clear kq
 have m4:=iR m3
 have al:bn [.ref mk,.ref j] H=.ok (.ref j) H:=lX
 have X0:=B.bk.bank
 have flt:(((CW "some",V.ref j)::cfr mk "=" j).filter fun p=>[CW "self"].contains p.1)=[(CW "self",V.ref mk)]:=by kernel_rfl
 have fin:∀ {R:Out V},aN (isI 400 (CW "and_of")) bf (a9 868 (CW "bank") (ae (CW "self"))) (ad (b7 [CW "self"] (uG (ad (ae (CW "some")) (ad (cN (ae (CW "some")) (fC (.int 1)) (fC .none) (fC .none)) ao))) (m9 (CW "a") (CW "b")) (fC (.bool true)) bo) ao) ((CW "some",.ref j)::cfr mk "=" j) H=R→
   aq [.ref mk,.str (CW "="),.ref j] H=R:=by
  intro R e
  clear lp zi B M g sm cu x x2 x3 hil hrl hts hl ht hj hH hc flt
  delta aq aU
  refine iF (m:=(CW "some",.ref j)::cfr mk "=" j) (cfr mk "=" j) ⟨rfl,rfl⟩ (dp ?_ (dp ?_ (dp ?_ (dp ?_ (dp ?_ (dp ?_ (dp ?_ (az (m1:=(CW "some",.ref j)::cfr mk "=" j) (H1:=H) (fl:=.next) ?_ (aE (dC (jv ?_ (dC (iW e)))))))))))))<;>(repeat' with_reducible (first|exact bQ|exact aA|exact e_c|exact aR|apply aj|apply ah|apply aV|apply aF|apply cC|apply bY|apply b4|apply aW|apply lE|apply fF|apply c_f|assumption|exact qs|(apply nu;first|assumption|kernel_rfl)|(apply o8;first|assumption|decide)|exact au|(apply aK;kernel_rfl)|rfl|(show Nat.ble _ _=true;kernel_rfl)))
 have bk:a9 868 (CW "bank") (ae (CW "self")) ((CW "some",.ref j)::cfr mk "=" j) H=.ok (.ref 3) H:=by
  clear lp zi B M g sm cu x x2 x3 hil hrl hts hl ht hj hH hc flt fin
  (repeat' with_reducible (first|apply ah|apply bu|assumption|exact au|(apply aK;kernel_rfl)))
 have hI:isI 400 (CW "and_of") (.inst 400 aZ)=true:=by kernel_rfl
 unfold eqC
 show Res H _ (match fH T ((t::u::r).zip (u::r))with
  | (some l,T1)=>anP "and" 1 T1 l
  | (none,T1)=>(none,T1))
 refine byC fun kq=>?_
 obtain⟨H',B',c',e',q'⟩:=lp
 refine kq ?_;try clear kq
 have pg:=AQ ((t::u::r).zip (u::r)) h1T
 have el:=@tF ((t::u::r).zip (u::r)) T
 cases hq:fH T ((t::u::r).zip (u::r))with
 | mk o T1=>
  rw[hq]at B' e' q' pg el
  cases o with
  | none=>
   refine⟨H',B',hc.trans c',fin (my bk X0 hI (mw (sg zi flt e')))⟩
  | some l=>
   have hll:l.length≤20:=by rw[el rfl,List.length_zip];exact CX (Nat.min_le_left ..) hts
   have hT1:T1.length≤900:=by
    refine byC fun kq=>?_
    obtain⟨z,a,b⟩:=pg.app
    refine kq ?_;try clear kq
    have a:T1=T++z:=a
    rw[a,C1]
    rw[List.length_zip]at b
    exact CX (Nat.add_le_add hl (CX b (CX (Nat.min_le_left ..) hts))) (by decide)
   have an:=tC B' (q' l rfl) (fun z hz=>pg.lt l rfl z hz) (CX hll (by decide)) hT1
   have an:=(an.shift c').shift hc
   rw[fin (aW bk X0 hI (aj (fG zi flt e') aA) rfl)]
   exact an

noncomputable def oOk(T:List TK):Prop:=∀ k∈T,(∃ x:String,k.1=CW x)∧(k.1=CW "not"→∃ u:Nat,k.2.1=[(u:Int)])
theorem oOk.mk{T:List TK}{op:String}{ts:List Nat}{s:Int}(S:oOk T) (h:op="not"→∃ u,ts=[u]):oOk (mkP T (tk op ts s)).2:=by
 cases q:fnd T (tk op ts s)with
 | some n=>rw[gu q];exact S
 | none=>
  rw[je q]
  intro x hx
  rcases List.mem_append.mp hx with hx|hx
  ·exact S x hx
  ·rw[List.mem_singleton.mp hx]
   refine⟨⟨op,rfl⟩,fun z=>?_⟩
   refine byC fun kq=>?_
   obtain⟨u,hu⟩:=h (cS z)
   refine kq ?_;try clear kq
   exact⟨u,by show ts.map _=_;rw[hu];rfl⟩
theorem AO{T:List TK}{a b:Nat}(S:oOk T):oOk (eqP T a b).2:=by
 unfold eqP
 by_cases h:srt T b=srt T a
 ·rw[if_pos h]
  by_cases h':a=b
  ·rw[if_pos h'];exact S
  ·rw[if_neg h'];exact S.mk fun z=>absurd z (by decide)
 ·rw[if_neg h];exact S
theorem mN{H:Hp}{T:List TK}{t:Nat}(B:BB H T) (O:oOk T) (ht:t < T.length) (hl:T.length≤900):Res H (aT [.ref 3,.int t] H) (gQ T t):=by
 have hk:T[t]? = some T[t]:=C0 ht
 refine byC fun kq=>?_
 obtain⟨⟨x,hx⟩,hn⟩:=O _ (List.getElem_mem ht)
 refine kq ?_;try clear kq
 exact zf B hk hx hn hl
noncomputable abbrev sfr(mk:Nat) (x:String) (j:Nat):Fm:=(CW "some",.ref j)::cfr mk x j
theorem kC{H:Hp}{mk j:Nat}{n:Int}{R:Out V}(M:MK H mk) (b1:bL [.ref j] H=.ok (.int n) H) (n2:¬n < 2)
  (e:am (fIf (aD oEq (aG bL (ad (ae (CW "some")) ao)) (fC (.int 2))) (am (a6 (aN (isI 400 (CW "not_of")) aT (a9 868 (CW "bank") (ae (CW "self"))) (ad (aN (isI 400 (CW "eq")) cv (a9 868 (CW "bank") (ae (CW "self"))) (ad (ba (ae (CW "some")) (fC (.int 0))) (ad (ba (ae (CW "some")) (fC (.int 1))) ao))) ao))) av) av)
   (am (a6 (aN (isI 400 (CW "distinct")) bF (a9 868 (CW "bank") (ae (CW "self"))) (ad (ae (CW "some")) ao))) av) (sfr mk "distinct" j) H=u1 (sfr mk "distinct" j) R):
  aq [.ref mk,.str (CW "distinct"),.ref j] H=R:=by
 have is:=eM (H:=H) ["not","ite","true","false"] "distinct"
 dsimp only[List.map]at is
 have is:_=Out.ok (V.bool false) H:=is
 refine byC fun kq=>?_
 obtain⟨fs,m1,m2,m3,_⟩:=M.ex
 refine kq ?_;try clear kq
 have m4:=iR m3
 have al:bn [.ref mk,.ref j] H=.ok (.ref j) H:=lX
 clear M
 delta aq aU
 refine iF (m:=sfr mk "distinct" j) (cfr mk "distinct" j) ⟨rfl,rfl⟩ (dp ?_ (dp ?_ (dp ?_ (dp ?_ (dp ?_ (dp ?_ (dp ?_ (az (m1:=sfr mk "distinct" j) (H1:=H) (fl:=.next) ?_ (aE (dp ?_ e))))))))))<;>(repeat' with_reducible (first|exact bQ|exact aA|exact e_c|exact aR|apply aj|apply ah|apply aV|apply aF|apply cC|apply bY|apply b4|apply aW|apply lE|apply fF|apply c_f|assumption|(apply nu;first|assumption|kernel_rfl)|(apply o8;first|assumption|decide)|exact au|(apply aK;kernel_rfl)|rfl|(show Nat.ble _ _=true;kernel_rfl)))
theorem r9{H:Hp}{T:List TK}{mk j t u v:Nat}{r:List Nat}(B:BB H T) (M:MK H mk) (hj:H[j]? = some (.list (iv (t::u::v::r)))) (ht:∀ x∈t::u::v::r,x < T.length) (hts:(t::u::v::r).length≤20) (hl:T.length≤800):
  Res H (aq [.ref mk,.str (CW "distinct"),.ref j] H) (mr T (t::u::v::r)):=by
 have hil:(iv (t::u::v::r)).length≤20:=by rw[aY];exact hts
 have b1:=bj hj (Dc hil (by decide))
 rw[aY]at b1
 have ds:=wq B hj ht (CX hts (by decide)) (CX hl (by decide))
 have X0:=B.bk.bank
 refine byC fun kq=>?_
 obtain⟨fs,m1,m2,m3,_⟩:=M.ex
 refine kq ?_;try clear kq
 have n2:(((t::u::v::r).length:Int) == 2)=false:=beq_eq_false_iff_ne.mpr fun z=>absurd (Int.ofNat.inj z) (Nat.ne_of_gt (Nat.le_add_left 3 r.length))
 have hI:isI 400 (CW "distinct") (.inst 400 aZ)=true:=by kernel_rfl
 have bk:a9 868 (CW "bank") (ae (CW "self")) (sfr mk "distinct" j) H=.ok (.ref 3) H:=by
  clear ds B M hil hts hl ht hj
  (repeat' with_reducible (first|apply ah|apply bu|assumption|exact au|(apply aK;kernel_rfl)))
 rw[kC (R:=bF [.ref 3,.ref j] H) M b1 (fun z=>absurd (Int.ofNat_lt.mp z) (Nat.not_lt.mpr (Nat.le_add_left 2 (r.length + 1)))) (dp ?_ (dC (iW (aW bk X0 hI (aj (ah au) aA) rfl))))]
 ·exact ds
 ·clear ds B M hil hts hl ht hj bk hI
  (repeat' with_reducible (first|exact aA|exact e_c|exact aR|apply aj|apply ah|apply aV|apply aF|apply b4|apply c_f|assumption|(apply j0;first|assumption|kernel_rfl)|exact au))
noncomputable def jZ(T:List TK):List Nat→PR
 | [a,b]=>(match eqP T a b with
  | (some n,T1)=>gQ T1 n
  | (none,T1)=>(none,T1))
 | ts=>mr T ts
theorem rZ{H:Hp}{T:List TK}{mk j t u:Nat}(B:BB H T) (O:oOk T) (M:MK H mk) (hj:H[j]? = some (.list (iv [t,u]))) (ht:∀ x∈[t,u],x < T.length) (h1:1 < T.length) (hl:T.length≤800):
  Res H (aq [.ref mk,.str (CW "distinct"),.ref j] H) (jZ T [t,u]):=by
 have b1:bL [.ref j] H=.ok (.int 2) H:=bj hj (Nat.le_of_ble_eq_true rfl)
 have i0:=en hj (Nat.le_of_ble_eq_true rfl)
 have i1:cm (.ref j) (.int 1) H=.ok (.int u) H:=cO hj (Nat.le_of_ble_eq_true rfl) (by decide) (Int.ofNat_lt.mpr (Nat.le_refl 2)) rfl
 have er:=wv B (ht t (CY ..)) (ht u (CZ _ (CY ..))) (CX hl (by decide))
 have eg:=wu (a:=t) (b:=u) h1
 have eo:=AO (a:=t) (b:=u) O
 have X0:=B.bk.bank
 refine byC fun kq=>?_
 obtain⟨fs,m1,m2,m3,_⟩:=M.ex
 have hI:isI 400 (CW "not_of") (.inst 400 aZ)=true:=by kernel_rfl
 have hI2:isI 400 (CW "eq") (.inst 400 aZ)=true:=by kernel_rfl
 have bk:a9 868 (CW "bank") (ae (CW "self")) (sfr mk "distinct" j) H=.ok (.ref 3) H:=by
  clear er eg eo B M hl ht hj
  (repeat' with_reducible (first|apply ah|apply bu|assumption|exact au|(apply aK;kernel_rfl)))
 have ar:ad (ba (ae (CW "some")) (fC (.int 0))) (ad (ba (ae (CW "some")) (fC (.int 1))) ao) (sfr mk "distinct" j) H=.ok [.int t,.int u] H:=by
  clear er eg eo B M hl ht hj bk
  (repeat' with_reducible (first|exact aA|exact e_c|apply aj|apply ah|apply bw|assumption|exact au))
 have two:aD oEq (aG bL (ad (ae (CW "some")) ao)) (fC (.int 2)) (sfr mk "distinct" j) H=.ok (.bool true) H:=aF (aV (aj (ah au) aA) b1) e_c iG
 obtain⟨H1,B1,c1,e1⟩:=er
 refine kq ?_;try clear kq
 show Res H _ (match eqP T t u with
  | (some n,T1)=>gQ T1 n
  | (none,T1)=>(none,T1))
 cases q:eqP T t u with
 | mk o T1=>
  rw[q]at B1 e1 eg eo
  cases o with
  | none=>
   have e1:_=Out.exc H1:=e1
   rw[kC (R:=.exc H1) M b1 (by decide) (dC (jv two (dC (iW (my bk X0 hI (mw (cy bk X0 hI2 ar e1)))))))]
   exact⟨H1,B1,c1,rfl⟩
  | some n=>
   have e1:_=Out.ok (V.int (n:Int)) H1:=e1
   rw[kC (R:=aT [.ref 3,.int n] H1) M b1 (by decide) (dC (jv two (dC (iW (aW bk X0 hI (aj (aW bk X0 hI2 ar e1) aA) rfl)))))]
   exact(mN B1 eo (eg.lt n rfl) (CX eg.len.2 (CX (Nat.succ_le_succ hl) (by decide)))).shift c1

inductive Nm where
 | and|or|xor|imp|eq|dist|ite|not|tru
noncomputable def Nm.s:Nm→String
 | .and=>"and" | .or=>"or" | .xor=>"xor" | .imp=>"=>" | .eq=>"=" | .dist=>"distinct" | .ite=>"ite" | .not=>"not" | .tru=>"true"
noncomputable def qC(T:List TK) (ts:List Nat):PR:=dk (fun T a t=>ir T t a) T (ts.getLastD 0) ts.dropLast.reverse
noncomputable def c9(T:List TK):Nm→List Nat→PR
 | .and,ts=>anP "and" 1 T ts
 | .or,ts=>anP "or" 2 T ts
 | .not,[t]=>gQ T t
 | .ite,[t,u,v]=>qF T t u v
 | .xor,t::u::r=>dk jQ T t (u::r)
 | .imp,t::u::r=>qC T (t::u::r)
 | .eq,t::u::r=>eqC T (t::u::r)
 | .dist,t::u::r=>jZ T (t::u::r)
 | _,_=>(none,T)
theorem lM{H:Hp}{T:List TK}{mk j:Nat}{ts:List Nat}{x:String}(B:BB H T) (M:MK H mk) (hj:H[j]? = some (.list (iv ts))) (hts:ts.length≤10) (h1:(x == "not")=true→ts.length ≠ 1) (h2:(x == "and")=false) (h3:(x == "or")=false) (h4:(x == "ite")=true→ts.length ≠ 3) (hx:x.length≤20)
  (h5:ts.length < 2∨(["not","ite","true","false"].any fun y=>y == x)=true) (hl:(CW x).length≤100):Res H (aq [.ref mk,.str (CW x),.ref j] H) (none,T):=by
 have b1:=bj hj (Dc (Nat.le_of_eq (aY ts)) (Dc hts (by decide)))
 rw[aY]at b1
 exact⟨H,B,.refl H,wi M b1 (fun z=>beq_eq_false_iff_ne.mpr fun q=>h1 z (Int.ofNat.inj q)) h2 h3 (fun z=>beq_eq_false_iff_ne.mpr fun q=>h4 z (Int.ofNat.inj q)) hx (h5.imp (fun z=>Int.ofNat_lt.mpr z) id) hl⟩
structure CR (H:Hp) (T:List TK) (mk j:Nat) (ts:List Nat):Prop where
 B:BB H T
 O:oOk T
 M:MK H mk
 hj:H[j]? = some (.list (iv ts))
 h14:14≤j
 ht:∀ t∈ts,t < T.length
 h1T:1 < T.length
 hts:ts.length≤10
 hl:T.length≤800
noncomputable abbrev CoR(H:Hp) (mk j:Nat) (x:String) (p:PR):Prop:=Res H (aq [.ref mk,.str (CW x),.ref j] H) p
theorem CR.few{H:Hp}{T:List TK}{mk j:Nat}{ts:List Nat}(s:CR H T mk j ts) (x:String) (h1:(x == "not")=false) (h4:(x == "ite")=false) (h:ts.length < 2) (h2:(x == "and")=false:=by rfl) (h3:(x == "or")=false:=by rfl) (hx:Nat.ble x.length 20=true:=by rfl) (hl:Nat.ble (CW x).length 100=true:=by kernel_rfl):CoR H mk j x (none,T):=
 lM s.B s.M s.hj s.hts (fun z=>absurd (h1.symm.trans z) (by decide)) h2 h3 (fun z=>absurd (h4.symm.trans z) (by decide)) (Nat.le_of_ble_eq_true hx) (.inl h) (Nat.le_of_ble_eq_true hl)
theorem kl(ts:List Nat):ts.length < 2∨∃ t u r,ts=t::u::r:=by
 cases ts with
 | nil=>exact .inl (by decide)
 | cons t r=>cases r with
  | nil=>exact .inl (Nat.lt_succ_self 1)
  | cons u r=>exact .inr ⟨t,u,r,rfl⟩
theorem j7{T:List TK}{x:Nm}{ts:List Nat}(h:ts.length < 2) (hx:x=.xor∨x=.imp∨x=.eq∨x=.dist):c9 T x ts=(none,T):=by
 cases ts with
 | nil=>rcases hx with h|h|h|h<;>rw[h]<;>rfl
 | cons t r=>cases r with
  | nil=>rcases hx with h|h|h|h<;>rw[h]<;>rfl
  | cons u r=>exact absurd h (Nat.not_lt.mpr (Nat.le_add_left 2 r.length))
theorem ze{T:List TK}(ts:List Nat):(ts.length ≠ 1∧c9 T .not ts=(none,T))∨∃ t,ts=[t]:=by
 cases ts with
 | nil=>exact .inl ⟨by decide,rfl⟩
 | cons t r=>cases r with
  | nil=>exact .inr ⟨t,rfl⟩
  | cons u r=>exact .inl ⟨fun z=>Nat.succ_ne_zero _ (Nat.succ.inj z),rfl⟩
theorem uL{T:List TK}(ts:List Nat):(ts.length ≠ 3∧c9 T .ite ts=(none,T))∨∃ t u v,ts=[t,u,v]:=by
 cases ts with
 | nil=>exact .inl ⟨by decide,rfl⟩
 | cons t r=>cases r with
  | nil=>exact .inl ⟨(by decide:1 ≠ 3),rfl⟩
  | cons u r=>cases r with
   | nil=>exact .inl ⟨(by decide:2 ≠ 3),rfl⟩
   | cons v r=>cases r with
    | nil=>exact .inr ⟨t,u,v,rfl⟩
    | cons w r=>exact .inl ⟨fun z=>Nat.succ_ne_zero _ (Nat.succ.inj (Nat.succ.inj (Nat.succ.inj z))),rfl⟩
theorem CR.not{H:Hp}{T:List TK}{mk j:Nat}{ts:List Nat}(s:CR H T mk j ts):CoR H mk j "not" (c9 T .not ts):=by
 rcases ze (T:=T) ts with⟨h,e⟩|⟨t,h⟩
 ·rw[e];exact lM s.B s.M s.hj s.hts (fun _=>h) rfl rfl (fun z=>absurd z (by decide)) (by decide) (.inr rfl) (by decide +kernel)
 ·rw[h]at s ⊢
  show Res H _ (gQ T t)
  rw[uB s.M s.B.bk.bank s.hj];exact mN s.B s.O (s.ht t (CY ..)) (CX s.hl (by decide))
theorem CR.ite{H:Hp}{T:List TK}{mk j:Nat}{ts:List Nat}(s:CR H T mk j ts):CoR H mk j "ite" (c9 T .ite ts):=by
 rcases uL (T:=T) ts with⟨h,e⟩|⟨t,u,v,h⟩
 ·rw[e];exact lM s.B s.M s.hj s.hts (fun z=>absurd z (by decide)) rfl rfl (fun _=>h) (by decide) (.inr rfl) (by decide +kernel)
 ·rw[h]at s ⊢
  refine byC fun kq=>?_
  obtain⟨H1,x,e⟩:=uA s.M s.B.bk.bank s.hj
  refine kq ?_;try clear kq
  show Res H _ (qF T t u v)
  rw[e]
  exact(y8 (s.B.ext x) (s.ht t (CY ..)) (s.ht u (CZ _ (CY ..))) (s.ht v (CZ _ (CZ _ (CY ..)))) (CX s.hl (by decide))).shift x.chg
theorem CR.imp{H:Hp}{T:List TK}{mk j t u:Nat}{r:List Nat}(s:CR H T mk j (t::u::r)) (hH:14≤H.length):CoR H mk j "=>" (qC T (t::u::r)):=by
 rcases List.eq_nil_or_concat (u::r)with hz|⟨r',l,hz⟩
 ·cases hz
 rw[List.concat_eq_append]at hz
 have e:t::u::r=(t::r')++[l]:=by rw[hz];rfl
 rw[e]at s ⊢
 show Res H _ (qC T ((t::r')++[l]))
 unfold qC
 rw[List.getLastD_concat,List.dropLast_concat]
 have h:=s.hts
 rw[C1]at h
 exact wj s.B s.M s.hj hH (fun z hz=>s.ht z (List.mem_append_left _ hz)) (s.ht l (List.mem_append_right _ (List.mem_singleton.mpr rfl))) (CX (C9 _ _) (CX h (by decide))) s.hl
theorem CR.run{H:Hp}{T:List TK}{mk j:Nat}{ts:List Nat}(s:CR H T mk j ts) (x:Nm):CoR H mk j x.s (c9 T x ts):=by
 have hH:14≤H.length:=CX s.h14 (Nat.le_of_lt (bq s.hj))
 have b1:=bj s.hj (Dc (Nat.le_of_eq (aY ts)) (Dc s.hts (by decide)))
 have hl9:T.length≤900:=CX s.hl (by decide)
 have h20:ts.length≤20:=CX s.hts (by decide)
 cases x with
 | and=>show Res H _ (anP "and" 1 T ts);exact wh s.M s.B.bk.bank b1 ▸ tC s.B s.hj s.ht (CX s.hts (by decide)) hl9
 | or=>show Res H _ (anP "or" 2 T ts);exact yH s.M s.B.bk.bank b1 ▸ Be s.B s.hj s.ht (CX s.hts (by decide)) hl9
 | tru=>exact(show c9 T .tru ts=(none,T)by cases ts<;>rfl) ▸ lM s.B s.M s.hj s.hts (fun z=>absurd z (by decide)) rfl rfl (fun z=>absurd z (by decide)) (by decide) (.inr rfl) (by decide +kernel)
 | not=>exact s.not
 | ite=>exact s.ite
 | xor=>
  rcases kl ts with h|⟨t,u,r,h⟩
  ·rw[j7 h (.inl rfl)];exact s.few "xor" rfl rfl h
  ·rw[h]at s h20 ⊢;exact wm s.B s.M s.hj hH s.ht h20 s.hl
 | eq=>
  rcases kl ts with h|⟨t,u,r,h⟩
  ·rw[j7 h (.inr (.inr (.inl rfl)))];exact s.few "=" rfl rfl h
  ·rw[h]at s h20 ⊢;exact yG s.B s.M s.hj s.h14 s.ht s.h1T h20 s.hl
 | imp=>
  rcases kl ts with h|⟨t,u,r,h⟩
  ·rw[j7 h (.inr (.inl rfl))];exact s.few "=>" rfl rfl h
  ·rw[h]at s ⊢;exact s.imp hH
 | dist=>
  rcases kl ts with h|⟨t,u,r,h⟩
  ·rw[j7 h (.inr (.inr (.inr rfl)))];exact s.few "distinct" rfl rfl h
  ·rw[h]at s h20 ⊢
   cases r with
   | nil=>exact rZ s.B s.O s.M s.hj s.ht s.h1T s.hl
   | cons v r=>exact r9 s.B s.M s.hj s.ht h20 s.hl
theorem qk{H:Hp}{T:List TK}{mk j:Nat}{ts:List Nat}(x:Nm) (B:BB H T) (O:oOk T) (M:MK H mk) (hj:H[j]? = some (.list (iv ts))) (hj14:14≤j) (ht:∀ t∈ts,t < T.length) (h1T:1 < T.length) (hts:ts.length≤10) (hl:T.length≤800):
  Res H (aq [.ref mk,.str (CW x.s),.ref j] H) (c9 T x ts):=CR.run ⟨B,O,M,hj,hj14,ht,h1T,hts,hl⟩ x
noncomputable def Tol(H:Hp) (R:Out V) (p:PR):Prop:=∃ H',BB H' p.2∧Chg H H'∧R=.ok (match p.1 with
 | some n=>.int (n:Int)
 | none=>.none) H'
theorem rD{H:Hp}{T:List TK}{mk j:Nat}{ts:List Nat}(x:Nm) (B:BB H T) (O:oOk T) (M:MK H mk) (hj:H[j]? = some (.list (iv ts))) (hj14:14≤j) (ht:∀ t∈ts,t < T.length) (h1T:1 < T.length) (hts:ts.length≤10) (hl:T.length≤800):
  Tol H (dw [.ref mk,.str (CW x.s),.ref j] H) (c9 T x ts):=by
 refine byC fun kq=>?_
 obtain⟨H',B',c',e'⟩:=qk x B O M hj hj14 ht h1T hts hl
 obtain⟨fs,m1,m2,m3,m4⟩:=M.ex
 refine kq ?_;try clear kq
 have m4:=iR m4
 refine⟨H',B',c',?_⟩
 delta dw mE
 cases hq:(c9 T x ts).1 with
 | none=>
  rw[hq]at e'
  clear B' c' B O M hj ht hl hts h1T hj14 m2 m3
  refine cq [(CW "maker",.ref mk),(CW "name",.str (CW x.s)),(CW "given",.ref j)] ⟨rfl,rfl⟩ (az (CD (bD (u2 (cy (i:=mk) (H1:=H) ?_ m1 m4 ?_ e'))) e_c) bO)<;>(repeat' with_reducible (first|exact aA|apply aj|apply ah|exact au|(apply aK;kernel_rfl)))
 | some n=>
  rw[hq]at e'
  clear B' c' B O M hj ht hl hts h1T hj14 m2 m3
  apply cq [(CW "maker",.ref mk),(CW "name",.str (CW x.s)),(CW "given",.ref j)] ⟨rfl,rfl⟩
  (repeat' with_reducible (first|exact aA|apply aj|apply ah|apply az|apply b9|apply CU|apply aW|exact bO|assumption|exact au|(apply aK;kernel_rfl)))

inductive W where
 | b (x:Bool)|i (x:Int)
noncomputable def W.v:W→V
 | .b x=>.bool x
 | .i x=>.int x
noncomputable def W.d:W→PyData
 | .b x=>.bool x
 | .i x=>.int x
noncomputable def eqW(x y:W):Bool:=PyData.eqv x.d y.d
theorem oi{H:Hp}{n:Nat}(w:W):toD H n w.v=some w.d:=by
 cases w with
 | b x=>exact xY
 | i x=>exact jl
theorem Br{H:Hp}{n:Nat}(ws:List W):lI (toD H n) (ws.map W.v)=some (ws.map W.d):=by
 induction ws with
 | nil=>rfl
 | cons w r ih=>rw[List.map_cons,pD,oi,ih];rfl
theorem tP{H:Hp}(x y:W):oEq x.v y.v H=.ok (.bool (eqW x y)) H:=by unfold oEq;rw[oi,oi];rfl
theorem Au{H:Hp}(x y:W):oNe x.v y.v H=.ok (.bool !(eqW x y)) H:=by unfold oNe;rw[oi,oi];rfl
theorem An{H:Hp}(x:W) (ws:List W):inD H x.v (ws.map W.v)=some (ws.any fun y=>eqW y x):=by
 unfold inD
 rw[oi,Br]
 dsimp only
 rw[List.any_map];rfl
theorem As{H:Hp}{i:Nat}{ws:List W}(x:W) (h:H[i]? = some (.list (ws.map W.v))):oIn x.v (.ref i) H=.ok (.bool (ws.any fun y=>eqW y x)) H:=by unfold oIn;rw[jj h,bP,An,bP]
theorem qN{H:Hp}{i:Nat}{ws:List W}(x:W) (h:H[i]? = some (.list (ws.map W.v))):iU x.v (.ref i) H=.ok (.bool !(ws.any fun y=>eqW y x)) H:=by unfold iU;rw[jj h,bP,An,bP]
noncomputable def fE(t:List W→W→Bool):List W→List W→Nat
 | _,[]=>0
 | pre,v::r=>(if t pre v then 1 else 0) + fE t (pre++[v]) r
theorem mW(n:Nat):eu 0 n=iv (List.range' 0 n):=by
 unfold eu
 rw[List.range_eq_range']
 exact List.map_congr_left fun i _=>by rw[Int.zero_add]
theorem qf{m0:Fm}{t:List W→W→Bool}{c1:FE}{H0:Hp}{i s:Nat}{vs:List W}(hi:H0.length≤i) (hs:H0[s]? = some (.list (vs.map W.v)))
  (hc:∀ {pre r:List W}{v:W}{m:Fm}{H:Hp},vs=pre++v::r→Ext H0 H→m.lookup (CW "k")=some (.int (pre.length:Int))→(∀ x:String,x ≠ "k"→m.lookup (CW x)=m0.lookup (CW x))→∃ H1,c1 m H=.ok (.bool (t pre v)) H1∧Ext H H1) (r:List W):∀ {pre:List W}{m:Fm}{H:Hp}{acc:List Nat},
  vs=pre++r→(∀ x:String,x ≠ "k"→m.lookup (CW x)=m0.lookup (CW x))→Ext H0 H→H[i]? = some (.list (iv acc))→acc.length + r.length≤1000→
  ∃ H' L,bN (fun _=>True) (cz (CW "k")) c1 (ae (CW "k")) i (iv (List.range' pre.length r.length)) m H=.ok () H'∧Ext H0 H'∧H'[i]? = some (.list (iv (acc++L)))∧L.length=fE t pre r:=by
 induction r with
 | nil=>exact fun {pre m H acc} _ _ e h _=>⟨H,[],fu (G:=fun _=>True) trivial,e,by rw[List.append_nil];exact h,rfl⟩
 | cons v r ih=>
  intro pre m H acc hv hm e h hl
  have hm':∀ x:String,x ≠ "k"→((CW "k",V.int (pre.length:Int))::m).lookup (CW x)=m0.lookup (CW x):=fun x hx=>(ak hx).trans (hm x hx)
  refine byC fun kq=>?_
  obtain⟨H1,e1,x1⟩:=hc (m:=(CW "k",.int (pre.length:Int))::m) hv e au hm'
  refine kq ?_;try clear kq
  have vn:cz (CW "k") (.int (pre.length:Int)) m=some ((CW "k",.int (pre.length:Int))::m):=rfl
  have hr:List.range' pre.length (v::r).length=pre.length::List.range' (pre++[v]).length r.length:=by rw[C1];rfl
  rw[hr,show iv (pre.length::List.range' (pre++[v]).length r.length)=V.int (pre.length:Int)::iv (List.range' (pre++[v]).length r.length) from rfl]
  unfold fE
  have hv':vs=(pre++[v])++r:=by rw[List.append_assoc];exact hv
  cases ht:t pre v with
  | false=>
   rw[ht]at e1
   refine byC fun kq=>?_
   obtain⟨H',L,e',x',h',l'⟩:=ih (pre:=pre++[v]) (m:=(CW "k",.int (pre.length:Int))::m) hv' hm' (e.trans x1) (x1.get h) (CX (Da (Nat.le_succ _) _) hl)
   refine kq ?_;try clear kq
   exact⟨H',L,(BW (G:=fun _=>True) trivial vn e1).trans e',x',h',l'.trans (Nat.zero_add _).symm⟩
  | true=>
   rw[ht]at e1
   have hal:acc.length < 1000000:=Dc (CX (C9 _ _) hl) (by decide)
   have hm2:iv acc++[V.int (pre.length:Int)]=iv (acc++[pre.length]):=by show _=List.map _ (acc++[pre.length]);rw[De];rfl
   refine byC fun kq=>?_
   obtain⟨H',L,e',x',h',l'⟩:=ih (pre:=pre++[v]) (m:=(CW "k",.int (pre.length:Int))::m) (H:=H1.set i (.list (iv (acc++[pre.length])))) (acc:=acc++[pre.length]) hv' hm' ((e.trans x1).set hi _) (be (x1.get h)) (by rw[C1];exact CX (Nat.le_of_eq (by rw[Dh];show acc.length + (1 + r.length)=acc.length + (r.length + 1);rw[Nat.add_comm 1])) hl)
   refine kq ?_;try clear kq
   refine⟨H',pre.length::L,?_,x',by rw[h',List.append_assoc];rfl,by rw[Df,l',Nat.add_comm];rfl⟩
   rw[kB (G:=fun _=>True) trivial vn e1 (ah au) (x1.get h) (by rw[aY];exact hal),hm2]
   exact e'

noncomputable def opW(o:Str) (vs:List W):Option W:=
 if o=CW "ite" then(match vs with|[.b c,u,v]=>some (cond c u v)|_=>none)
 else if o=CW "not" then(match vs with|[.b c]=>some (.b !c)|_=>none)
 else if o=CW "and" then some (.b !(vs.any fun y=>eqW y (.b false)))
 else if o=CW "or" then some (.b (vs.any fun y=>eqW y (.b true)))
 else if o=CW "=>" then(match vs with|[.b a,.b c]=>some (.b (c || !a))|_=>none)
 else if o=CW "=" then(match vs with|[u,v]=>some (.b (eqW u v))|_=>none)
 else if o=CW "xor" then(match vs with|[u,v]=>some (.b (eqW (.b (eqW u v)) (.b false)))|_=>none)
 else if o=CW "distinct" then some (.b (fE (fun pre v=>pre.any fun y=>eqW y v) [] vs == 0))
 else none
noncomputable def eT(f:Nat→Option W):List Int→Option (List W)
 | []=>some []
 | i::r=>match f i.toNat,eT f r with
  | some v,some vs=>some (v::vs)
  | _,_=>none
noncomputable def cJ:Nat→List TK→(Nat→Option W)→Nat→Option W
 | 0=>fun _ _ _=>none
 | n + 1=>fun T w t=>match T[t]? with
  | none=>none
  | some k=>if k.1=CW "true" then some (.b true)else if k.1=CW "false" then some (.b false)else if k.1=CW "app" then w t else(match eT (cJ n T w) k.2.1 with
   | some vs=>opW k.1 vs
   | none=>none)
noncomputable def du(S:FS) (m:Fm) (H:Hp) (v:V):Prop:=∃ m' H',S m H=.ok (.ret v) m' H'∧Ext H H'
theorem kN{A B:FS}{m m1:Fm}{H H1:Hp}{v:V}(h:A m H=.ok .next m1 H1) (x:Ext H H1) (q:du B m1 H1 v):du (am A B) m H v:=let ⟨m',H',e,y⟩:=q;⟨m',H',az h (aE e),x.trans y⟩
theorem gE{A B:FS}{m:Fm}{H:Hp}{v:V}(q:du A m H v):du (am A B) m H v:=let ⟨m',H',e,y⟩:=q;⟨m',H',az e bO,y⟩
theorem Aw{t:FE}{a b:FS}{m:Fm}{H H1:Hp}{v:V}(h:t m H=.ok (.bool true) H1) (x:Ext H H1) (q:du a m H1 v):du (fIf t a b) m H v:=let ⟨m',H',e,y⟩:=q;⟨m',H',b4 h (c_t e),x.trans y⟩
theorem kM{f:FE}{m:Fm}{H H1:Hp}{v:V}(h:f m H=.ok v H1) (x:Ext H H1):du (a6 f) m H v:=⟨m,H1,b9 h,x⟩
theorem fx{A B:FS}{m:Fm}{H:Hp}{v:V}(h:A m H=.ok .next m H) (q:du B m H v):du (am A B) m H v:=kN h (.refl H) q
theorem cL{t:FE}{b:FS}{B:FS}{m:Fm}{H:Hp}{f:FE}{H1:Hp}{v:V}(h:t m H=.ok (.bool true) H) (e:f m H=.ok v H1) (x:Ext H H1):du (am (fIf t (am (a6 f) av) b) B) m H v:=gE (Aw h (.refl H) (gE (kM e x)))
theorem sL{ps:List Str}{f:FS}{vs:List V}{H:Hp}{v:V}(fr:Fm) (hl:vs.length=ps.length∧ps.zip vs=fr) (q:du f fr H v):∃ H',ci ps f vs H=.ok v H'∧Ext H H':=let ⟨m',H',e,y⟩:=q;⟨H',cq fr hl e,y⟩
theorem wJ{i:Nat}{k:Int}{H:Hp}{kvs:List (Int × V)}{v:V}(h:H[i]? = some (.dictI kvs)) (g:dI kvs k=some v):cm (.ref i) (.int k) H=.ok v H:=by
 unfold cm;dsimp only;rw[h];show onO (dI kvs k) _ _=_;rw[g];rfl
theorem tq{H:Hp}{i n:Nat}{vs:List W}{v:W}(h:H[i]? = some (.list (vs.map W.v))) (hn:vs[n]? = some v) (hl:vs.length≤1000):cm (.ref i) (.int (n:Int)) H=.ok v.v H:=
 cO h (by rw[C4];exact CX hl (by decide)) (Dj _) (by rw[C4];exact Int.ofNat_lt.mpr (List.getElem?_eq_some_iff.mp hn).1) (by rw[Di,List.getElem?_map,hn];rfl)
theorem uV{n wd i:Nat}{T:List TK}{kvs:List (Int × V)}{w:Nat→Option W}{H0:Hp}(hi:H0.length≤i) (B:BB H0 T) (hw:H0[wd]? = some (.dictI kvs)) (hi14:14≤i)
  (ih:∀ {t:Nat}{v:W}{H:Hp},BB H T→H[wd]? = some (.dictI kvs)→cJ n T w t=some v→∃ H',cf n [.ref 3,.int t,.ref wd] H=.ok v.v H'∧Ext H H') (ks:List Int) (hk:∀ k∈ks,∃ u:Nat,k=u):
  ∀ {H:Hp}{m:Fm}{acc vs:List W},Ext H0 H→H[i]? = some (.list (acc.map W.v))→eT (cJ n T w) ks=some vs→m.lookup (CW "bank")=some (.ref 3)→m.lookup (CW "world")=some (.ref wd)→acc.length + ks.length≤1000→
  ∃ H',bN (fun _=>True) (cz (CW "part")) (fC (.bool true)) (eh (cf n)) i (ks.map .int) m H=.ok () H'∧Ext H0 H'∧H'[i]? = some (.list ((acc++vs).map W.v)):=by
 induction ks with
 | nil=>intro H m acc vs e h hv _ _ _;cases hv;exact⟨H,fu (G:=fun _=>True) trivial,e,by rw[List.append_nil];exact h⟩
 | cons k r ihk=>
  intro H m acc vs e h hv m1 m2 hl
  unfold eT at hv
  refine byC fun kq=>?_
  obtain⟨u,rfl⟩:=hk k (CY ..)
  refine kq ?_;try clear kq
  rw[Di]at hv
  cases q:cJ n T w u with
  | none=>rw[q]at hv;cases hv
  | some v=>
   cases q2:eT (cJ n T w) r with
   | none=>rw[q,q2]at hv;cases hv
   | some vs'=>
    rw[q,q2]at hv
    cases hv
    refine byC fun kq=>?_
    obtain⟨H1,e1,x1⟩:=ih (B.ext e) (e.get hw) q
    have hal:acc.length < 1000000:=Dc (CX (C9 _ _) hl) (by decide)
    have hm2:acc.map W.v++[v.v]=(acc++[v]).map W.v:=by rw[De];rfl
    obtain⟨H',e',x',h'⟩:=ihk (fun z hz=>hk z (CZ _ hz)) (H:=H1.set i (.list ((acc++[v]).map W.v))) (m:=(CW "part",.int (u:Int))::m) (acc:=acc++[v]) ((e.trans x1).set hi _) (be (x1.get h)) q2 ((ak (by decide)).trans m1) ((ak (by decide)).trans m2)
     (by rw[C1];exact CX (Nat.le_of_eq (by rw[Dh];show acc.length + (1 + r.length)=acc.length + (r.length + 1);rw[Nat.add_comm 1])) hl)
    refine kq ?_;try clear kq
    refine⟨H',?_,x',by rw[h',List.append_assoc];rfl⟩
    have st:eh (cf n) ((CW "part",.int (u:Int))::m) H=.ok v.v H1:=by
     clear e' h' x' hm2 hal x1 q q2 ih ihk hk hl e h B hw
     delta eh
     (repeat' with_reducible (first|exact aA|apply aj|apply ah|apply aV|assumption|exact au|(apply aK;kernel_rfl)))
    rw[List.map_cons,kB (G:=fun _=>True) (m1:=(CW "part",.int (u:Int))::m) trivial rfl e_c st (x1.get h) (by rw[C4];exact hal),hm2]
    exact e'

noncomputable def aOk(T:List TK):Prop:=∀ k∈T,(∀ i∈k.2.1,∃ u:Nat,i=u)∧k.2.1.length≤100
theorem uE{f:Nat→Option W}(ks:List Int):∀ {vs},eT f ks=some vs→vs.length=ks.length:=by
 induction ks with
 | nil=>intro vs e;cases e;rfl
 | cons k r ih=>
  intro vs e
  unfold eT at e
  cases q:f k.toNat with
  | none=>rw[q]at e;cases e
  | some v=>
   cases q2:eT f r with
   | none=>rw[q,q2]at e;cases e
   | some vs'=>rw[q,q2]at e;cases e;rw[Df,Df,ih q2]
theorem ub{H:Hp}{n:Nat}(L:List Nat):lI (toD H n) (iv L)=some (L.map fun(i:Nat)=>PyData.int i):=by
 induction L with
 | nil=>rfl
 | cons x r ih=>show lI _ (V.int (x:Int)::iv r)=_;rw[pD,jl,ih];rfl
theorem qK{H:Hp}{i j:Nat}{L:List Nat}(h:H[i]? = some (.list (iv L))) (h0:H[j]? = some (.list [])):oEq (.ref i) (.ref j) H=.ok (.bool (L.length == 0)) H:=by
 unfold oEq
 rw[kj h,kj h0,ub]
 cases L<;>rfl
theorem qc{neg:Bool}{F:V→V→Hp→Out V}{nm:String}{H0:Hp}{s:Nat}{vs:List W}(hn:nm ≠ "k") (hs:H0[s]? = some (.list (vs.map W.v))) (hvl:vs.length≤1000)
  (hF:∀ {H:Hp}{i:Nat}{ws:List W}(x:W),H[i]? = some (.list (ws.map W.v))→F x.v (.ref i) H=.ok (.bool (xor neg (ws.any fun y=>eqW y x))) H) {m0:Fm}(h0:m0.lookup (CW nm)=some (.ref s)):
  ∀ {pre r:List W}{v:W}{m:Fm}{H:Hp},vs=pre++v::r→Ext H0 H→m.lookup (CW "k")=some (.int (pre.length:Int))→(∀ x:String,x ≠ "k"→m.lookup (CW x)=m0.lookup (CW x))→
  ∃ H1,aD F (ba (ae (CW nm)) (ae (CW "k"))) (cN (ae (CW nm)) (fC .none) (ae (CW "k")) (fC .none)) m H=.ok (.bool (xor neg (pre.any fun y=>eqW y v))) H1∧Ext H H1:=by
 intro pre r v m H hv e hk hm
 have ls:m.lookup (CW nm)=some (.ref s):=(hm nm hn).trans h0
 have hsH:=e.get hs
 have hvv:vs[pre.length]? = some v:=by rw[hv,List.getElem?_append_right (Nat.le_refl _),Nat.sub_self];rfl
 have hpl:pre.length≤(vs.map W.v).length:=by rw[C4,hv,C1];exact C9 _ _
 have hml:(vs.map W.v).length≤1000000:=by rw[C4];exact CX hvl (by decide)
 have tk:(vs.map W.v).take pre.length=pre.map W.v:=by rw[← List.map_take,hv,List.take_left]
 refine byC fun kq=>?_
 obtain⟨H1,sm,cu,x1,g1⟩:=h7 (ys:=pre.map W.v) hsH hml (by rw[← tk];exact CX (List.length_take_le' ..) hml) ((nd (a:=.none) (b:=.int (pre.length:Int)) hsH rfl rfl).trans (by rw[Bu hpl,tk]))
 refine kq ?_;try clear kq
 exact⟨H1,aF (bw (ah ls) (ah hk) (tq hsH hvv hvl)) (gX (ah ls) e_c (ah hk) e_c sm cu) (hF v g1),x1⟩
noncomputable abbrev eqO(y:String):FE:=aD oEq (ae (CW "op")) (fC (.str (CW y)))
theorem eF{m:Fm}{H:Hp}{x:String}(lo:m.lookup (CW "op")=some (.str (CW x))) (y:String):eqO y m H=.ok (.bool (x == y)) H:=aF (ah lo) e_c fO
theorem iQ{m:Fm}{H:Hp}{x:String}{g:Fm→Hp→Out (List V)}(lo:m.lookup (CW "op")=some (.str (CW x))) (ys:List String) (hg:g m H=.ok (ys.map fun y=>V.str (CW y)) H) (hy:Nat.ble ys.length 1000000=true):aD oIn (ae (CW "op")) (bM g) m H=.ok (.bool (ys.any fun y=>y == x)) H:=
 aF (ah lo) (cC hg (by rw[C4];exact hy)) (eM ys x)
theorem skE{m:Fm}{H:Hp}{x:String}{b B:FS}{v:V}(lo:m.lookup (CW "op")=some (.str (CW x))) {y:String}(h:(x == y)=false) (q:du B m H v):du (am (fIf (eqO y) b av) B) m H v:=fx (b4 (b:=false) ((eF lo y).trans (by rw[h])) (c_f aR)) q
theorem skI{m:Fm}{H:Hp}{x:String}{b B:FS}{v:V}{g:Fm→Hp→Out (List V)}(lo:m.lookup (CW "op")=some (.str (CW x))) (ys:List String) (h:(ys.any fun y=>y == x)=false) (hg:g m H=.ok (ys.map fun y=>V.str (CW y)) H) (hy:Nat.ble ys.length 1000000=true) (q:du B m H v):du (am (fIf (aD oIn (ae (CW "op")) (bM g)) b av) B) m H v:=
 fx (b4 (b:=false) ((iQ lo ys hg hy).trans (by rw[h])) (c_f aR)) q
theorem e2s{m:Fm}{H:Hp}{a b:String}:ad (fC (.str (CW a))) (ad (fC (.str (CW b))) ao) m H=.ok [.str (CW a),.str (CW b)] H:=aj e_c (aj e_c aA)
theorem e3s{m:Fm}{H:Hp}{a b c:String}:ad (fC (.str (CW a))) (ad (fC (.str (CW b))) (ad (fC (.str (CW c))) ao)) m H=.ok [.str (CW a),.str (CW b),.str (CW c)] H:=aj e_c (aj e_c (aj e_c aA))
noncomputable abbrev sm(i:Int):FE:=ba (ae (CW "some")) (fC (.int i))
noncomputable abbrev wS5:FS:=fIf (eqO "ite") (am (a6 (dK (sm 0) (sm 1) (sm 2))) av) av
noncomputable abbrev wS6:FS:=fIf (aD oIn (ae (CW "op")) (bM (ad (fC (.str (CW "not"))) (ad (fC (.str (CW "and"))) (ad (fC (.str (CW "or"))) ao))))) (am (a6 (dK (eqO "not") (jB (sm 0)) (dK (eqO "and") (aD iU (fC (.bool false)) (ae (CW "some"))) (aD oIn (fC (.bool true)) (ae (CW "some")))))) av) av
noncomputable abbrev wS7:FS:=fIf (eqO "=>") (am (a6 (fOr (sm 1) (jB (sm 0)))) av) av
noncomputable abbrev wS8:FS:=fIf (aD oIn (ae (CW "op")) (bM (ad (fC (.str (CW "="))) (ad (fC (.str (CW "xor"))) ao)))) (am (a6 (aD oEq (aD oEq (sm 0) (sm 1)) (eqO "="))) av) av
structure SmL (m:Fm) (H:Hp) (j:Nat) (vs:List W) (x:String):Prop where
 lo:m.lookup (CW "op")=some (.str (CW x))
 ls:m.lookup (CW "some")=some (.ref j)
 g:H[j]? = some (.list (vs.map W.v))
 hl:vs.length≤100
theorem SmL.it{m:Fm}{H:Hp}{j:Nat}{vs:List W}{x:String}(s:SmL m H j vs x) (i:Nat) {u:W}(hu:vs[i]? = some u):sm (i:Int) m H=.ok u.v H:=bw (ah s.ls) e_c (tq s.g hu (CX s.hl (by decide)))
theorem By{m:Fm}{H:Hp}{j:Nat}{c:Bool}{a b:W}{B:FS}(s:SmL m H j [.b c,a,b] "ite"):du (am wS5 B) m H (cond c a b).v:=
 cL (eF s.lo "ite") (bW (b:=c) (s.it 0 rfl) (by cases c with|true=>exact s.it 1 rfl|false=>exact s.it 2 rfl)) (.refl H)
theorem Bz{m:Fm}{H:Hp}{j:Nat}{c:Bool}{B:FS}(s:SmL m H j [.b c] "not"):du (am wS5 (am wS6 B)) m H (.bool !c):=
 skE s.lo rfl (cL (iQ s.lo ["not","and","or"] e3s rfl) (bW (eF s.lo "not") (c_t (wt (s.it 0 rfl)))) (.refl H))
theorem Bw{m:Fm}{H:Hp}{j:Nat}{vs:List W}{B:FS}(s:SmL m H j vs "and"):du (am wS5 (am wS6 B)) m H (.bool !(vs.any fun y=>eqW y (.b false))):=
 skE s.lo rfl (cL (iQ s.lo ["not","and","or"] e3s rfl) (bW (eF s.lo "not") (c_f (bW (eF s.lo "and") (c_t (aF e_c (ah s.ls) (qN (.b false) s.g)))))) (.refl H))
theorem CJ{m:Fm}{H:Hp}{j:Nat}{vs:List W}{B:FS}(s:SmL m H j vs "or"):du (am wS5 (am wS6 B)) m H (.bool (vs.any fun y=>eqW y (.b true))):=
 skE s.lo rfl (cL (iQ s.lo ["not","and","or"] e3s rfl) (bW (eF s.lo "not") (c_f (bW (eF s.lo "and") (c_f (aF e_c (ah s.ls) (As (.b true) s.g)))))) (.refl H))
theorem Bx{m:Fm}{H:Hp}{j:Nat}{a c:Bool}{B:FS}(s:SmL m H j [.b a,.b c] "=>"):du (am wS5 (am wS6 (am wS7 B))) m H (.bool (c || !a)):=
 skE s.lo rfl (skI s.lo ["not","and","or"] rfl e3s rfl (cL (eF s.lo "=>") (qp (s.it 1 rfl) (wt (s.it 0 rfl))) (.refl H)))
theorem CI{m:Fm}{H:Hp}{j:Nat}{a b:W}{B:FS}(s:SmL m H j [a,b] "="):du (am wS5 (am wS6 (am wS7 (am wS8 B)))) m H (.bool (eqW a b)):=
 skE s.lo rfl (skI s.lo ["not","and","or"] rfl e3s rfl (skE s.lo rfl (cL (iQ s.lo ["=","xor"] e2s rfl) (aF (aF (s.it 0 rfl) (s.it 1 rfl) (tP a b)) (eF s.lo "=") ((tP (.b (eqW a b)) (.b true)).trans (by
  show Out.ok (V.bool (eqW a b == true)) H=_
  rw[beq_true]))) (.refl H))))
theorem BA{m:Fm}{H:Hp}{j:Nat}{a b:W}{B:FS}(s:SmL m H j [a,b] "xor"):du (am wS5 (am wS6 (am wS7 (am wS8 B)))) m H (.bool (eqW (.b (eqW a b)) (.b false))):=
 skE s.lo rfl (skI s.lo ["not","and","or"] rfl e3s rfl (skE s.lo rfl (cL (iQ s.lo ["=","xor"] e2s rfl) (aF (aF (s.it 0 rfl) (s.it 1 rfl) (tP a b)) (eF s.lo "=") (tP (.b (eqW a b)) (.b false))) (.refl H))))
theorem zW{m:Fm}{H:Hp}{j:Nat}{vs:List W}{c1 e2:FE}(s:SmL m H j vs "distinct") (hc:c1=aD oIn (ba (ae (CW "some")) (ae (CW "k"))) (cN (ae (CW "some")) (fC .none) (ae (CW "k")) (fC .none))) (he:e2=ae (CW "k")) (flt:(m.filter fun p=>[CW "some"].contains p.1)=[(CW "some",V.ref j)]):
  du (am wS5 (am wS6 (am wS7 (am wS8 (am (a6 (aD oEq (b7 [CW "some"] (df (ad (aG bL (ad (ae (CW "some")) ao)) ao)) (cz (CW "k")) c1 e2) (b8 ao))) av))))) m H (.bool (fE (fun pre v=>pre.any fun y=>eqW y v) [] vs == 0)):=by
 have bl:=bj s.g (by rw[C4];exact Dc s.hl (by decide))
 rw[C4]at bl
 have x2:Ext H (H++[AObj.list []]):=.app _ _
 have h0:([(CW "some",V.ref j)]:Fm).lookup (CW "some")=some (.ref j):=au
 have body:∀ {pre r:List W}{v:W}{m':Fm}{H1:Hp},vs=pre++v::r→Ext H H1→m'.lookup (CW "k")=some (.int (pre.length:Int))→(∀ x:String,x ≠ "k"→m'.lookup (CW x)=([(CW "some",V.ref j)]:Fm).lookup (CW x))→∃ H2,c1 m' H1=.ok (.bool (pre.any fun y=>eqW y v)) H2∧Ext H1 H2:=fun a b c d=>by
  have:=qc (neg:=false) (F:=oIn) (nm:="some") (by decide) s.g (CX s.hl (by decide)) (fun x h=>by rw[As x h,Bool.false_xor]) h0 a b c d
  rw[Bool.false_xor]at this
  rw[hc];exact this
 refine byC fun kq=>?_
 obtain⟨H2,L,e2',x3,g2,l2⟩:=qf (t:=fun pre v=>pre.any fun y=>eqW y v) (i:=H.length) (s:=j) (vs:=vs) (Nat.le_refl _) s.g body vs (pre:=[]) (m:=[(CW "some",.ref j)]) (H:=H++[AObj.list []]) (acc:=[]) rfl (fun _ _=>rfl) x2 (bc _ _ _) (CX (Nat.le_of_eq (Nat.zero_add _)) (CX s.hl (by decide)))
 obtain⟨H3,n3',x4,g4⟩:=gv (xs:=[]) H2 (Nat.zero_le _)
 refine kq ?_;try clear kq
 have rg:=nM (g:=ad (aG bL (ad (ae (CW "some")) ao)) ao) (m:=m) (H:=H) (aj (aV (aj (ah s.ls) aA) bl) aA) (jd ⟨Int.le_trans (by decide) (Dj _),Int.le_trans (Int.ofNat_le.mpr s.hl) (by decide)⟩)
 rw[Di,mW]at rg
 have eqn:=qK (x4.get g2) g4
 have l2':L.length=fE (fun pre v=>pre.any fun y=>eqW y v) [] vs:=l2
 rw[List.nil_append,l2']at eqn
 rw[← he]at e2'
 exact skE s.lo rfl (skI s.lo ["not","and","or"] rfl e3s rfl (skE s.lo rfl (skI s.lo ["=","xor"] rfl e2s rfl (gE (kM (aF (fG rg flt e2') (eE aA n3') eqn) (x3.trans x4))))))
theorem AY{vs:List W}{F:Bool→W→W→W}{v:W}(h:(match vs with|[.b c,u,w]=>some (F c u w)|_=>none)=some v):∃ c u w,vs=[.b c,u,w]∧v=F c u w:=by
 cases vs with
 | nil=>cases h
 | cons x r=>
  cases x with
  | i z=>cases r<;>cases h
  | b c=>
   cases r with
   | nil=>cases h
   | cons u r=>
    cases r with
    | nil=>cases h
    | cons w r=>
     cases r with
     | nil=>exact⟨c,u,w,rfl,(Option.some.inj h).symm⟩
     | cons _ _=>cases h
theorem AX{vs:List W}{F:Bool→W}{v:W}(h:(match vs with|[.b c]=>some (F c)|_=>none)=some v):∃ c,vs=[.b c]∧v=F c:=by
 cases vs with
 | nil=>cases h
 | cons x r=>
  cases x with
  | i z=>cases r<;>cases h
  | b c=>
   cases r with
   | nil=>exact⟨c,rfl,(Option.some.inj h).symm⟩
   | cons _ _=>cases h
theorem wO{vs:List W}{F:W→W→W}{v:W}(h:(match vs with|[u,w]=>some (F u w)|_=>none)=some v):∃ u w,vs=[u,w]∧v=F u w:=by
 cases vs with
 | nil=>cases h
 | cons x r=>
  cases r with
  | nil=>cases h
  | cons u r=>
   cases r with
   | nil=>exact⟨x,u,rfl,(Option.some.inj h).symm⟩
   | cons _ _=>cases h
theorem zb{vs:List W}{F:Bool→Bool→W}{v:W}(h:(match vs with|[.b a,.b c]=>some (F a c)|_=>none)=some v):∃ a c,vs=[.b a,.b c]∧v=F a c:=by
 cases vs with
 | nil=>cases h
 | cons x r=>
  cases x with
  | i z=>cases r with
   | nil=>cases h
   | cons y r=>cases r<;>cases h
  | b c=>
   cases r with
   | nil=>cases h
   | cons u r=>
    cases u with
    | i z=>cases r<;>cases h
    | b a=>
     cases r with
     | nil=>exact⟨c,a,rfl,(Option.some.inj h).symm⟩
     | cons _ _=>cases h
theorem zo{m:Fm}{H:Hp}{j:Nat}{vs:List W}{x:String}{v:W}{c1 e2:FE}(s:SmL m H j vs x) (h:opW (CW x) vs=some v) (hc:c1=aD oIn (ba (ae (CW "some")) (ae (CW "k"))) (cN (ae (CW "some")) (fC .none) (ae (CW "k")) (fC .none))) (he:e2=ae (CW "k")) (flt:(m.filter fun p=>[CW "some"].contains p.1)=[(CW "some",V.ref j)]):
  du (am wS5 (am wS6 (am wS7 (am wS8 (am (a6 (aD oEq (b7 [CW "some"] (df (ad (aG bL (ad (ae (CW "some")) ao)) ao)) (cz (CW "k")) c1 e2) (b8 ao))) av))))) m H v.v:=by
 unfold opW at h
 by_cases c1:x="ite"
 ·rw[if_pos (congrArg _ c1)]at h;obtain⟨c,a,b,e1,e2⟩:=AY h;rw[c1,e1]at s;rw[e2];exact By s
 rw[if_neg (fun z=>c1 (cS z))]at h
 by_cases c2:x="not"
 ·rw[if_pos (congrArg _ c2)]at h;obtain⟨c,e1,e2⟩:=AX h;rw[c2,e1]at s;rw[e2];exact Bz s
 rw[if_neg (fun z=>c2 (cS z))]at h
 by_cases c3:x="and"
 ·rw[if_pos (congrArg _ c3)]at h;rw[c3]at s;rw[← Option.some.inj h];exact Bw s
 rw[if_neg (fun z=>c3 (cS z))]at h
 by_cases c4:x="or"
 ·rw[if_pos (congrArg _ c4)]at h;rw[c4]at s;rw[← Option.some.inj h];exact CJ s
 rw[if_neg (fun z=>c4 (cS z))]at h
 by_cases c5:x="=>"
 ·rw[if_pos (congrArg _ c5)]at h;obtain⟨c,a,e1,e2⟩:=zb h;rw[c5,e1]at s;rw[e2];exact Bx s
 rw[if_neg (fun z=>c5 (cS z))]at h
 by_cases c6:x="="
 ·rw[if_pos (congrArg _ c6)]at h;obtain⟨c,a,e1,e2⟩:=wO h;rw[c6,e1]at s;rw[e2];exact CI s
 rw[if_neg (fun z=>c6 (cS z))]at h
 by_cases c7:x="xor"
 ·rw[if_pos (congrArg _ c7)]at h;obtain⟨c,a,e1,e2⟩:=wO h;rw[c7,e1]at s;rw[e2];exact BA s
 rw[if_neg (fun z=>c7 (cS z))]at h
 by_cases c8:x="distinct"
 ·rw[if_pos (congrArg _ c8)]at h;rw[c8]at s;rw[← Option.some.inj h];exact zW s hc he flt
 rw[if_neg (fun z=>c8 (cS z))]at h
 cases h
inductive EvT (n:Nat) (T:List TK) (w:Nat→Option W) (t:Nat) (v:W) (k:TK):Prop where
 | tru (e:k.1=CW "true") (hv:v=.b true):EvT n T w t v k
 | fls (e1:k.1 ≠ CW "true") (e:k.1=CW "false") (hv:v=.b false):EvT n T w t v k
 | app (e1:k.1 ≠ CW "true") (e2:k.1 ≠ CW "false") (e:k.1=CW "app") (hv:w t=some v):EvT n T w t v k
 | op (e1:k.1 ≠ CW "true") (e2:k.1 ≠ CW "false") (e3:k.1 ≠ CW "app") (vs:List W) (hs:eT (cJ n T w) k.2.1=some vs) (ho:opW k.1 vs=some v):EvT n T w t v k
theorem jb{n t:Nat}{T:List TK}{w:Nat→Option W}{v:W}(h:cJ (n + 1) T w t=some v):∃ k,T[t]? = some k∧EvT n T w t v k:=by
 unfold cJ at h
 cases hk:T[t]? with
 | none=>rw[hk]at h;cases h
 | some k=>
  rw[hk]at h
  refine⟨k,rfl,?_⟩
  dsimp only at h
  by_cases h1:k.1=CW "true"
  ·rw[if_pos h1]at h;exact .tru h1 (Option.some.inj h).symm
  rw[if_neg h1]at h
  by_cases h2:k.1=CW "false"
  ·rw[if_pos h2]at h;exact .fls h1 h2 (Option.some.inj h).symm
  rw[if_neg h2]at h
  by_cases h3:k.1=CW "app"
  ·rw[if_pos h3]at h;exact .app h1 h2 h3 h
  rw[if_neg h3]at h
  cases hv:eT (cJ n T w) k.2.1 with
  | none=>rw[hv]at h;cases h
  | some vs=>rw[hv]at h;exact .op h1 h2 h3 vs hv h
theorem EvT.run{n t:Nat}{T:List TK}{w:Nat→Option W}{v:W}{k:TK}(h:EvT n T w t v k) (hk:T[t]? = some k):cJ (n + 1) T w t=some v:=by
 unfold cJ
 rw[hk]
 dsimp only
 cases h with
 | tru e hv=>rw[if_pos e,hv]
 | fls e1 e hv=>rw[if_neg e1,if_pos e,hv]
 | app e1 e2 e hv=>rw[if_neg e1,if_neg e2,if_pos e,hv]
 | op e1 e2 e3 vs hs ho=>rw[if_neg e1,if_neg e2,if_neg e3,hs];exact ho
theorem ng{wd:Nat}{T:List TK}{kvs:List (Int × V)}{w:Nat→Option W}(O:oOk T) (A:aOk T) (hl:T.length≤1000) (hwv:∀ (t:Nat) v,w t=some v→dI kvs (t:Int)=some v.v) (n:Nat):
  ∀ {t:Nat}{v:W}{H:Hp},BB H T→H[wd]? = some (.dictI kvs)→cJ n T w t=some v→∃ H',cf n [.ref 3,.int t,.ref wd] H=.ok v.v H'∧Ext H H':=by
 induction n with
 | zero=>intro t v H _ _ h;cases h
 | succ n ih=>
  intro t v H B hw h
  have h14:14≤H.length:=bq B.bk.nums
  refine byC fun kq=>?_
  obtain⟨k,hk,hc⟩:=jb h
  have hkT:=List.mem_of_getElem? hk
  obtain⟨⟨x,hx⟩,_⟩:=O k hkT
  obtain⟨ha,hal⟩:=A k hkT
  refine kq ?_;try clear kq
  have X0:=B.bk.bank
  have op:=Cy B.bk hk hl
  have ar:=yz B.bk hk hl
  rw[hx]at op
  let fr0:Fm:=[(CW "bank",.ref 3),(CW "t",.int t),(CW "world",.ref wd)]
  let fr1:Fm:=(CW "op",.str (CW x))::fr0
  have lo1:fr1.lookup (CW "op")=some (.str (CW x)):=au
  have lw:fr1.lookup (CW "world")=some (.ref wd):=(ak (by decide)).trans ((ak (by decide)).trans ((ak (by decide)).trans au))
  have lb:fr1.lookup (CW "bank")=some (.ref 3):=(ak (by decide)).trans au
  have lt:fr1.lookup (CW "t")=some (.int t):=(ak (by decide)).trans ((ak (by decide)).trans au)
  show ∃ H',ci _ (f9 (cf n)) _ H=_∧_
  delta f9
  refine sL fr0 ⟨rfl,rfl⟩ (kN (m1:=fr1) (H1:=H) (bY (aW (ah au) X0 (by kernel_rfl) (aj (ah ((ak (by decide)).trans au)) aA) op) bQ) (.refl H) ?_)
  rcases hc with⟨h1,hv⟩|⟨_,h1,hv⟩|⟨_,_,h1,hv⟩|⟨h1,h2,h3,vs,hv,ho⟩
  ·rw[hv]
   exact cL (iQ (hx.symm.trans h1 ▸ lo1) ["true","false"] e2s rfl) (eF (hx.symm.trans h1 ▸ lo1) "true") (.refl H)
  ·rw[hv]
   exact cL (iQ (hx.symm.trans h1 ▸ lo1) ["true","false"] e2s rfl) (eF (hx.symm.trans h1 ▸ lo1) "true") (.refl H)
  ·exact skI (hx.symm.trans h1 ▸ lo1) ["true","false"] rfl e2s rfl (cL (eF (hx.symm.trans h1 ▸ lo1) "app") (bw (ah lw) (ah lt) (wJ hw (hwv t v hv))) (.refl H))
  have n1:(["true","false"].any fun y=>y == x)=false:=by
   show("true" == x || ("false" == x || false))=false
   rw[beq_eq_false_iff_ne.mpr (fun z=>h1 (hx.trans (congrArg _ z.symm))),beq_eq_false_iff_ne.mpr (fun z=>h2 (hx.trans (congrArg _ z.symm)))];rfl
  refine skI lo1 ["true","false"] n1 e2s rfl (skE lo1 (beq_eq_false_iff_ne.mpr fun z=>h3 (hx.trans (congrArg _ z))) ?_)
  have x1:Ext H (H++[AObj.list []]):=.app _ _
  have flt:(fr1.filter fun p=>[CW "bank",CW "world"].contains p.1)=[(CW "bank",V.ref 3),(CW "world",V.ref wd)]:=by kernel_rfl
  refine byC fun kq=>?_
  obtain⟨H',e',x',g'⟩:=uV (H0:=H) (i:=H.length) (wd:=wd) (Nat.le_refl _) B hw h14 ih k.2.1 ha (H:=H++[AObj.list []]) (m:=[(CW "bank",.ref 3),(CW "world",.ref wd)]) (acc:=[]) x1 (bc _ _ _) hv au ((ak (by decide)).trans au) (CX (Nat.le_of_eq (Nat.zero_add _)) (CX hal (by decide)))
  refine kq ?_;try clear kq
  exact kN (m1:=(CW "some",.ref H.length)::fr1) (bY (fG (qB (aW (ah lb) X0 (by kernel_rfl) (aj (ah lt) aA) ar)) flt e') bQ) x' (zo (vs:=vs) ⟨(ak (by decide)).trans lo1,au,g',by rw[uE _ hv];exact hal⟩ (hx ▸ ho) rfl rfl (by kernel_rfl))

theorem Bh{H:Hp}{i:Nat}{o:AObj}(h:H[i]? = some o):H.set i o=H:=by
 apply List.ext_getElem?
 intro j
 by_cases hj:i=j
 ·subst hj;rw[List.getElem?_set_self (bq h),h]
 ·rw[List.getElem?_set_ne hj]
theorem nK{α:Type}{G Good:Hp→Prop}{i:Nat}{c fe:FE}{x:Str}(v:α→V) (p:α→Bool) (g:α→V) (hG:∀ H,Good H→G H) (hset:∀ H ys,Good H→Good (H.set i (.list ys)))
  (hc:∀ a m H,Good H→c ((x,v a)::m) H=.ok (.bool (p a)) H) (l:List α):(∀ a∈l,p a=true→∀ m H,Good H→fe ((x,v a)::m) H=.ok (g a) H)→∀ {m:Fm}{H:Hp}{acc:List V},Good H→H[i]? = some (.list acc)→acc.length + l.length≤1000→
  bN G (cz x) c fe i (l.map v) m H=.ok () (H.set i (.list (acc++(l.filter p).map g))):=by
 induction l with
 | nil=>intro _ m H acc h hi _;rw[List.map_nil,fu (hG H h),List.filter_nil,List.map_nil,List.append_nil,Bh hi]
 | cons a r ih=>
  intro hfe m H acc h hi hl
  have hr:∀ a∈r,p a=true→∀ m H,Good H→fe ((x,v a)::m) H=.ok (g a) H:=fun b hb=>hfe b (CZ _ hb)
  have e:=hc a m H h
  rw[List.map_cons]
  cases q:p a with
  | false=>
   rw[q]at e
   rw[BW (m1:=(x,v a)::m) (hG H h) rfl e,ih hr h hi (CX (Da (Nat.le_succ _) _) hl),List.filter_cons_of_neg (by rw[q];exact Bool.false_ne_true)]
  | true=>
   rw[q]at e
   have hal:acc.length < 1000000:=Dc (CX (C9 _ _) hl) (by decide)
   rw[kB (m1:=(x,v a)::m) (hG H h) rfl e (hfe a (CY ..) q m H h) hi hal,
    ih hr (hset H _ h) (be hi) (by rw[C1];exact CX (Nat.le_of_eq (by rw[Dh];show acc.length + (1 + r.length)=acc.length + (r.length + 1);rw[Nat.add_comm 1])) hl),List.set_set,List.filter_cons_of_pos q,List.map_cons,List.append_assoc]
   rfl
noncomputable def uK:W→Bool
 | .b true=>true
 | _=>false
theorem wI{H:Hp}(w:W):lN w.v (.bool true) H=.ok (.bool (uK w)) H:=by
 cases w with
 | b x=>cases x<;>rfl
 | i x=>rfl
noncomputable def cT(vs:List W):Nat:=(vs.filter uK).length
noncomputable def gP(pre:List W) (v:W):Bool:=!(pre.any fun y=>eqW y v)
noncomputable def dn(vs:List W):Nat:=fE gP [] vs
noncomputable def oO:Nm→List W→Option W
 | .ite,[.b c,u,v]=>some (cond c u v)
 | .eq,vs=>some (.b ((dn vs:Int) == 1))
 | .dist,vs=>some (.b ((dn vs:Int) == (vs.length:Int)))
 | .imp,vs=>(match vs.getLast? with
  | some (.b l)=>some (.b (decide ((cT vs:Int) < (vs.length:Int) - 1) || l))
  | _=>none)
 | .and,vs=>some (.b ((cT vs:Int) == (vs.length:Int)))
 | .or,vs=>some (.b (decide ((cT vs:Int) > 0)))
 | .not,vs=>some (.b ((cT vs:Int) == 0))
 | .xor,vs=>some (.b ((cT vs:Int).fmod 2 == 1))
 | _,_=>none
theorem yN{g:Fm→Hp→Out (List V)}{m:Fm}{H H1:Hp}{vs:List V}{kvs kvs':List (Str × V)}(h:g m (H++[.dictS []])=.ok vs H1) (hu:hY vs=some kvs) (hd:H1[H.length]? = some (.dictS [])) (hf:kvs.foldl (fun a kv=>dM a kv.1 kv.2) []=kvs'):eG g m H=.ok (.ref H.length) (H1.set H.length (.dictS kvs')):=by
 unfold eG;rw[h,dN,hu,hd];dsimp only;rw[hf]
structure DuL (m:Fm) (H:Hp) (j:Nat) (vs:List W) (x:String):Prop where
 ln:m.lookup (CW "name")=some (.str (CW x))
 lw:m.lookup (CW "worths")=some (.ref j)
 lm:m.lookup (CW "many")=some (.int vs.length)
 lt:m.lookup (CW "trues")=some (.int (cT vs:Nat))
 g:H[j]? = some (.list (vs.map W.v))
 hl:vs.length≤100
noncomputable abbrev eqN(y:String):FE:=aD oEq (ae (CW "name")) (fC (.str (CW y)))
theorem DuL.eqn{m:Fm}{H:Hp}{j:Nat}{vs:List W}{x:String}(s:DuL m H j vs x) {H1:Hp}(y:String):eqN y m H1=.ok (.bool (x == y)) H1:=aF (ah s.ln) e_c fO
theorem DuL.it{m:Fm}{H:Hp}{j:Nat}{vs:List W}{x:String}(s:DuL m H j vs x) (i:Nat) {u:W}(hu:vs[i]? = some u):cm (.ref j) (.int (i:Int)) H=.ok u.v H:=tq s.g hu (CX s.hl (by decide))
theorem DuL.sk{m:Fm}{H:Hp}{j:Nat}{vs:List W}{x:String}(s:DuL m H j vs x) {b B:FS}{v:V}{y:String}(h:(x == y)=false) (q:du B m H v):du (am (fIf (eqN y) b av) B) m H v:=fx (b4 (b:=false) ((s.eqn y).trans (by rw[h])) (c_f aR)) q
theorem DuL.inx{m:Fm}{H:Hp}{j:Nat}{vs:List W}{x:String}(s:DuL m H j vs x) {c:Bool}(h:(["=","distinct"].any fun y=>y == x)=c):aD oIn (ae (CW "name")) (bM (ad (fC (.str (CW "="))) (ad (fC (.str (CW "distinct"))) ao))) m H=.ok (.bool c) H:=
 (aF (ah s.ln) (cC e2s rfl) (eM ["=","distinct"] x)).trans (by rw[h])
noncomputable abbrev dS1:FS:=fIf (eqN "ite") (am (a6 (ba (ae (CW "worths")) (dK (ba (ae (CW "worths")) (fC (.int 0))) (fC (.int 1)) (fC (.int 2))))) av) av
noncomputable abbrev dS2:FS:=fIf (aD oIn (ae (CW "name")) (bM (ad (fC (.str (CW "="))) (ad (fC (.str (CW "distinct"))) ao)))) (am (aH (aG bL (ad (b7 [CW "worths"] (df (ad (ae (CW "many")) ao)) (cz (CW "k")) fw gZ) ao)) (bA (CW "kinds"))) (am (a6 (aD oEq (ae (CW "kinds")) (dK (eqN "=") (fC (.int 1)) (ae (CW "many"))))) av)) av
noncomputable abbrev dS3:FS:=fIf (eqN "=>") (am (a6 (fOr (aD oLt (ae (CW "trues")) (aD qP (ae (CW "many")) (fC (.int 1)))) (ba (ae (CW "worths")) (kH (fC (.int 1)))))) av) av
noncomputable abbrev dS4:FS:=am (a6 (ba (eG (ad (fC (.str (CW "and"))) (ad (aD oEq (ae (CW "trues")) (ae (CW "many"))) (ad (fC (.str (CW "or"))) (ad (aD oGt (ae (CW "trues")) (fC (.int 0))) (ad (fC (.str (CW "not"))) (ad (aD oEq (ae (CW "trues")) (fC (.int 0))) (ad (fC (.str (CW "xor"))) (ad (aD oEq (aD lG (ae (CW "trues")) (fC (.int 2))) (fC (.int 1))) ao))))))))) (ae (CW "name")))) av
noncomputable abbrev duD(t n:Int):List (Str × V):=[(CW "and",.bool (t == n)),(CW "or",.bool (decide (t > 0))),(CW "not",.bool (t == 0)),(CW "xor",.bool (t.fmod 2 == 1))]
theorem yJ{t n:Int}:(duD t n).foldl (fun a kv=>dM a kv.1 kv.2) []=duD t n:=by kernel_rfl
theorem DuL.dct{m:Fm}{H:Hp}{j:Nat}{vs:List W}{x:String}(s:DuL m H j vs x) {w:V}(h0:(x == "ite")=false) (h1:(["=","distinct"].any fun y=>y == x)=false) (h2:(x == "=>")=false) (hw:dI (duD (cT vs:Nat) vs.length) (CW x)=some w):du (am dS1 (am dS2 (am dS3 dS4))) m H w:=
 s.sk h0 (fx (b4 (s.inx h1) (c_f aR)) (s.sk h2 (gE (kM (bw (yN (kvs:=duD (cT vs:Nat) vs.length) (aj e_c (aj (aF (ah s.lt) (ah s.lm) eO) (aj e_c (aj (aF (ah s.lt) e_c sD) (aj e_c (aj (aF (ah s.lt) e_c eO) (aj e_c (aj (aF (aF (ah s.lt) e_c (kg (by decide))) e_c eO) aA)))))))) rfl (bc _ _ _) yJ) (ah s.ln) (o6 (be (bc _ _ _)) hw)) ((Ext.app _ _).set (Nat.le_refl _) _)))))
theorem AI(t:List W→W→Bool) (r:List W):∀ pre,fE t pre r≤r.length:=by
 induction r with
 | nil=>exact fun _=>Nat.le_refl _
 | cons v r ih=>
  intro pre
  unfold fE
  rw[Df,Nat.add_comm r.length]
  refine Nat.add_le_add ?_ (ih _)
  cases t pre v<;>decide
theorem DuL.kinds{m:Fm}{H:Hp}{j:Nat}{vs:List W}{x:String}(s:DuL m H j vs x) (flt:(m.filter fun p=>[CW "worths"].contains p.1)=[(CW "worths",V.ref j)]):∃ H2,aG bL (ad (b7 [CW "worths"] (df (ad (ae (CW "many")) ao)) (cz (CW "k")) fw gZ) ao) m H=.ok (.int (dn vs:Nat)) H2∧Ext H H2:=by
 have x2:Ext H (H++[AObj.list []]):=.app _ _
 have h0:([(CW "worths",V.ref j)]:Fm).lookup (CW "worths")=some (.ref j):=au
 refine byC fun kq=>?_
 obtain⟨H2,L,e2,x3,g2,l2⟩:=qf (t:=gP) (c1:=fw) (i:=H.length) (s:=j) (vs:=vs) (Nat.le_refl _) s.g
  (fun {pre r v m H1} a b c d=>by
   have:=qc (neg:=true) (F:=iU) (nm:="worths") (by decide) s.g (CX s.hl (by decide)) (fun x h=>by rw[qN x h,Bool.true_xor]) h0 a b c d
   rw[Bool.true_xor]at this
   exact this) vs (pre:=[]) (m:=[(CW "worths",.ref j)]) (H:=H++[AObj.list []]) (acc:=[]) rfl (fun _ _=>rfl) x2 (bc _ _ _) (CX (Nat.le_of_eq (Nat.zero_add _)) (CX s.hl (by decide)))
 refine kq ?_;try clear kq
 have rg:=nM (g:=ad (ae (CW "many")) ao) (m:=m) (H:=H) (aj (ah s.lm) aA) (jd ⟨Int.le_trans (by decide) (Dj _),Int.le_trans (Int.ofNat_le.mpr s.hl) (by decide)⟩)
 rw[Di,mW]at rg
 have l2:L.length=dn vs:=l2
 have b2:=bj (xs:=iv L) g2 (by rw[aY,l2];exact Dc (CX (AI gP vs []) s.hl) (by decide))
 rw[aY,l2]at b2
 exact⟨H2,aV (aj (fG rg flt e2) aA) b2,x3⟩
theorem DuL.knd{m:Fm}{H:Hp}{j:Nat}{vs:List W}{x:String}(s:DuL m H j vs x) (flt:(m.filter fun p=>[CW "worths"].contains p.1)=[(CW "worths",V.ref j)]) {n:Int}{B:FS}(h0:(x == "ite")=false) (h1:(["=","distinct"].any fun y=>y == x)=true) (hn:cond (x == "=") 1 (vs.length:Int)=n):
  du (am dS1 (am dS2 B)) m H (.bool ((dn vs:Int) == n)):=by
 refine byC fun kq=>?_
 obtain⟨H2,ek,x2⟩:=s.kinds flt
 refine kq ?_;try clear kq
 have ln:((CW "kinds",V.int (dn vs:Nat))::m).lookup (CW "name")=some (.str (CW x)):=(ak (by decide)).trans s.ln
 have hu:dK (eqN "=") (fC (.int 1)) (ae (CW "many")) ((CW "kinds",.int (dn vs:Nat))::m) H2=.ok (.int n) H2:=bW (aF (ah ln) e_c fO) (by
  rw[← hn]
  cases x == "=" with
  | true=>exact c_t e_c
  | false=>exact c_f (ah ((ak (by decide)).trans s.lm)))
 exact s.sk h0 (gE (Aw (s.inx h1) (.refl H) (kN (bY ek bQ) x2 (gE (kM (aF (ah au) hu eO) (.refl H2))))))
theorem yK{vs:List W}{v:W}(h:oO .ite vs=some v):∃ c u w,vs=[.b c,u,w]∧v=cond c u w:=by
 cases vs with
 | nil=>cases h
 | cons x r=>
  cases x with
  | i z=>cases h
  | b c=>
   cases r with
   | nil=>cases h
   | cons u r=>
    cases r with
    | nil=>cases h
    | cons w r=>
     cases r with
     | nil=>exact⟨c,u,w,rfl,(Option.some.inj h).symm⟩
     | cons _ _=>cases h
theorem yL{m:Fm}{H:Hp}{j:Nat}{vs:List W}{x:Nm}{v:W}(s:DuL m H j vs x.s) (flt:(m.filter fun p=>[CW "worths"].contains p.1)=[(CW "worths",V.ref j)]) (h:oO x vs=some v):du (am dS1 (am dS2 (am dS3 dS4))) m H v.v:=by
 cases x with
 | ite=>
  refine byC fun kq=>?_
  obtain⟨c,a,b,e1,e2⟩:=yK h
  refine kq ?_;try clear kq
  rw[e1]at s
  rw[e2]
  refine cL (s.eqn "ite") (bw (ah s.lw) (v:=.ref j) (w:=.int (cond c 1 2)) (H1:=H) (H2:=H) (bW (b:=c) (bw (ah s.lw) e_c (s.it 0 rfl)) (by cases c<;>rfl)) ?_) (.refl H)
  cases c with
  | true=>exact s.it 1 rfl
  | false=>exact s.it 2 rfl
 | eq=>rw[← Option.some.inj h];exact s.knd flt rfl rfl rfl
 | dist=>rw[← Option.some.inj h];exact s.knd flt rfl rfl rfl
 | imp=>
  have h':(match vs.getLast? with
    | some (W.b l)=>some (W.b (decide ((cT vs:Int) < (vs.length:Int) - 1) || l))
    | _=>none)=some v:=h
  rcases List.eq_nil_or_concat vs with hz|⟨r,l,hz⟩
  ·rw[hz]at h';cases h'
  rw[List.concat_eq_append]at hz
  rw[show vs.getLast? = some l by rw[hz,List.getLast?_append];rfl]at h'
  cases l with
  | i q=>cases h'
  | b q=>
   have gl:H[j]? = some (.list (r.map W.v++[V.bool q])):=by rw[s.g,hz,De];rfl
   have il:=mO gl (Dc (CX (C9 _ 1) (by rw[C4];have:=s.hl;rw[hz,C1]at this;exact this)) (by decide))
   rw[← Option.some.inj h']
   exact s.sk rfl (fx (b4 (s.inx rfl) (c_f aR)) (cL (s.eqn "=>") (qp (aF (ah s.lt) (aF (ah s.lm) e_c tQ) mQ) (bw (ah s.lw) (qo e_c) il)) (.refl H)))
 | and=>rw[← Option.some.inj h];exact s.dct rfl rfl rfl (by kernel_rfl)
 | or=>rw[← Option.some.inj h];exact s.dct rfl rfl rfl (by kernel_rfl)
 | not=>rw[← Option.some.inj h];exact s.dct rfl rfl rfl (by kernel_rfl)
 | xor=>rw[← Option.some.inj h];exact s.dct rfl rfl rfl (by kernel_rfl)
 | tru=>cases h
theorem AL{x:Nm}{j:Nat}{vs:List W}{v:W}{H:Hp}(hj:H[j]? = some (.list (vs.map W.v))) (hl:vs.length≤100) (h:oO x vs=some v):∃ H',kt [.str (CW x.s),.ref j] H=.ok v.v H'∧Ext H H':=by
 have bl:bL [.ref j] H=.ok (.int vs.length) H:=by
  have:=bj hj (by rw[C4];exact Dc hl (by decide))
  rw[C4]at this;exact this
 let fr0:Fm:=[(CW "name",.str (CW x.s)),(CW "worths",.ref j)]
 have x1:Ext H (H++[AObj.list []]):=.app _ _
 have lp:=nK (G:=fun H=>H[j]? = some (.list (vs.map W.v))) (Good:=fun H'=>H'[j]? = some (.list (vs.map W.v))) (i:=H.length) (c:=j3) (fe:=j4) (x:=CW "one") W.v uK W.v (fun _ g=>g) (fun H' ys g=>aP (Nat.ne_of_lt (bq hj)) g) (fun a m H' _=>aF (ah au) e_c (wI a)) vs (fun a _ _ m H' _=>ah au)
  (m:=[]) (H:=H++[AObj.list []]) (acc:=[]) (x1.get hj) (bc _ _ _) (CX (Nat.le_of_eq (Nat.zero_add _)) (CX hl (by decide)))
 rw[List.nil_append]at lp
 refine byC fun kq=>?_
 obtain⟨H1,hH1⟩:∃ H1,H1=(H++[AObj.list []]).set H.length (.list ((vs.filter uK).map W.v)):=⟨_,rfl⟩
 refine kq ?_;try clear kq
 have x01:Ext H H1:=hH1 ▸ x1.set (Nat.le_refl _) _
 have g1:H1[H.length]? = some (.list ((vs.filter uK).map W.v)):=hH1 ▸ be (bc _ _ _)
 rw[← hH1]at lp
 have cl:bL [.ref H.length] H1=.ok (.int (cT vs:Nat)) H1:=by
  have:=bj g1 (by rw[C4];exact Dc (List.length_filter_le ..) (Dc hl (by decide)))
  rw[C4]at this;exact this
 have l0:fr0.lookup (CW "worths")=some (.ref j):=(ak (by decide)).trans au
 have flt:(fr0.filter fun p=>([]:List Str).contains p.1)=[]:=List.filter_eq_nil_iff.mpr fun _ _ z=>by cases z
 show ∃ H',ci _ kI _ H=_∧_
 delta kI
 exact sL fr0 ⟨rfl,rfl⟩ (kN (m1:=(CW "many",.int vs.length)::(CW "trues",.int (cT vs:Nat))::fr0) (bY (cC (aj (aV (aj (ah l0) aA) bl) (aj (aV (aj (fG (jF (ah l0) hj) flt lp) aA) cl) aA)) rfl) jh) x01
  (yL ⟨(ak (by decide)).trans ((ak (by decide)).trans au),(ak (by decide)).trans ((ak (by decide)).trans l0),au,(ak (by decide)).trans au,x01.get hj,hl⟩ (by kernel_rfl) h))
noncomputable def fU(ss:List Nat):Bool:=(ss.filter fun(s:Nat)=>!((s:Int) == (0:Int))).length == 0
noncomputable def jL:Nm→List Nat→Bool
 | .not,ss=>!((ss.length:Int) == 1) || !fU ss
 | .and,ss=>!fU ss
 | .or,ss=>!fU ss
 | .ite,[a,b,c]=>!((a:Int) == (0:Int)) || !((b:Int) == (c:Int))
 | .ite,_=>true
 | .tru,_=>true
 | .xor,ss=>decide ((ss.length:Int) < 2) || !fU ss
 | .imp,ss=>decide ((ss.length:Int) < 2) || !fU ss
 | .eq,ss=>decide ((ss.length:Int) < 2) || !((ss.count (ss.headD 0):Int) == (ss.length:Int))
 | .dist,ss=>decide ((ss.length:Int) < 2) || !((ss.count (ss.headD 0):Int) == (ss.length:Int))
theorem ye(ss:List Nat):i3 (iv ss)=some (ss.map fun(s:Nat)=>(s:Int)):=by
 induction ss with
 | nil=>rfl
 | cons s r ih=>show i3 (V.int (s:Int)::iv r)=_;rw[uf,ih];rfl
theorem we(x:Nat) (ss:List Nat):(ss.map fun(s:Nat)=>(s:Int)).count (x:Int)=ss.count x:=by
 induction ss with
 | nil=>rfl
 | cons s r ih=>
  rw[List.map_cons,List.count_cons,List.count_cons,ih]
  have:((s:Int) == (x:Int))=(s == x):=by
   cases h:s == x with
   | true=>rw[beq_iff_eq]at h;rw[h];exact beq_self_eq_true _
   | false=>exact beq_eq_false_iff_ne.mpr fun q=>(beq_eq_false_iff_ne.mp h) (Int.ofNat.inj q)
  rw[this]
theorem Ca{j:Nat}{ss:List Nat}{H:Hp}{m:Fm}(z:decide ((ss.length:Int) < 2)=false) (lw:m.lookup (CW "sorts")=some (.ref j)) (lm:m.lookup (CW "many")=some (.int ss.length)) (hj:H[j]? = some (.list (iv ss))) (hl:ss.length≤100):
  aD oNe (aN isL iz (ae (CW "sorts")) (ad (ba (ae (CW "sorts")) (fC (.int 0))) (ao))) (ae (CW "many")) m H=.ok (.bool (decide ((ss.length:Int) < 2) || !((ss.count (ss.headD 0):Int) == (ss.length:Int)))) H:=by
 rw[z,Bool.false_or]
 cases ss with
 | nil=>cases z
 | cons s r=>
  have b:iz [.ref j,.int (s:Int)] H=.ok (.int ((s::r).count s:Nat)) H:=by
   unfold iz;dsimp only;rw[hj,iV,ye,bP,we]
  exact aF (aW (ah lw) hj rfl (aj (bw (ah lw) e_c (en hj hl)) aA) b) (ah lm) gB
structure ReL (m:Fm) (H:Hp) (j:Nat) (ss:List Nat) (x:String):Prop where
 ln:m.lookup (CW "name")=some (.str (CW x))
 lw:m.lookup (CW "sorts")=some (.ref j)
 lm:m.lookup (CW "many")=some (.int ss.length)
 lt:m.lookup (CW "are_truths")=some (.bool (fU ss))
 g:H[j]? = some (.list (iv ss))
 hl:ss.length≤100
theorem ReL.eqn{m:Fm}{H:Hp}{j:Nat}{ss:List Nat}{x:String}(s:ReL m H j ss x) (y:String):eqN y m H=.ok (.bool (x == y)) H:=aF (ah s.ln) e_c fO
theorem ReL.nt{m:Fm}{H:Hp}{j:Nat}{ss:List Nat}{x:String}(s:ReL m H j ss x):jB (ae (CW "are_truths")) m H=.ok (.bool !(fU ss)) H:=wt (ah s.lt)
theorem ReL.ne{m:Fm}{H:Hp}{j:Nat}{ss:List Nat}{x:String}(s:ReL m H j ss x) (n:Int):aD oNe (ae (CW "many")) (fC (.int n)) m H=.ok (.bool !((ss.length:Int) == n)) H:=aF (ah s.lm) e_c gB
theorem ReL.sk{m:Fm}{H:Hp}{j:Nat}{ss:List Nat}{x:String}(s:ReL m H j ss x) {b B:FS}{v:V}{y:String}(h:(x == y)=false) (q:du B m H v):du (am (fIf (eqN y) b av) B) m H v:=fx (b4 (b:=false) ((s.eqn y).trans (by rw[h])) (c_f aR)) q
theorem ReL.inx{m:Fm}{H:Hp}{j:Nat}{ss:List Nat}{x:String}(s:ReL m H j ss x) {a b:String}{c:Bool}(h:([a,b].any fun y=>y == x)=c):aD oIn (ae (CW "name")) (bM (ad (fC (.str (CW a))) (ad (fC (.str (CW b))) ao))) m H=.ok (.bool c) H:=
 (aF (ah s.ln) (cC e2s rfl) (eM [a,b] x)).trans (by rw[h])
noncomputable abbrev rS1:FS:=fIf (eqN "not") (am (a6 (fOr (aD oNe (ae (CW "many")) (fC (.int 1))) (jB (ae (CW "are_truths"))))) av) av
noncomputable abbrev rS2:FS:=fIf (aD oIn (ae (CW "name")) (bM (ad (fC (.str (CW "and"))) (ad (fC (.str (CW "or"))) ao)))) (am (a6 (jB (ae (CW "are_truths")))) av) av
noncomputable abbrev sr(i:Int):FE:=ba (ae (CW "sorts")) (fC (.int i))
noncomputable abbrev rS3:FS:=fIf (eqN "ite") (am (a6 (fOr (aD oNe (ae (CW "many")) (fC (.int 3))) (fOr (aD oNe (sr 0) (fC (.int 0))) (aD oNe (sr 1) (sr 2))))) av) av
noncomputable abbrev rS4:FS:=fIf (fOr (aD oLt (ae (CW "many")) (fC (.int 2))) (eqN "true")) (am (a6 (fC (.bool true))) av) av
noncomputable abbrev rS5:FS:=am (a6 (dK (aD oIn (ae (CW "name")) (bM (ad (fC (.str (CW "xor"))) (ad (fC (.str (CW "=>"))) ao)))) (jB (ae (CW "are_truths"))) (aD oNe (aN isL iz (ae (CW "sorts")) (ad (sr 0) (ao))) (ae (CW "many"))))) av
theorem ReL.tl{m:Fm}{H:Hp}{j:Nat}{ss:List Nat}{x:String}(s:ReL m H j ss x) {r:Bool}(h0:(x == "not")=false) (h1:(["and","or"].any fun y=>y == x)=false) (h2:(x == "ite")=false) (h3:(decide ((ss.length:Int) < 2) || x == "true")=true→r=true) (h4:(decide ((ss.length:Int) < 2) || x == "true")=false→du rS5 m H (.bool r)):
  du (am rS1 (am rS2 (am rS3 (am rS4 rS5)))) m H (.bool r):=by
 have lt2:fOr (aD oLt (ae (CW "many")) (fC (.int 2))) (eqN "true") m H=.ok (.bool (decide ((ss.length:Int) < 2) || x == "true")) H:=qp (aF (ah s.lm) e_c mQ) (s.eqn "true")
 refine s.sk h0 (fx (b4 (s.inx h1) (c_f aR)) (s.sk h2 ?_))
 cases e:decide ((ss.length:Int) < 2) || x == "true" with
 | true=>rw[e]at lt2;rw[h3 e];exact cL lt2 e_c (.refl H)
 | false=>rw[e]at lt2;exact fx (b4 lt2 (c_f aR)) (h4 e)
theorem ReL.xr{m:Fm}{H:Hp}{j:Nat}{ss:List Nat}{x:String}(s:ReL m H j ss x) (h0:(x == "not")=false) (h1:(["and","or"].any fun y=>y == x)=false) (h2:(x == "ite")=false) (h3:(x == "true")=false) (h4:(["xor","=>"].any fun y=>y == x)=true):du (am rS1 (am rS2 (am rS3 (am rS4 rS5)))) m H (.bool (decide ((ss.length:Int) < 2) || !fU ss)):=
 s.tl h0 h1 h2 (fun z=>by rw[h3,Bool.or_false]at z;rw[z];rfl) fun z=>by rw[h3,Bool.or_false]at z;rw[z,Bool.false_or];exact gE (kM (bW (s.inx h4) (c_t s.nt)) (.refl H))
theorem ReL.eqd{m:Fm}{H:Hp}{j:Nat}{ss:List Nat}{x:String}(s:ReL m H j ss x) (h0:(x == "not")=false) (h1:(["and","or"].any fun y=>y == x)=false) (h2:(x == "ite")=false) (h3:(x == "true")=false) (h4:(["xor","=>"].any fun y=>y == x)=false):du (am rS1 (am rS2 (am rS3 (am rS4 rS5)))) m H (.bool (decide ((ss.length:Int) < 2) || !((ss.count (ss.headD 0):Int) == (ss.length:Int)))):=
 s.tl h0 h1 h2 (fun z=>by rw[h3,Bool.or_false]at z;rw[z];rfl) fun z=>by rw[h3,Bool.or_false]at z;exact gE (kM (bW (s.inx h4) (c_f (Ca z s.lw s.lm s.g s.hl))) (.refl H))
theorem zt{ss:List Nat}:(ss.length ≠ 3∧jL .ite ss=true)∨∃ a b c,ss=[a,b,c]:=by
 cases ss with
 | nil=>exact .inl ⟨by decide,rfl⟩
 | cons a r=>cases r with
  | nil=>exact .inl ⟨(by decide:1 ≠ 3),rfl⟩
  | cons b r=>cases r with
   | nil=>exact .inl ⟨(by decide:2 ≠ 3),rfl⟩
   | cons c r=>cases r with
    | nil=>exact .inr ⟨a,b,c,rfl⟩
    | cons d r=>exact .inl ⟨fun z=>Nat.succ_ne_zero _ (Nat.succ.inj (Nat.succ.inj (Nat.succ.inj z))),rfl⟩
theorem ReL.iteO{m:Fm}{H:Hp}{j:Nat}{ss:List Nat}(s:ReL m H j ss "ite"):fOr (aD oNe (ae (CW "many")) (fC (.int 3))) (fOr (aD oNe (sr 0) (fC (.int 0))) (aD oNe (sr 1) (sr 2))) m H=.ok (.bool (jL .ite ss)) H:=by
 have n3:=s.ne 3
 rcases zt (ss:=ss)with⟨h3,h⟩|⟨a,b,c,h⟩
 ·rw[h]
  exact lE (b:=true) (n3.trans (by rw[show((ss.length:Int) == 3)=false from beq_eq_false_iff_ne.mpr fun q=>h3 (Int.ofNat.inj q)];rfl)) (c_t rfl)
 ·have g:=s.g
  rw[h]at n3 g ⊢
  have it:∀ (n:Nat) {u:Nat},[a,b,c][n]? = some u→cm (.ref j) (.int (n:Int)) H=.ok (.int u) H:=fun n u hu=>cO g (Nat.le_of_ble_eq_true rfl) (Dj _) (Int.ofNat_lt.mpr (Nat.lt_of_lt_of_eq (List.getElem?_eq_some_iff.mp hu).1 rfl)) (by rw[Di];unfold iv;rw[List.getElem?_map,hu];rfl)
  exact lE (b:=false) n3 (c_f (qp (aF (bw (ah s.lw) e_c (it 0 rfl)) e_c gB) (aF (bw (ah s.lw) e_c (it 1 rfl)) (bw (ah s.lw) e_c (it 2 rfl)) gB)))
theorem zu{m:Fm}{H:Hp}{j:Nat}{ss:List Nat}{x:Nm}(s:ReL m H j ss x.s):du (am rS1 (am rS2 (am rS3 (am rS4 rS5)))) m H (.bool (jL x ss)):=by
 cases x with
 | not=>exact cL (s.eqn "not") (qp (s.ne 1) s.nt) (.refl H)
 | and=>exact s.sk rfl (cL (s.inx rfl) s.nt (.refl H))
 | or=>exact s.sk rfl (cL (s.inx rfl) s.nt (.refl H))
 | ite=>exact s.sk rfl (fx (b4 (s.inx rfl) (c_f aR)) (cL (s.eqn "ite") s.iteO (.refl H)))
 | tru=>exact s.tl rfl rfl rfl (fun _=>rfl) fun z=>absurd z (by rw[show(Nm.s .tru == "true")=true from rfl,Bool.or_true];decide)
 | xor=>exact s.xr rfl rfl rfl rfl rfl
 | imp=>exact s.xr rfl rfl rfl rfl rfl
 | eq=>exact s.eqd rfl rfl rfl rfl rfl
 | dist=>exact s.eqd rfl rfl rfl rfl rfl
theorem sH{x:Nm}{j:Nat}{ss:List Nat}{H:Hp}(hj:H[j]? = some (.list (iv ss))) (hl:ss.length≤100):∃ H',dH [.str (CW x.s),.ref j] H=.ok (.bool (jL x ss)) H'∧Ext H H':=by
 let fr0:Fm:=[(CW "name",.str (CW x.s)),(CW "sorts",.ref j)]
 have b1:=bj hj (by rw[aY];exact Dc hl (by decide))
 rw[aY]at b1
 have x1:Ext H (H++[AObj.list []]):=.app _ _
 have lp:=nK (G:=fun H=>H[j]? = some (.list (iv ss))) (Good:=fun H'=>H'[j]? = some (.list (iv ss))) (i:=H.length) (c:=fk) (fe:=fm) (x:=CW "s") (fun(s:Nat)=>V.int (s:Int)) (fun s=>!((s:Int) == (0:Int))) (fun(s:Nat)=>V.int (s:Int)) (fun _ g=>g) (fun H' ys g=>aP (Nat.ne_of_lt (bq hj)) g) (fun a m H' _=>aF (ah au) e_c gB) ss (fun a _ _ m H' _=>ah au)
  (m:=[]) (H:=H++[AObj.list []]) (acc:=[]) (x1.get hj) (bc _ _ _) (CX (Nat.le_of_eq (Nat.zero_add _)) (CX hl (by decide)))
 rw[List.nil_append]at lp
 refine byC fun kq=>?_
 obtain⟨H1,hH1⟩:∃ H1,H1=(H++[AObj.list []]).set H.length (.list ((ss.filter fun(s:Nat)=>!((s:Int) == (0:Int))).map fun(s:Nat)=>V.int (s:Int))):=⟨_,rfl⟩
 refine kq ?_;try clear kq
 have x01:Ext H H1:=hH1 ▸ x1.set (Nat.le_refl _) _
 have g1:H1[H.length]? = some (.list (iv (ss.filter fun(s:Nat)=>!((s:Int) == (0:Int))))):=hH1 ▸ be (bc _ _ _)
 rw[← hH1]at lp
 have x2:Ext H1 (H1++[AObj.list []]):=.app _ _
 have q2:oEq (.ref H.length) (.ref H1.length) (H1++[AObj.list []])=.ok (.bool (fU ss)) (H1++[AObj.list []]):=qK (x2.get g1) (bc _ _ _)
 have l0:fr0.lookup (CW "sorts")=some (.ref j):=(ak (by decide)).trans au
 have flt:(fr0.filter fun p=>([]:List Str).contains p.1)=[]:=List.filter_eq_nil_iff.mpr fun _ _ z=>by cases z
 show ∃ H',ci _ eH _ H=_∧_
 delta eH
 exact sL fr0 ⟨rfl,rfl⟩ (kN (m1:=(CW "many",.int ss.length)::(CW "are_truths",.bool (fU ss))::fr0) (bY (cC (aj (aV (aj (ah l0) aA) b1) (aj (aF (fG (jF (ah l0) hj) flt lp) (eE aA (eN (Nat.zero_le _))) q2) aA)) rfl) jh) (x01.trans x2)
  (zu ⟨(ak (by decide)).trans ((ak (by decide)).trans au),(ak (by decide)).trans ((ak (by decide)).trans l0),au,(ak (by decide)).trans au,(x01.trans x2).get hj,hl⟩))

structure Kp (H H':Hp):Prop where
 len:H.length≤H'.length
 get:∀ i o,i ≠ 1→i < 9∨14≤i→H[i]? = some o→H'[i]? = some o
theorem Kp.refl(H:Hp):Kp H H:=⟨Nat.le_refl _,fun _ _ _ _ e=>e⟩
theorem Kp.trans{H1 H2 H3:Hp}(x:Kp H1 H2) (y:Kp H2 H3):Kp H1 H3:=⟨CX x.len y.len,fun i o n m e=>y.get i o n m (x.get i o n m e)⟩
theorem Chg.kp{H H':Hp}(x:Chg H H'):Kp H H':=⟨x.len,fun i o _ m e=>x.get i o m e⟩
theorem dy.kp{H H':Hp}(x:dy 1 H H'):Kp H H':=⟨x.1,fun i o n _ e=>x.2 i o n e⟩
theorem Ext.kp{H H':Hp}(x:Ext H H'):Kp H H':=x.chg.kp
theorem Kp.at14{H H':Hp}(x:Kp H H') {i:Nat}{o:AObj}(h:14≤i) (e:H[i]? = some o):H'[i]? = some o:=x.get i o (Nat.ne_of_gt (Dd (by decide) h)) (.inr h) e
structure FD (H:Hp) (k:Nat):Prop where
 fd:H[1]? = some (.dictS [(CW "cells",.ref 2),(CW "at",.int (k:Int))])
 cl:∃ cs:List Int,H[2]? = some (.list (cs.map .int))∧cs.length≤50
theorem FD.chg{H H':Hp}{k} (x:FD H k) (c:Chg H H'):FD H' k:=⟨c.get _ _ (.inl (by decide)) x.fd,let ⟨cs,a,b⟩:=x.cl;⟨cs,c.get _ _ (.inl (by decide)) a,b⟩⟩
theorem FD.ext{H H':Hp}{k} (x:FD H k) (c:Ext H H'):FD H' k:=x.chg c.chg
theorem BB.step{H H':Hp}{T} (x:BB H T) (e:dy 1 H H'):BB H' T:=by
 have g:∀ {i o},i ≠ 1→H[i]? = some o→H'[i]? = some o:=fun n q=>e.2 _ _ n q
 exact⟨⟨g (by decide) x.bk.bank,g (by decide) x.bk.ops,g (by decide) x.bk.args,g (by decide) x.bk.sorts,g (by decide) x.bk.datas,g (by decide) x.bk.nums,x.bk.pos⟩,g (by decide) x.nm,x.ok⟩
theorem MK.kp{H H':Hp}{mk} (x:MK H mk) (c:Kp H H'):MK H' mk:=by
 refine byC fun kq=>?_
 obtain⟨fs,a,b⟩:=x.ex
 refine kq ?_;try clear kq
 exact⟨x.ge,fs,c.at14 x.ge a,b⟩
theorem mJ{c w:Int}(h:0 < w):∃ n:Nat,c.fmod w=(n:Int)∧(n:Int) < w:=by
 have h0:=Int.fmod_nonneg_of_pos c h
 exact⟨(c.fmod w).toNat,(Int.toNat_of_nonneg h0).symm,by rw[Int.toNat_of_nonneg h0];exact Int.fmod_lt_of_pos c h⟩
theorem lL{H:Hp}{k:Nat}{w:Int}(D:FD H k) (hk:k≤1000) (hw:0 < w):∃ (n:Nat) (H':Hp),(n:Int) < w∧aX [.ref 1,.int w] H=.ok (.int n) H'∧FD H' (k + 1)∧dy 1 H H':=by
 refine byC fun kq=>?_
 obtain⟨cs,hc,hl⟩:=D.cl
 have hcl:(cs.map V.int).length≤50:=by rw[C4];exact hl
 obtain⟨H1,hH1⟩:∃ H1,H1=H.set 1 (.dictS [(CW "cells",.ref 2),(CW "at",.int ((k:Int) + 1))]):=⟨_,rfl⟩
 have f1:cm (.ref 1) (.str (CW "at")) H=.ok (.int (k:Int)) H:=o6 D.fd (by kernel_rfl)
 have f2:fc (.ref 1) (.str (CW "at")) (.int ((k:Int) + 1)) H=some H1:=hH1 ▸ zM D.fd (Nat.le_of_ble_eq_true rfl) (by kernel_rfl)
 have g1:H1[1]? = some (.dictS [(CW "cells",.ref 2),(CW "at",.int ((k:Int) + 1))]):=hH1 ▸ be D.fd
 have hc1:H1[2]? = some (.list (cs.map .int)):=hH1 ▸ aP (by decide) hc
 have f3:cm (.ref 1) (.str (CW "cells")) H1=.ok (.ref 2) H1:=o6 g1 (by kernel_rfl)
 have f4:=bj hc1 (Dc hcl (by decide))
 rw[C4]at f4
 have D1:FD H1 (k + 1):=⟨g1,cs,hc1,hl⟩
 have S1:dy 1 H H1:=hH1 ▸ dy.set 1 H _
 have main:∃ n:Nat,(n:Int) < w∧aX [.ref 1,.int w] H=.ok (.int n) H1:=by
  by_cases q:(k:Int) < (cs.length:Int)
  ·have hk':k < cs.length:=Int.ofNat_lt.mp q
   obtain⟨c,hck⟩:∃ c,c=cs[k]:=⟨_,rfl⟩
   have f5:cm (.ref 2) (.int (k:Int)) H1=.ok (.int c) H1:=hck ▸ cO hc1 (CX hcl (by decide)) (Dj _) (by rw[C4];exact q) (by rw[Di,List.getElem?_map,C0 hk'];rfl)
   obtain⟨n,e,hn⟩:=mJ (c:=c) hw
   have f6:lG (.int c) (.int w) H1=.ok (.int n) H1:=by rw[kg hw,e]
   refine⟨n,hn,?_⟩
   clear D D1 S1 hc hcl hl hk e hn hH1 g1 hc1 hck hk'
   delta aX jE
   apply cq [(CW "feed",.ref 1),(CW "wide",.int w)] ⟨rfl,rfl⟩
   (repeat' with_reducible (first|exact bQ|exact aA|exact e_c|apply aj|apply ah|apply aV|apply bw|apply aF|apply az|apply bY|apply b4|apply b9|apply iX|exact bO|apply c_t|apply aE|assumption|(apply Cs;first|assumption|decide)|exact tO|exact au|(apply aK;kernel_rfl)))
  ·obtain⟨n1,e1,hn1⟩:=mJ (c:=7 * (k:Int) * k + 4 * k + 2) (w:=61) (by decide)
   obtain⟨n,e,hn⟩:=mJ (c:=(n1:Int)) hw
   have a1:pk (.int 7) (.int (k:Int)) H1=.ok (.int (7 * k)) H1:=by rw[pn,if_pos (by decide)]
   have a2:pk (.int (7 * (k:Int))) (.int (k:Int)) H1=.ok (.int (7 * k * k)) H1:=by rw[pn,if_pos (by omega)]
   have a3:pk (.int 4) (.int (k:Int)) H1=.ok (.int (4 * k)) H1:=by rw[pn,if_pos (by decide)]
   have a4:lG (.int (7 * (k:Int) * k + 4 * k + 2)) (.int 61) H1=.ok (.int n1) H1:=by rw[kg (by decide),e1]
   have a5:lG (.int n1) (.int w) H1=.ok (.int n) H1:=by rw[kg hw,e]
   refine⟨n,hn,?_⟩
   clear D D1 S1 hc hcl hl hk e hn hH1 g1 hc1 e1 hn1
   delta aX jE
   apply cq [(CW "feed",.ref 1),(CW "wide",.int w)] ⟨rfl,rfl⟩
   (repeat' with_reducible (first|exact bQ|exact aA|exact e_c|exact aR|apply aj|apply ah|apply aV|apply bw|apply aF|apply az|apply bY|apply b4|apply b9|apply iX|exact bO|apply c_f|apply aE|assumption|(apply o8;first|assumption|decide)|exact tO|exact au|(apply aK;kernel_rfl)))
 obtain⟨n,hn,e⟩:=main
 refine kq ?_;try clear kq
 exact⟨n,H1,hn,e,D1,S1⟩
theorem AR{α:Type}(a:List α) (x:α) (b:List α):(a++x::b).eraseIdx a.length=a++b:=by
 induction a with
 | nil=>rfl
 | cons y a ih=>show y::(a++x::b).eraseIdx a.length=_;rw[ih];rfl
theorem AD{α:Type}(a:List α) (x:α) (b:List α):(a++x::b)[a.length]? = some x:=by
 induction a with
 | nil=>rfl
 | cons y a ih=>exact ih
theorem xS(l:List Nat):∀ n,n < l.length→∃ a x b,l=a++x::b∧a.length=n:=by
 induction l with
 | nil=>exact fun n h=>absurd h (Nat.not_lt_zero n)
 | cons y l ih=>
  intro n h
  cases n with
  | zero=>exact⟨[],y,l,rfl,rfl⟩
  | succ n=>
   refine byC fun kq=>?_
   obtain⟨a,x,b,e,e2⟩:=ih n (Nat.lt_of_succ_lt_succ h)
   refine kq ?_;try clear kq
   exact⟨y::a,x,b,by rw[e];rfl,by rw[Df,e2]⟩
theorem BU{H:Hp}{i:Nat}{a b:List Nat}{x:Nat}(h:H[i]? = some (.list (iv (a++x::b)))) (hl:(a++x::b).length≤1000):rU [.ref i,.int (a.length:Int)] H=.ok (.int (x:Int)) (H.set i (.list (iv (a++b)))):=by
 have e:iv (a++x::b)=iv a++V.int (x:Int)::iv b:=De ..
 have e2:iv (a++b)=iv a++iv b:=De ..
 have la:a.length=(iv a).length:=(aY a).symm
 have hll:(iv (a++x::b)).length≤1000:=by rw[aY];exact hl
 have ix:idx (iv (a++x::b)).length (a.length:Int)=some a.length:=yY (by rw[aY,C1];exact Nat.lt_add_of_pos_right (Nat.succ_pos _)) (CX hll (by decide))
 unfold rU
 dsimp only
 rw[h,iV,if_pos (CX hll (by decide)),ix,bP,e,e2,la,AD,bP,AR]
theorem qM{H:Hp}{i j:Nat}{L:List Nat}(h:H[i]? = some (.list (iv L))) (h0:H[j]? = some (.list [])):oNe (.ref i) (.ref j) H=.ok (.bool !(L.length == 0)) H:=by
 unfold oNe
 rw[kj h,kj h0,ub]
 cases L<;>rfl
theorem zU{ft:FE}{fb:FS}{n:Nat}{m m':Fm}{H H1 H':Hp}(ht:ft m H=.ok (.bool true) H1) (e:fb m H1=.ok .next m' H'):d7 ft fb (n + 1) m H=d7 ft fb n m' H':=by rw[qu,ht,ju];dsimp only;rw[e,sM]
theorem Bs{ft:FE}{fb:FS}{n:Nat}{m:Fm}{H H1:Hp}(ht:ft m H=.ok (.bool false) H1):d7 ft fb (n + 1) m H=.ok .next m H1:=by rw[qu,ht,ju]
theorem dy.setS{H H':Hp}(x:dy 1 H H') {i:Nat}(hi:H.length≤i) (o:AObj):dy 1 H (H'.set i o):=⟨by rw[List.length_set];exact x.1,fun j o' n e=>aP (Nat.ne_of_lt (Dd (bq e) hi)) (x.2 j o' n e)⟩
theorem FD.set{H:Hp}{k i:Nat}(x:FD H k) (hi:14≤i) (o:AObj):FD (H.set i o) k:=
 ⟨aP (Nat.ne_of_lt (Dd (Nat.le_of_ble_eq_true rfl) hi)) x.fd,let ⟨cs,a,b⟩:=x.cl;⟨cs,aP (Nat.ne_of_lt (Dd (Nat.le_of_ble_eq_true rfl) hi)) a,b⟩⟩
theorem vH{H0:Hp}{i f:Nat}{m:Fm}(hi:H0.length≤i) (hf:H0.length≤f) (h14:14≤H0.length) (hif:i ≠ f) (m1:m.lookup (CW "rest")=some (.ref i)) (m2:m.lookup (CW "found")=some (.ref f)) (m3:m.lookup (CW "feed")=some (.ref 1)) (n:Nat):
  ∀ {rs fs:List Nat}{k:Nat}{H:Hp}{fuel:Nat},rs.length=n→n < fuel→k + n≤1000→fs.length + n≤1000→FD H k→dy 1 H0 H→H[i]? = some (.list (iv rs))→H[f]? = some (.list (iv fs))→
  ∃ H' fs',d7 cn dj fuel m H=.ok .next m H'∧FD H' (k + n)∧dy 1 H0 H'∧H'[f]? = some (.list (iv fs'))∧(fs++rs).Perm fs':=by
 induction n with
 | zero=>
  intro rs fs k H fuel hr hfu hk hfl D S gi gf
  cases rs with
  | cons x r=>cases hr
  | nil=>
   cases fuel with
   | zero=>exact absurd hfu (Nat.lt_irrefl 0)
   | succ fuel=>
    have x1:Ext H (H++[AObj.list []]):=.app _ _
    have q:cn m H=.ok (.bool false) (H++[AObj.list []]):=by
     delta cn
     exact aF (ah m1) (eE aA (eN (Nat.zero_le _))) (qM (L:=[]) (x1.get gi) (bc _ _ _))
    exact⟨_,fs,Bs q,D.ext x1,S.trans (x1.step 1),x1.get gf,by rw[List.append_nil]⟩
 | succ n ih=>
  intro rs fs k H fuel hr hfu hk hfl D S gi gf
  cases fuel with
  | zero=>exact absurd hfu (Nat.not_lt_zero _)
  | succ fuel=>
   have x1:Ext H (H++[AObj.list []]):=.app _ _
   refine byC fun kq=>?_
   obtain⟨H1,hH1⟩:∃ H1,H1=H++[AObj.list []]:=⟨_,rfl⟩
   rw[← hH1]at x1
   have q:cn m H=.ok (.bool true) H1:=by
    delta cn
    have:=qM (L:=rs) (x1.get gi) (show H1[H.length]? = some (.list [])by rw[hH1];exact bc _ _ _)
    rw[hr]at this
    exact aF (ah m1) (eE aA (by rw[hH1];exact eN (Nat.zero_le _))) this
   obtain⟨d,H2,hd,e2,D2,S2⟩:=lL (w:=(rs.length:Int)) (D.ext x1) (CX (C9 _ _) hk) (by rw[hr];exact Int.ofNat_lt.mpr (Nat.succ_pos n))
   obtain⟨a,x,b,hrs,hla⟩:=xS rs d (Int.ofNat_lt.mp hd)
   have h14i:14≤i:=CX h14 hi
   have h14f:14≤f:=CX h14 hf
   have ne1:∀ {z:Nat},14≤z→z ≠ 1:=fun h=>Nat.ne_of_gt (Dd (by decide) h)
   have gi2:=S2.2 _ _ (ne1 h14i) (x1.get gi)
   have gf2:=S2.2 _ _ (ne1 h14f) (x1.get gf)
   have hrl:rs.length≤1000:=by rw[hr];exact CX (Nat.le_add_left _ _) hk
   have bp:rU [.ref i,.int (d:Int)] H2=.ok (.int (x:Int)) (H2.set i (.list (iv (a++b)))):=by rw[← hla];exact BU (hrs ▸ gi2) (hrs ▸ hrl)
   have gf3:(H2.set i (.list (iv (a++b))))[f]? = some (.list (iv fs)):=aP (fun z=>hif z.symm) gf2
   have hfs:(iv fs).length < 1000000:=by rw[aY];exact Dc (CX (C9 _ _) hfl) (by decide)
   have hap:=ma (v:=.int (x:Int)) gf3 hfs
   have hm2:iv fs++[V.int (x:Int)]=iv (fs++[x]):=by unfold iv;rw[De];rfl
   rw[hm2]at hap
   have bl:bL [.ref i] H1=.ok (.int (rs.length:Int)) H1:=by
    have:=bj (x1.get gi) (by rw[aY];exact Dc hrl (by decide))
    rw[aY]at this;exact this
   have bd:dj m H1=.ok .next m ((H2.set i (.list (iv (a++b)))).set f (.list (iv (fs++[x])))):=by
    delta dj
    exact az (cE (aW (ah m2) (x1.get gf) rfl (aj (aW (ah m1) (x1.get gi) rfl (aj (aV (aj (ah m3) (aj (aV (aj (ah m1) aA) bl) aA)) e2) aA) bp) aA) hap)) (aE aR)
   have hab:(a++b).length=n:=by
    rw[hrs,C1,Df,← Dh]at hr
    rw[C1];exact Nat.succ.inj hr
   obtain⟨H',fs',e',D',S',g',p'⟩:=ih (rs:=a++b) (fs:=fs++[x]) (k:=k + 1) (H:=(H2.set i (.list (iv (a++b)))).set f (.list (iv (fs++[x])))) (fuel:=fuel) hab (Nat.lt_of_succ_lt_succ hfu) (by rw[Dh,Nat.add_comm 1];exact hk) (by rw[C1,Dh];show fs.length + (1 + n)≤1000;rw[Nat.add_comm 1];exact hfl)
    ((D2.set h14i _).set h14f _) ((((S.trans (x1.step 1)).trans S2).setS hi _).setS hf _) (aP hif (be gi2)) (be gf3)
   refine kq ?_;try clear kq
   refine⟨H',fs',(zU q bd).trans e',by rw[Nat.add_comm n 1,← Dh];exact D',S',g',?_⟩
   refine List.Perm.trans ?_ p'
   rw[hrs,List.append_assoc]
   exact List.Perm.append_left _ List.perm_middle
noncomputable def kw:Nm→List Nat→List Nat→Prop
 | .ite,ts,ts'=>ts'=ts
 | .not,ts,ts'=>ts'=ts
 | .imp,ts,ts'=>∃ r r' l,ts=r++[l]∧ts'=r'++[l]∧r.Perm r'
 | _,ts,ts'=>ts.Perm ts'
inductive TnR (H:Hp) (k:Nat) (x:Nm) (ts:List Nat) (R:Nat→Hp→Prop):Prop where
 | mk (j':Nat) (ts':List Nat) (H':Hp) (k':Nat) (e:R j' H') (D:FD H' k') (hk:k'≤k + 10) (S:dy 1 H H') (g:H'[j']? = some (.list (iv ts'))) (h14:14≤j') (t:kw x ts ts'):TnR H k x ts R
noncomputable abbrev CV:FS:=fIf (aD oIn (ae (CW "name")) (bM (ad (fC (.str (CW "ite"))) (ad (fC (.str (CW "not"))) ao)))) (am (a6 (ae (CW "given"))) av) av
noncomputable abbrev tnU:FE:=dK (eqN "=>") (cN (ae (CW "given")) (fC .none) (kH (fC (.int 1))) (fC .none)) (aG lY (ad (ae (CW "given")) ao))
noncomputable abbrev tnE:FS:=am (a6 (dK (eqN "=>") (aD iu (ae (CW "found")) (cN (ae (CW "given")) (kH (fC (.int 1))) (fC .none) (fC .none))) (ae (CW "found")))) av
noncomputable abbrev tnP:FS:=am (aH (bM (ad tnU (ad (b8 ao) ao))) (ig [CW "rest",CW "found"])) (am (d7 cn dj 5000) tnE)
structure TnL (m:Fm) (j:Nat) (x:String):Prop where
 lf:m.lookup (CW "feed")=some (.ref 1)
 ln:m.lookup (CW "name")=some (.str (CW x))
 lg:m.lookup (CW "given")=some (.ref j)
theorem TnL.eqn{m:Fm}{j:Nat}{x:String}(s:TnL m j x) {H:Hp}(y:String):eqN y m H=.ok (.bool (x == y)) H:=aF (ah s.ln) e_c fO
theorem TnL.s1{m:Fm}{j:Nat}{x:String}(s:TnL m j x) {H:Hp}{c:Bool}(h:(["ite","not"].any fun y=>y == x)=c):aD oIn (ae (CW "name")) (bM (ad (fC (.str (CW "ite"))) (ad (fC (.str (CW "not"))) ao))) m H=.ok (.bool c) H:=(aF (ah s.ln) (cC e2s rfl) (eM ["ite","not"] x)).trans (by rw[h])
inductive TnM (m:Fm) (H:Hp) (j k:Nat) (x:String) (rs:List Nat):Prop where
 | mk (f:Nat) (fs:List Nat) (H3:Hp) (m3:Fm) (e:tnP m H=tnE m3 H3) (lf:m3.lookup (CW "found")=some (.ref f)) (s:TnL m3 j x) (D:FD H3 (k + rs.length)) (S:dy 1 H H3) (hf:H.length≤f) (g:H3[f]? = some (.list (iv fs))) (p:rs.Perm fs):TnM m H j k x rs
theorem xX{m:Fm}{H H1:Hp}{j k i:Nat}{x:String}{rs:List Nat}(s:TnL m j x) (D:FD H k) (hk:k≤900) (hH:14≤H.length) (hu:tnU m H=.ok (.ref i) H1) (x1:Ext H H1) (hi:H.length≤i) (gi:H1[i]? = some (.list (iv rs))) (hrl:rs.length≤10):TnM m H j k x rs:=by
 refine byC fun kq=>?_
 obtain⟨H2,e2,x2,g2⟩:=gv (xs:=[]) H1 (Nat.zero_le _)
 obtain⟨H3,fs,e3,D3,S3,g3,p3⟩:=vH (H0:=H) (i:=i) (f:=H1.length) (m:=(CW "rest",.ref i)::(CW "found",.ref H1.length)::m) hi x1.len hH (Nat.ne_of_lt (bq gi)) au ((ak (by decide)).trans au) ((ak (by decide)).trans ((ak (by decide)).trans s.lf)) rs.length (rs:=rs) (fs:=[]) (k:=k) (H:=H2) (fuel:=5000) rfl (Dc hrl (by decide)) (CX (Nat.add_le_add hk hrl) (by decide)) (CX (Nat.le_of_eq (Nat.zero_add _)) (CX hrl (by decide)))
  (D.ext (x1.trans x2)) ((x1.trans x2).step 1) (x2.get gi) g2
 refine kq ?_;try clear kq
 exact⟨H1.length,fs,H3,_,az (bY (cC (aj hu (aj (eE aA e2) aA)) rfl) jh) (aE (az e3 (aE rfl))),(ak (by decide)).trans au,⟨(ak (by decide)).trans ((ak (by decide)).trans s.lf),(ak (by decide)).trans ((ak (by decide)).trans s.ln),(ak (by decide)).trans ((ak (by decide)).trans s.lg)⟩,D3,S3,x1.len,g3,p3⟩
noncomputable abbrev TnT(m:Fm) (H:Hp):Nat→Hp→Prop:=fun j' H'=>∃ m',am CV tnP m H=.ok (.ret (.ref j')) m' H'
theorem t9{m:Fm}{H:Hp}{j k:Nat}{x:Nm}{ts:List Nat}(s:TnL m j x.s) (D:FD H k) (hj:H[j]? = some (.list (iv ts))) (hj14:14≤j) (h:(["ite","not"].any fun y=>y == x.s)=true) (t:kw x ts ts):TnR H k x ts (TnT m H):=
 ⟨j,ts,H,k,⟨_,az (b4 (s.s1 h) (c_t (az (b9 (ah s.lg)) bO))) bO⟩,D,C9 _ _,.refl 1 H,hj,hj14,t⟩
theorem gR{m:Fm}{H:Hp}{j k:Nat}{x:Nm}{ts:List Nat}(s:TnL m j x.s) (D:FD H k) (hk:k≤900) (hj:H[j]? = some (.list (iv ts))) (hH:14≤H.length) (hts:ts.length≤10) (h1:(["ite","not"].any fun y=>y == x.s)=false) (h2:(x.s == "=>")=false) (ht:∀ ts',ts.Perm ts'→kw x ts ts'):TnR H k x ts (TnT m H):=by
 have hil:(iv ts).length≤1000000:=by rw[aY];exact CX hts (by decide)
 refine byC fun kq=>?_
 obtain⟨H1,e1,x1,g1⟩:=gv (xs:=iv ts) H hil
 have bl:lY [.ref j] H=.ok (.ref H.length) H1:=by unfold lY;dsimp only;rw[hj];dsimp only;rw[if_pos hil];exact e1
 obtain⟨f,fs,H3,m3,e3,l1,s3,D3,S3,hf,g3,p3⟩:=xX s D hk hH (bW (b:=false) ((s.eqn "=>").trans (by rw[h2])) (c_f (aV (aj (ah s.lg) aA) bl))) x1 (Nat.le_refl _) g1 hts
 refine kq ?_;try clear kq
 exact⟨f,fs,H3,_,⟨_,az (b4 (s.s1 h1) (c_f aR)) (aE (e3.trans (az (b9 (bW (b:=false) ((s3.eqn "=>").trans (by rw[h2])) (c_f (ah l1)))) bO)))⟩,D3,Da hts k,S3,g3,CX hH hf,ht _ p3⟩
theorem Bp{m:Fm}{H:Hp}{j k l:Nat}{r:List Nat}(s:TnL m j "=>") (D:FD H k) (hk:k≤900) (hj:H[j]? = some (.list (iv r++[V.int (l:Int)]))) (hj14:14≤j) (hH:14≤H.length) (hrl:r.length≤10):TnR H k .imp (r++[l]) (TnT m H):=by
 have hirl:(iv r).length≤10:=by rw[aY];exact hrl
 have hil2:(iv r++[V.int (l:Int)]).length≤1000000:=by rw[C1];exact CX (Db hirl 1) (by decide)
 refine byC fun kq=>?_
 obtain⟨H1,sm1,e1,x1,g1⟩:=h7 hj hil2 (CX hirl (by decide)) (show nx (.ref j) .none (.int (-1)) .none H=eZ (iv r) H by rw[nd hj (lo:=none) (hi:=some (-1)) rfl rfl,yf])
 obtain⟨f,fs,H3,m3,e3,l1,s3,D3,S3,hf,g3,p3⟩:=xX s D hk hH (bW (b:=true) (s.eqn "=>") (c_t (gX (ah s.lg) e_c (qo e_c) e_c sm1 e1))) x1 (Nat.le_refl _) g1 hrl
 have hj3:=S3.2 _ _ (Nat.ne_of_gt (Dd (by decide) hj14)) hj
 obtain⟨H4,sm4,e4,x4,g4⟩:=h7 hj3 hil2 (ys:=[V.int (l:Int)]) (Nat.le_of_ble_eq_true rfl) (show nx (.ref j) (.int (-1)) .none .none H3=eZ [V.int (l:Int)] H3 by rw[nd hj3 (lo:=some (-1)) (hi:=none) rfl rfl,Bt])
 obtain⟨H5,e5,x5,g5⟩:=lW (x4.get g3) g4 (by rw[aY,← p3.length_eq];exact CX (Db hrl 1) (by decide))
 refine kq ?_;try clear kq
 have h5:iv fs++[V.int (l:Int)]=iv (fs++[l]):=by unfold iv;rw[De];rfl
 rw[h5]at g5
 exact⟨H4.length,fs++[l],H5,_,⟨_,az (b4 (s.s1 (x:="=>") rfl) (c_f aR)) (aE (e3.trans (az (b9 (bW (b:=true) (s3.eqn "=>") (c_t (aF (ah l1) (gX (ah s3.lg) (qo e_c) e_c e_c sm4 e4) e5)))) bO)))⟩,D3.ext (x4.trans x5),Da hrl k,S3.trans ((x4.trans x5).step 1),g5,CX hH (CX S3.1 x4.len),⟨r,fs,l,rfl,rfl,p3⟩⟩
theorem vI{x:Nm}{j k:Nat}{ts:List Nat}{H:Hp}(D:FD H k) (hk:k≤900) (hj:H[j]? = some (.list (iv ts))) (hj14:14≤j) (hx:x=.imp→ts ≠ []) (hts:ts.length≤10):
  TnR H k x ts fun j' H'=>gS [.ref 1,.str (CW x.s),.ref j] H=.ok (.ref j') H':=by
 have hH:14≤H.length:=CX hj14 (Nat.le_of_lt (bq hj))
 let fr0:Fm:=[(CW "feed",.ref 1),(CW "name",.str (CW x.s)),(CW "given",.ref j)]
 have s:TnL fr0 j x.s:=⟨au,(ak (by decide)).trans au,(ak (by decide)).trans ((ak (by decide)).trans au)⟩
 have r:TnR H k x ts (TnT fr0 H):=by
  cases x with
  | ite=>exact t9 s D hj hj14 rfl rfl
  | not=>exact t9 s D hj hj14 rfl rfl
  | and=>exact gR s D hk hj hH hts rfl rfl fun _ p=>p
  | or=>exact gR s D hk hj hH hts rfl rfl fun _ p=>p
  | xor=>exact gR s D hk hj hH hts rfl rfl fun _ p=>p
  | eq=>exact gR s D hk hj hH hts rfl rfl fun _ p=>p
  | dist=>exact gR s D hk hj hH hts rfl rfl fun _ p=>p
  | tru=>exact gR s D hk hj hH hts rfl rfl fun _ p=>p
  | imp=>
   rcases List.eq_nil_or_concat ts with hz|⟨r,l,hz⟩
   ·exact absurd hz (hx rfl)
   rw[List.concat_eq_append]at hz
   rw[hz,C1]at hts
   rw[hz]at hj ⊢
   exact Bp s D hk (hj.trans (by unfold iv;rw[De];rfl)) hj14 hH (CX (C9 _ _) hts)
 cases r with
 | mk j' ts' H' k' e D' hk' S' g' h14 t=>exact⟨j',ts',H',k',e.elim fun _ e=>cq fr0 ⟨rfl,rfl⟩ e,D',hk',S',g',h14,t⟩
theorem j8{H:Hp}{i n:Nat}{ts:List Nat}{t:Nat}(h:H[i]? = some (.list (iv ts))) (hn:ts[n]? = some t) (hl:ts.length≤1000):cm (.ref i) (.int (n:Int)) H=.ok (.int (t:Int)) H:=
 cO h (by rw[aY];exact CX hl (by decide)) (Dj _) (by rw[aY];exact Int.ofNat_lt.mpr (List.getElem?_eq_some_iff.mp hn).1) (by rw[Di];unfold iv;rw[List.getElem?_map,hn];rfl)
theorem tT{H:Hp}{k pj:Nat}{P:List Nat}{y:String}{m:Fm}(D:FD H k) (hk:k≤1000) (hp:H[pj]? = some (.list (iv P))) (h14:14≤pj) (h0:P ≠ []) (hl:P.length≤100) (m1:m.lookup (CW "feed")=some (.ref 1)) (m2:m.lookup (CW y)=some (.ref pj)):
  ∃ (t:Nat) (H':Hp),ba (ae (CW y)) (aG aX (ad (ae (CW "feed")) (ad (aG bL (ad (ae (CW y)) (ao))) (ao)))) m H=.ok (.int (t:Int)) H'∧t∈P∧FD H' (k + 1)∧dy 1 H H':=by
 have b1:=bj hp (by rw[aY];exact Dc hl (by decide))
 rw[aY]at b1
 refine byC fun kq=>?_
 obtain⟨d,H',hd,e,D',S⟩:=lL (w:=(P.length:Int)) D hk (Int.ofNat_lt.mpr (List.length_pos_iff.mpr h0))
 refine kq ?_;try clear kq
 have hd':d < P.length:=Int.ofNat_lt.mp hd
 have hp':=S.2 _ _ (Nat.ne_of_gt (Dd (by decide) h14)) hp
 exact⟨P[d],H',bw (ah m2) (aV (aj (ah m1) (aj (aV (aj (ah m2) aA) b1) aA)) e) (j8 hp' (C0 hd') (CX hl (by decide))),List.getElem_mem hd',D',S⟩
theorem uW{H0:Hp}{pj i:Nat}{P:List Nat}{y:String}(hi:H0.length≤i) (hp:H0[pj]? = some (.list (iv P))) (h14:14≤pj) (h0:P ≠ []) (hl:P.length≤100) (hy:y ≠ "turn") (vs:List V):
  ∀ {m:Fm}{H:Hp}{acc:List Nat}{k:Nat},dy 1 H0 H→FD H k→k + vs.length≤1000→acc.length + vs.length≤1000→H[i]? = some (.list (iv acc))→m.lookup (CW "feed")=some (.ref 1)→m.lookup (CW y)=some (.ref pj)→
  ∃ H' L,bN (fun _=>True) (cz (CW "turn")) (fC (.bool true)) (ba (ae (CW y)) (aG aX (ad (ae (CW "feed")) (ad (aG bL (ad (ae (CW y)) (ao))) (ao))))) i vs m H=.ok () H'∧FD H' (k + vs.length)∧dy 1 H0 H'∧H'[i]? = some (.list (iv (acc++L)))∧L.length=vs.length∧∀ t∈L,t∈P:=by
 induction vs with
 | nil=>exact fun {m H acc k} S D _ _ gi _ _=>⟨H,[],fu (G:=fun _=>True) trivial,D,S,by rw[List.append_nil];exact gi,rfl,fun t h=>by cases h⟩
 | cons v r ih=>
  intro m H acc k S D hk ha gi m1 m2
  have ne1:∀ {z:Nat},14≤z→z ≠ 1:=fun h=>Nat.ne_of_gt (Dd (by decide) h)
  have hi14:14≤i:=CX h14 (CX (Nat.le_of_lt (bq hp)) hi)
  have m1':((CW "turn",v)::m).lookup (CW "feed")=some (.ref 1):=(ak (by decide)).trans m1
  have m2':((CW "turn",v)::m).lookup (CW y)=some (.ref pj):=(ak hy).trans m2
  refine byC fun kq=>?_
  obtain⟨t,H1,e1,ht,D1,S1⟩:=tT D (CX (C9 _ _) hk) (S.2 _ _ (ne1 h14) hp) h14 h0 hl m1' m2'
  have gi1:=S1.2 _ _ (ne1 hi14) gi
  have hm2:iv acc++[V.int (t:Int)]=iv (acc++[t]):=by unfold iv;rw[De];rfl
  have c1:r.length + 1=1 + r.length:=Nat.add_comm _ _
  obtain⟨H',L,e',D',S',g',l',p'⟩:=ih (m:=(CW "turn",v)::m) (H:=H1.set i (.list (iv (acc++[t])))) (acc:=acc++[t]) (k:=k + 1) ((S.trans S1).setS hi _) (D1.set hi14 _) (by rw[Dh,← c1];exact hk) (by rw[C1,Dh];show acc.length + (1 + r.length)≤1000;rw[← c1];exact ha) (be gi1) m1' m2'
  refine kq ?_;try clear kq
  refine⟨H',t::L,?_,by rw[Df,c1,← Dh];exact D',S',by rw[g',List.append_assoc];rfl,by rw[Df,l',Df],fun u hu=>?_⟩
  ·rw[kB (G:=fun _=>True) (m1:=(CW "turn",v)::m) trivial rfl e_c e1 gi1 (by rw[aY];exact Dc (CX (C9 _ _) ha) (by decide)),hm2]
   exact e'
  ·rcases List.mem_cons.mp hu with rfl|hu
   ·exact ht
   ·exact p' u hu
theorem qT{H H1:Hp}{pj k n:Nat}{P:List Nat}{y:String}{m m0:Fm}{fv:List Str}{u:FE}(D:FD H1 k) (hu:u m H=.ok (.int (n:Int)) H1) (hn:n≤10) (hk:k + n≤1000) (hp:H1[pj]? = some (.list (iv P))) (h14:14≤pj) (h0:P ≠ []) (hl:P.length≤100) (hy:y ≠ "turn") (flt:(m.filter fun p=>fv.contains p.1)=m0) (m1:m0.lookup (CW "feed")=some (.ref 1)) (m2:m0.lookup (CW y)=some (.ref pj)):
  ∃ H' L,b7 fv (df (ad u ao)) (cz (CW "turn")) (fC (.bool true)) (ba (ae (CW y)) (aG aX (ad (ae (CW "feed")) (ad (aG bL (ad (ae (CW y)) (ao))) (ao))))) m H=.ok (.ref H1.length) H'∧FD H' (k + n)∧dy 1 H1 H'∧H'[H1.length]? = some (.list (iv L))∧L.length=n∧∀ t∈L,t∈P:=by
 have x1:Ext H1 (H1++[AObj.list []]):=.app _ _
 have rg:=nM (g:=ad u ao) (m:=m) (H:=H) (aj hu aA) (jd ⟨Int.le_trans (by decide) (Dj _),Int.le_trans (Int.ofNat_le.mpr hn) (by decide)⟩)
 rw[Di,mW]at rg
 have hlen:(iv (List.range' 0 n)).length=n:=by rw[aY,List.length_range']
 refine byC fun kq=>?_
 obtain⟨H',L,e',D',S',g',l',p'⟩:=uW (H0:=H1) (i:=H1.length) (Nat.le_refl _) hp h14 h0 hl hy (iv (List.range' 0 n)) (m:=m0) (H:=H1++[AObj.list []]) (acc:=[]) (k:=k) (x1.step 1) (D.ext x1) (by rw[hlen];exact hk) (by rw[hlen];exact CX (Nat.le_of_eq (Nat.zero_add _)) (CX hn (by decide))) (bc _ _ _) m1 m2
 refine kq ?_;try clear kq
 rw[hlen]at D' l'
 exact⟨H',L,fG rg flt e',D',S',g',l',p'⟩
theorem wV{i j:Nat}{H:Hp}{f n:Nat}(h:H[f]? = some (.list [.ref i,.ref j])) (hn:n < 2):cm (.ref f) (.int (n:Int)) H=.ok (.ref (if n=0 then i else j)) H:=
 cO h (Nat.le_of_ble_eq_true rfl) (Dj _) (Int.ofNat_lt.mpr hn) (by
  rw[Di]
  match n,hn with
  | 0,_=>rfl
  | 1,_=>rfl
  | n + 2,h=>exact absurd h (Nat.not_lt.mpr (Nat.le_add_left 2 n)))
theorem sv(a b:List Nat):iv a++iv b=iv (a++b):=(De ..).symm
theorem gq(fv:List Str) (x:Str) (hx:fv.contains x=true) (m:Fm):(m.filter fun p=>fv.contains p.1).lookup x=m.lookup x:=by
 induction m with
 | nil=>rfl
 | cons p r ih=>
  refine byC fun kq=>?_
  obtain⟨y,v⟩:=p
  refine kq ?_;try clear kq
  rw[List.filter_cons,List.lookup_cons]
  by_cases q:(x == y)=true
  ·have e:x=y:=beq_iff_eq.mp q
   rw[if_pos (show fv.contains (y,v).1=true from e ▸ hx),List.lookup_cons,q]
  ·rw[Bool.eq_false_iff.mpr q]
   by_cases c:fv.contains (y,v).1=true
   ·rw[if_pos c,List.lookup_cons,Bool.eq_false_iff.mpr q];exact ih
   ·rw[if_neg c];exact ih
inductive GvR (H:Hp) (k:Nat) (Q:List Nat) (R:Nat→Hp→Prop):Prop where
 | mk (j:Nat) (ts:List Nat) (H':Hp) (k':Nat) (e:R j H') (D:FD H' k') (hk:k'≤k) (S:dy 1 H H') (g:H'[j]? = some (.list (iv ts))) (h14:14≤j) (l:ts.length≤5) (p:∀ t∈ts,t∈Q):GvR H k Q R
theorem GvR.map{H H0:Hp}{k k0:Nat}{Q:List Nat}{R R0:Nat→Hp→Prop}(x:GvR H k Q R) (S0:dy 1 H0 H) (hk:k≤k0) (h:∀ j H',R j H'→R0 j H'):GvR H0 k0 Q R0:=by
 cases x with
 | mk j ts H' k' e D hk' S g h14 l p=>exact⟨j,ts,H',k',h _ _ e,D,CX hk' hk,S0.trans S,g,h14,l,p⟩
noncomputable abbrev drw(w:Int):FE:=aG aX (ad (ae (CW "feed")) (ad (fC (.int w)) (ao)))
theorem mt{m:Fm}{H:Hp}{k:Nat}{w:Int}(lf:m.lookup (CW "feed")=some (.ref 1)) (D:FD H k) (hk:k≤1000) (hw:0 < w):∃ (n:Nat) (H':Hp),(n:Int) < w∧drw w m H=.ok (.int n) H'∧FD H' (k + 1)∧dy 1 H H':=by
 refine byC fun kq=>?_
 obtain⟨n,H',hn,e,D',S⟩:=lL (w:=w) D hk hw
 refine kq ?_;try clear kq
 exact⟨n,H',hn,aV (aj (ah lf) (aj e_c aA)) e,D',S⟩
noncomputable abbrev wB:FS:=am (a6 (b7 [CW "feed",CW "pool"] (df (ad (ae (CW "many")) (ao))) (cz (CW "turn")) (fC (.bool true)) (iO))) av
noncomputable abbrev yu(S:FS) (m:Fm) (H:Hp):Nat→Hp→Prop:=fun j H'=>∃ m',S m H=.ok (.ret (.ref j)) m' H'
structure GvP (m:Fm) (H:Hp) (p:Nat) (P Q:List Nat):Prop where
 lf:m.lookup (CW "feed")=some (.ref 1)
 lp:m.lookup (CW "pool")=some (.ref p)
 g:H[p]? = some (.list (iv P))
 h14:14≤p
 ne:P ≠ []
 l:P.length≤100
 q:∀ t∈P,t∈Q
theorem ne1{z:Nat}(h:14≤z):z ≠ 1:=Nat.ne_of_gt (Dd (by decide) h)
theorem GvP.step{m:Fm}{H H':Hp}{p:Nat}{P Q:List Nat}(s:GvP m H p P Q) (S:dy 1 H H'):GvP m H' p P Q:=⟨s.lf,s.lp,S.2 _ _ (ne1 s.h14) s.g,s.h14,s.ne,s.l,s.q⟩
theorem oZ{m:Fm}{H H':Hp}{p k n:Nat}{P Q:List Nat}{u:FE}(s:GvP m H' p P Q) (hu:u m H=.ok (.int (n:Int)) H') (hn:n≤5) (D:FD H' k) (hk:k≤950):GvR H' (k + 5) Q (yu (am (aH u (bA (CW "many"))) wB) m H):=by
 have lk:=gq [CW "feed",CW "pool"]
 refine byC fun kq=>?_
 obtain⟨H2,L,e',D',S',g',l',p'⟩:=qT (y:="pool") (n:=n) (u:=ae (CW "many")) (m:=(CW "many",.int (n:Int))::m) (fv:=[CW "feed",CW "pool"]) D (ah au) (CX hn (by decide)) (CX (Nat.add_le_add hk hn) (by decide)) s.g s.h14 s.ne s.l (by decide) rfl ((lk _ (by kernel_rfl) _).trans ((ak (by decide)).trans s.lf)) ((lk _ (by kernel_rfl) _).trans ((ak (by decide)).trans s.lp))
 refine kq ?_;try clear kq
 exact⟨_,L,H2,_,⟨_,az (bY hu bQ) (aE (az (b9 e') bO))⟩,D',Da hn k,S',g',Nat.le_of_lt (Dc s.h14 (bq s.g)),l' ▸ hn,fun t h=>s.q t (p' t h)⟩
noncomputable abbrev eqY(y:String):FE:=aD oEq (ae (CW "name")) (fC (.str (CW y)))
noncomputable abbrev gU:FE:=dK (mD (eqY "not") (aD oGt (drw 3) (fC (.int 0)))) (fC (.int 1)) (drw 6)
theorem tI{x:Nm}{m:Fm}{H H1:Hp}{p k:Nat}{P Q:List Nat}{d:Nat}(s:GvP m H p P Q) (ln:m.lookup (CW "name")=some (.str (CW x.s))) (D:FD H k) (hk:k≤940) (e3:(x.s == "not")=true→drw 3 m H=.ok (.int (d:Int)) H1∧FD H1 (k + 1)∧dy 1 H H1):
  GvR H (k + 7) Q (yu (am (aH gU (bA (CW "many"))) wB) m H):=by
 have eqk:eqY "not" m H=.ok (.bool (x.s == "not")) H:=aF (ah ln) e_c fO
 cases hc:x.s == "not" with
 | true=>
  rw[hc]at eqk
  refine byC fun kq=>?_
  obtain⟨e3,D3,S3⟩:=e3 hc
  refine kq ?_;try clear kq
  have g3:aD oGt (drw 3) (fC (.int 0)) m H=.ok (.bool (decide ((d:Int) > 0))) H1:=aF e3 e_c sD
  cases hd:decide ((d:Int) > 0)with
  | true=>
   rw[hd]at g3
   exact(oZ (n:=1) (s.step S3) (bW (fF eqk (c_t g3)) (c_t e_c)) (by decide) D3 (CX (Db hk 1) (by decide))).map S3 (Nat.le_of_lt (Nat.lt_succ_self _)) fun _ _ h=>h
  | false=>
   rw[hd]at g3
   refine byC fun kq=>?_
   obtain⟨n,H4,hn,e4,D4,S4⟩:=mt (w:=6) s.lf D3 (CX (Db hk 1) (by decide)) (by decide)
   refine kq ?_;try clear kq
   exact(oZ ((s.step S3).step S4) (bW (fF eqk (c_t g3)) (c_f e4)) (Nat.le_of_lt_succ (Int.ofNat_lt.mp hn)) D4 (CX (Db hk 2) (by decide))).map (S3.trans S4) (Nat.le_refl _) fun _ _ h=>h
 | false=>
  rw[hc]at eqk
  refine byC fun kq=>?_
  obtain⟨n,H4,hn,e4,D4,S4⟩:=mt (w:=6) s.lf D (CX hk (by decide)) (by decide)
  refine kq ?_;try clear kq
  exact(oZ (s.step S4) (bW (fF eqk (c_f rfl)) (c_f e4)) (Nat.le_of_lt_succ (Int.ofNat_lt.mp hn)) D4 (CX (Db hk 1) (by decide))).map S4 (Nat.le_of_lt (Nat.lt_succ_self _)) fun _ _ h=>h
noncomputable abbrev Al:FS:=am (aH (ba (b8 (ad (ae (CW "truths")) (ad (ae (CW "things")) (ao)))) (drw 2)) (bA (CW "late")))
 (am (a6 (aD iu (b8 (ad (ba (ae (CW "pool")) (aG aX (ad (ae (CW "feed")) (ad (aG bL (ad (ae (CW "pool")) (ao))) (ao))))) (ao))) (b7 [CW "feed",CW "late"] (df (ad (fC (.int 2)) (ao))) (cz (CW "turn")) (fC (.bool true)) (iP)))) av)
structure GvL (H:Hp) (a:Nat) (A Q:List Nat):Prop where
 g:H[a]? = some (.list (iv A))
 h14:14≤a
 ne:A ≠ []
 l:A.length≤10
 q:∀ t∈A,t∈Q
theorem GvL.step{H H':Hp}{a:Nat}{A Q:List Nat}(s:GvL H a A Q) (S:dy 1 H H'):GvL H' a A Q:=⟨S.2 _ _ (ne1 s.h14) s.g,s.h14,s.ne,s.l,s.q⟩
theorem yU{m:Fm}{H:Hp}{p k a b:Nat}{P Q Tr Th:List Nat}(s:GvP m H p P Q) (sa:GvL H a Tr Q) (sb:GvL H b Th Q) (la:m.lookup (CW "truths")=some (.ref a)) (lb:m.lookup (CW "things")=some (.ref b)) (D:FD H k) (hk:k≤940):GvR H (k + 4) Q (yu Al m H):=by
 have h14:14≤H.length:=Nat.le_of_lt (Dc s.h14 (bq s.g))
 refine byC fun kq=>?_
 obtain⟨H4,e4,x4,g4⟩:=gv (xs:=[V.ref a,V.ref b]) H (by show 2≤1000000;decide)
 obtain⟨d5,H5,hd5,e5,D5,S5⟩:=mt (w:=2) s.lf (D.ext x4) (CX hk (by decide)) (by decide)
 have S35:dy 1 H H5:=(x4.step 1).trans S5
 have it5:=wV (S5.2 _ _ (ne1 h14) g4) (Int.ofNat_lt.mp hd5)
 obtain⟨l,Lt,hl,sl⟩:∃ l Lt,(if d5=0 then a else b)=l∧GvL H5 l Lt Q:=by
  by_cases z:d5=0
  ·rw[if_pos z];exact⟨a,Tr,rfl,sa.step S35⟩
  ·rw[if_neg z];exact⟨b,Th,rfl,sb.step S35⟩
 rw[hl]at it5
 have s5:=s.step S35
 obtain⟨t,H6,e6,ht,D6,S6⟩:=tT (y:="pool") (m:=(CW "late",.ref l)::m) D5 (CX (Db hk 1) (by decide)) s5.g s5.h14 s5.ne s5.l ((ak (by decide)).trans s.lf) ((ak (by decide)).trans s.lp)
 obtain⟨H7,e7,x7,g7⟩:=gv (xs:=iv [t]) H6 (by show 1≤1000000;decide)
 have lk:=gq [CW "feed",CW "late"]
 obtain⟨H8,L,e8,D8,S8,g8,l8,p8⟩:=qT (y:="late") (n:=2) (u:=fC (.int 2)) (m:=(CW "late",.ref l)::m) (fv:=[CW "feed",CW "late"]) (H:=H7) (D6.ext x7) e_c (by decide) (CX (Db (Db hk 2) 2) (by decide)) (x7.get ((sl.step S6).g)) sl.h14 sl.ne (CX sl.l (by decide)) (by decide) rfl ((lk _ (by kernel_rfl) _).trans ((ak (by decide)).trans s.lf)) ((lk _ (by kernel_rfl) _).trans au)
 have h6:14≤H6.length:=CX h14 (CX S35.1 S6.1)
 obtain⟨H9,e9,x9,g9⟩:=lW (S8.2 _ _ (ne1 h6) g7) g8 (by rw[aY,aY,l8];show 1 + 2≤1000000;decide)
 refine kq ?_;try clear kq
 rw[sv]at g9
 refine⟨_,[t]++L,H9,_,⟨_,az (bY (bw (eE (aj (ah la) (aj (ah lb) aA)) e4) e5 it5) bQ) (aE (az (b9 (aF (eE (aj e6 aA) e7) e8 e9)) bO))⟩,D8.ext x9,Nat.le_refl _,((S35.trans S6).trans ((x7.step 1).trans S8)).trans (x9.step 1),g9,CX h6 (CX x7.len S8.1),by rw[C1,l8];show 1 + 2≤5;decide,fun u hu=>?_⟩
 rcases List.mem_append.mp hu with hu|hu
 ·rw[List.mem_singleton.mp hu];exact s.q _ ht
 ·exact sl.q _ (p8 _ hu)
noncomputable abbrev Ce:FS:=am (fIf (mD (eqY "ite") (aD oGt (drw 3) (fC (.int 0)))) Al av) (am (aH gU (bA (CW "many"))) wB)
theorem yW{x:Nm}{m:Fm}{H:Hp}{p k a b:Nat}{P Q Tr Th:List Nat}(s:GvP m H p P Q) (sa:GvL H a Tr Q) (sb:GvL H b Th Q) (ln:m.lookup (CW "name")=some (.str (CW x.s))) (la:m.lookup (CW "truths")=some (.ref a)) (lb:m.lookup (CW "things")=some (.ref b)) (D:FD H k) (hk:k≤930):GvR H (k + 8) Q (yu Ce m H):=by
 have ei:eqY "ite" m H=.ok (.bool (x.s == "ite")) H:=aF (ah ln) e_c fO
 refine byC fun kq=>?_
 obtain⟨d,H1,hd1,e1,D1,S1⟩:=mt (w:=3) s.lf D (CX hk (by decide)) (by decide)
 refine kq ?_;try clear kq
 have g1:aD oGt (drw 3) (fC (.int 0)) m H=.ok (.bool (decide ((d:Int) > 0))) H1:=aF e1 e_c sD
 cases hx:x.s == "ite" with
 | false=>
  rw[hx]at ei
  exact(tI s ln D (CX hk (by decide)) fun _=>⟨e1,D1,S1⟩).map (.refl 1 H) (Nat.le_of_lt (Nat.lt_succ_self _)) fun _ _ h=>h.elim fun m' h=>⟨m',az (b4 (fF ei (c_f rfl)) (c_f aR)) (aE h)⟩
 | true=>
  rw[hx]at ei
  have hn:(x.s == "not")=false:=by rw[beq_iff_eq]at hx;rw[hx];rfl
  cases hd:decide ((d:Int) > 0)with
  | false=>
   rw[hd]at g1
   exact(tI (H1:=H1) (d:=0) (s.step S1) ln D1 (CX (Db hk 1) (by decide)) fun z=>absurd (z.symm.trans hn) (by decide)).map S1 (Nat.le_refl _) fun _ _ h=>h.elim fun m' h=>⟨m',az (b4 (fF ei (c_t g1)) (c_f aR)) (aE h)⟩
  | true=>
   rw[hd]at g1
   exact(yU (s.step S1) (sa.step S1) (sb.step S1) la lb D1 (CX (Db hk 1) (by decide))).map S1 (CX (Nat.le_of_eq (Dh k 1 4)) (Da (by decide) k)) fun _ _ h=>h.elim fun m' h=>⟨m',az (b4 (fF ei (c_t g1)) (c_t h)) bO⟩
noncomputable abbrev CP:FE:=dK (aD oIn (ae (CW "name")) (bM (ad (fC (.str (CW "="))) (ad (fC (.str (CW "distinct"))) (ao))))) (ae (CW "things")) (ae (CW "truths"))
theorem AT{x:String}{m:Fm}{H:Hp}{a b:Nat}{Q Tr Th:List Nat}(sa:GvL H a Tr Q) (sb:GvL H b Th Q) (ln:m.lookup (CW "name")=some (.str (CW x))) (la:m.lookup (CW "truths")=some (.ref a)) (lb:m.lookup (CW "things")=some (.ref b)):∃ f F,CP m H=.ok (.ref f) H∧GvL H f F Q:=by
 have q:aD oIn (ae (CW "name")) (bM (ad (fC (.str (CW "="))) (ad (fC (.str (CW "distinct"))) (ao)))) m H=.ok (.bool (["=","distinct"].any fun y=>y == x)) H:=aF (ah ln) (cC e2s rfl) (eM ["=","distinct"] x)
 cases hq:["=","distinct"].any fun y=>y == x with
 | true=>rw[hq]at q;exact⟨b,Th,bW q (c_t (ah lb)),sb⟩
 | false=>rw[hq]at q;exact⟨a,Tr,bW q (c_f (ah la)),sa⟩
noncomputable abbrev Cd:FE:=dK (aD oLt (ae (CW "way")) (fC (.int 3))) (ae (CW "fitting")) (dK (aD oEq (ae (CW "way")) (fC (.int 3))) (ae (CW "things")) (aD iu (aD iu (ae (CW "truths")) (ae (CW "things"))) (b8 (ad (ae (CW "other")) (ao)))))
theorem yV{m:Fm}{H:Hp}{a b f:Nat}{o w:Int}{Q Tr Th F:List Nat}{on:Nat}(sa:GvL H a Tr Q) (sb:GvL H b Th Q) (sf:GvL H f F Q) (lw:m.lookup (CW "way")=some (.int w)) (lf:m.lookup (CW "fitting")=some (.ref f)) (la:m.lookup (CW "truths")=some (.ref a)) (lb:m.lookup (CW "things")=some (.ref b)) (lo:m.lookup (CW "other")=some (.int (on:Int))) (ho:on∈Q):
  ∃ p P H2,Cd m H=.ok (.ref p) H2∧Ext H H2∧H2[p]? = some (.list (iv P))∧14≤p∧P ≠ []∧P.length≤100∧∀ t∈P,t∈Q:=by
 refine byC fun K=>?_
 by_cases q:w < 3
 ·exact K ⟨f,F,H,bW (aF (ah lw) e_c (Cs q)) (c_t (ah lf)),.refl H,sf.g,sf.h14,sf.ne,CX sf.l (by decide),sf.q⟩
 by_cases q2:(w == 3)=true
 ·exact K ⟨b,Th,H,bW (aF (ah lw) e_c (o8 q)) (c_f (bW (aF (ah lw) e_c (eO.trans (by rw[q2]))) (c_t (ah lb)))),.refl H,sb.g,sb.h14,sb.ne,CX sb.l (by decide),sb.q⟩
 have hab:∀ {y z:Nat},y≤10→z≤10→y + z + 1≤100:=fun h1 h2=>CX (Db (Nat.add_le_add h1 h2) 1) (by decide)
 obtain⟨A1,ea,xa,ga⟩:=lW sa.g sb.g (by rw[aY,aY];exact CX (Nat.add_le_add sa.l sb.l) (by decide))
 obtain⟨A2,eb,xb,gb⟩:=gv (xs:=iv [on]) A1 (by show 1≤1000000;decide)
 obtain⟨A3,ec,xc,gc⟩:=lW (xb.get ga) gb (by rw[C1,aY,aY];exact CX (hab sa.l sb.l) (by decide))
 rw[sv,sv]at gc
 exact K ⟨A2.length,Tr++Th++[on],A3,bW (aF (ah lw) e_c (o8 q)) (c_f (bW (aF (ah lw) e_c (eO.trans (by rw[Bool.eq_false_iff.mpr q2]))) (c_f (aF (aF (ah la) (ah lb) ea) (eE (aj (ah lo) aA) eb) ec)))),xa.trans (xb.trans xc),gc,CX sa.h14 (CX (Nat.le_of_lt (bq sa.g)) (xa.trans xb).len),List.append_ne_nil_of_right_ne_nil _ (by intro z;cases z),by rw[C1,C1];exact hab sa.l sb.l,fun t h=>by
  rcases List.mem_append.mp h with h|h
  ·exact(List.mem_append.mp h).elim (sa.q t) (sb.q t)
  ·rw[List.mem_singleton.mp h];exact ho⟩
theorem wC{x:Nm}{a b o k:Nat}{Tr Th:List Nat}{H:Hp}(D:FD H k) (hk:k≤900) (ha:H[a]? = some (.list (iv Tr))) (hb:H[b]? = some (.list (iv Th))) (ha14:14≤a) (hb14:14≤b) (hTr:Tr ≠ []) (hTh:Th ≠ []) (hlr:Tr.length≤10) (hlh:Th.length≤10):
  GvR H (k + 10) (Tr++Th++[o]) fun j H'=>dU [.ref 1,.str (CW x.s),.ref a,.ref b,.int (o:Int)] H=.ok (.ref j) H':=by
 let fr0:Fm:=[(CW "feed",.ref 1),(CW "name",.str (CW x.s)),(CW "truths",.ref a),(CW "things",.ref b),(CW "other",.int (o:Int))]
 have sa:GvL H a Tr (Tr++Th++[o]):=⟨ha,ha14,hTr,hlr,fun t h=>List.mem_append_left _ (List.mem_append_left _ h)⟩
 have sb:GvL H b Th (Tr++Th++[o]):=⟨hb,hb14,hTh,hlh,fun t h=>List.mem_append_left _ (List.mem_append_right _ h)⟩
 refine byC fun kq=>?_
 obtain⟨way,H1,hw,e1,D1,S1⟩:=mt (m:=fr0) (w:=5) au D (CX hk (by decide)) (by decide)
 have n0:fr0.lookup (CW "name")=some (.str (CW x.s)):=(ak (by decide)).trans au
 have a0:fr0.lookup (CW "truths")=some (.ref a):=(ak (by decide)).trans ((ak (by decide)).trans au)
 have b0:fr0.lookup (CW "things")=some (.ref b):=(ak (by decide)).trans ((ak (by decide)).trans ((ak (by decide)).trans au))
 have o0:fr0.lookup (CW "other")=some (.int (o:Int)):=(ak (by decide)).trans ((ak (by decide)).trans ((ak (by decide)).trans ((ak (by decide)).trans au)))
 obtain⟨f,F,ef,sf⟩:=AT (m:=(CW "way",.int (way:Int))::fr0) (sa.step S1) (sb.step S1) ((ak (by decide)).trans n0) ((ak (by decide)).trans a0) ((ak (by decide)).trans b0)
 obtain⟨p,P,H2,ep,x2,gp,p14,P0,Pl,mP⟩:=yV (o:=0) (m:=(CW "fitting",.ref f)::(CW "way",.int (way:Int))::fr0) (sa.step S1) (sb.step S1) sf ((ak (by decide)).trans au) au ((ak (by decide)).trans ((ak (by decide)).trans a0)) ((ak (by decide)).trans ((ak (by decide)).trans b0)) ((ak (by decide)).trans ((ak (by decide)).trans o0)) (List.mem_append_right _ (List.mem_singleton_self o))
 refine kq ?_;try clear kq
 have S2:dy 1 H H2:=S1.trans (x2.step 1)
 exact(yW (m:=(CW "pool",.ref p)::(CW "fitting",.ref f)::(CW "way",.int (way:Int))::fr0) ⟨(ak (by decide)).trans ((ak (by decide)).trans ((ak (by decide)).trans au)),au,gp,p14,P0,Pl,mP⟩ (sa.step S2) (sb.step S2) ((ak (by decide)).trans ((ak (by decide)).trans ((ak (by decide)).trans n0))) ((ak (by decide)).trans ((ak (by decide)).trans ((ak (by decide)).trans a0))) ((ak (by decide)).trans ((ak (by decide)).trans ((ak (by decide)).trans b0))) (D1.ext x2) (CX (Db hk 1) (by decide))).map S2 (Da (show 9≤10 by decide) k)
  fun j H' h=>h.elim fun m' h=>cq fr0 ⟨rfl,rfl⟩ (az (bY e1 bQ) (aE (az (bY ef bQ) (aE (az (bY ep bQ) (aE h))))))
structure Wo where
 b:Nat→Bool
 i:Nat→Int
noncomputable def Wo.w(x:Wo):Nat→Option W
 | 3=>some (.b (x.b 3))|4=>some (.b (x.b 4))|5=>some (.b (x.b 5))
 | 6=>some (.i (x.i 6))|7=>some (.i (x.i 7))|8=>some (.i (x.i 8))
 | 9=>some (.i 0)
 | _=>none
theorem sh{f g:Nat→Option W}(h:∀ t v,f t=some v→g t=some v) (ks:List Int):∀ {vs},eT f ks=some vs→eT g ks=some vs:=by
 induction ks with
 | nil=>exact fun e=>e
 | cons k r ih=>
  intro vs e
  unfold eT at e ⊢
  cases q:f k.toNat with
  | none=>rw[q]at e;cases e
  | some v=>cases q2:eT f r with
   | none=>rw[q,q2]at e;cases e
   | some vs'=>rw[q,q2]at e;rw[h _ _ q,ih q2];exact e
theorem mC{T:List TK}{w:Nat→Option W}(l:List TK) (n:Nat):∀ {m:Nat}{t:Nat}{v:W},n≤m→cJ n T w t=some v→cJ m (T++l) w t=some v:=by
 induction n with
 | zero=>intro m t v _ e;cases e
 | succ n ih=>
  intro m t v hm e
  cases m with
  | zero=>exact absurd hm (Nat.not_lt_zero _)
  | succ m=>
   refine byC fun kq=>?_
   obtain⟨k,hk,h⟩:=jb e
   refine kq ?_;try clear kq
   refine EvT.run (k:=k) ?_ (by rw[List.getElem?_append_left (List.getElem?_eq_some_iff.mp hk).1];exact hk)
   cases h with
   | tru e hv=>exact .tru e hv
   | fls e1 e hv=>exact .fls e1 e hv
   | app e1 e2 e hv=>exact .app e1 e2 e hv
   | op e1 e2 e3 vs hs ho=>exact .op e1 e2 e3 vs (sh (fun t v=>ih (Nat.le_of_succ_le_succ hm)) _ hs) ho
structure EOk (k:TK):Prop where
 op:∃ x:String,k.1=CW x
 one:k.1=CW "not"→∃ u:Nat,k.2.1=[(u:Int)]
 nat:∀ i∈k.2.1,∃ u:Nat,i=u
 len:k.2.1.length≤100
structure Gr (c:Nat) (T T':List TK):Prop where
 app:∃ t,T'=T++t∧t.length≤c∧∀ k∈t,EOk k
theorem Gr.refl(T:List TK):Gr 0 T T:=⟨[],(List.append_nil _).symm,Nat.le_refl _,fun _ h=>by cases h⟩
theorem Gr.mono{c d:Nat}{T T':List TK}(x:Gr c T T') (h:c≤d):Gr d T T':=let ⟨t,a,b,e⟩:=x.app;⟨t,a,CX b h,e⟩
theorem Gr.trans{c d:Nat}{T T1 T2:List TK}(x:Gr c T T1) (y:Gr d T1 T2):Gr (c + d) T T2:=by
 refine byC fun kq=>?_
 obtain⟨t,a,b,e⟩:=x.app
 obtain⟨t',a',b',e'⟩:=y.app
 refine kq ?_;try clear kq
 refine⟨t++t',by rw[a',a,List.append_assoc],by rw[C1];exact Nat.add_le_add b b',fun k hk=>?_⟩
 rcases List.mem_append.mp hk with h|h
 ·exact e k h
 ·exact e' k h
theorem Gr.len{c:Nat}{T T':List TK}(x:Gr c T T'):T.length≤T'.length:=by
 refine byC fun kq=>?_
 obtain⟨t,a,_,_⟩:=x.app
 refine kq ?_;try clear kq
 rw[a,C1];exact C9 _ _
theorem Bo{op:String}{ts:List Nat}{s:Int}(hl:ts.length≤100) (h:op="not"→∃ u,ts=[u]):EOk (tk op ts s):=by
 refine⟨⟨op,rfl⟩,fun e=>?_,fun i hi=>?_,by rw[C4];exact hl⟩
 ·refine byC fun kq=>?_
  obtain⟨u,hu⟩:=h (cS e)
  refine kq ?_;try clear kq
  exact⟨u,by rw[hu];rfl⟩
 ·refine byC fun kq=>?_
  obtain⟨u,_,e⟩:=List.mem_map.mp hi
  refine kq ?_;try clear kq
  exact⟨u,e.symm⟩
theorem Ct{T:List TK}{k:TK}(hk:EOk k):Gr 1 T (mkP T k).2:=by
 cases h:fnd T k with
 | some n=>rw[gu h];exact(Gr.refl T).mono (Nat.zero_le _)
 | none=>rw[je h];exact⟨[k],rfl,Nat.le_refl _,fun x hx=>by rw[List.mem_singleton.mp hx];exact hk⟩
theorem dR{T:List TK}{t:Nat}(l:List TK) (h:t < T.length):srt (T++l) t=srt T t:=by
 unfold srt;rw[List.getElem?_append_left h]
structure Mn (d:Nat) (T:List TK) (n:Nat) (s:Int) (f:Wo→W):Prop where
 lt:n < T.length
 srt:srt T n=s
 val:∀ w:Wo,cJ d T w.w n=some (f w)
theorem Mn.app{d d':Nat}{T:List TK}{n:Nat}{s:Int}{f:Wo→W}(x:Mn d T n s f) (l:List TK) (h:d≤d'):Mn d' (T++l) n s f:=
 ⟨by rw[C1];exact Dd x.lt (C9 _ _),by rw[dR l x.lt];exact x.srt,fun w=>mC l d h (x.val w)⟩
theorem Mn.le{d d':Nat}{T:List TK}{n:Nat}{s:Int}{f:Wo→W}(x:Mn d T n s f) (h:d≤d'):Mn d' T n s f:=by
 have:=x.app [] h;rw[List.append_nil]at this;exact this
theorem Mn.gr{c d:Nat}{T T':List TK}{n:Nat}{s:Int}{f:Wo→W}(x:Mn d T n s f) (g:Gr c T T'):Mn d T' n s f:=by
 refine byC fun kq=>?_
 obtain⟨t,a,_,_⟩:=g.app
 refine kq ?_;try clear kq
 rw[a];exact x.app t (Nat.le_refl _)
structure YesP (P:List TK→PR) (d c:Nat) (T:List TK) (s:Int) (f:Wo→W):Prop where
 ex:∃ n T1,P T=(some n,T1)∧Gr c T T1∧Mn d T1 n s f∧∀ l,P (T1++l)=(some n,T1++l)
structure NoP (P:List TK→PR) (c:Nat) (T:List TK):Prop where
 ex:∃ T1,P T=(none,T1)∧Gr c T T1
inductive Mns (d:Nat) (T:List TK):List Nat→List (Wo→W)→Prop where
 | nil:Mns d T [] []
 | cons {n ns s f fs}:Mn d T n s f→Mns d T ns fs→Mns d T (n::ns) (f::fs)
theorem Mns.eval{d:Nat}{T:List TK}{ns:List Nat}{fs:List (Wo→W)}(x:Mns d T ns fs) (w:Wo):eT (cJ d T w.w) (ns.map fun(t:Nat)=>(t:Int))=some (fs.map fun f=>f w):=by
 induction x with
 | nil=>rfl
 | cons h _ ih=>rw[List.map_cons];unfold eT;rw[Di,h.val w,ih];rfl
theorem Mns.app{d d':Nat}{T:List TK}{ns:List Nat}{fs:List (Wo→W)}(x:Mns d T ns fs) (l:List TK) (h:d≤d'):Mns d' (T++l) ns fs:=by
 induction x with
 | nil=>exact .nil
 | cons a _ ih=>exact .cons (a.app l h) ih
theorem iT{d:Nat}{T:List TK}{op:String}{ts:List Nat}{fs:List (Wo→W)}{s:Int}{f:Wo→W}{P:List TK→PR}(h0:0 < T.length) (X:Mns d T ts fs) (hl:ts.length≤100) (hn:op="not"→∃ u,ts=[u]) (h1:op ≠ "true"∧op ≠ "false"∧op ≠ "app")
  (hv:∀ w,opW (CW op) (fs.map fun f=>f w)=some (f w)) (hP:∀ l,P (T++l)=mkR (T++l) (tk op ts s)):YesP P (d + 1) 1 T s f:=by
 have g:=Ct (T:=T) (Bo (s:=s) hl hn)
 refine byC fun kq=>?_
 obtain⟨t,ht,_,_⟩:=g.app
 refine kq ?_;try clear kq
 have hat:=(wS h0 (tk op ts s)).2
 refine⟨(mkP T (tk op ts s)).1,(mkP T (tk op ts s)).2,by have:=hP [];rw[List.append_nil]at this;exact this,g,⟨(List.getElem?_eq_some_iff.mp hat).1,fh hat,fun w=>?_⟩,fun l=>?_⟩
 ·unfold cJ
  rw[hat]
  dsimp only
  rw[if_neg (fun e=>h1.1 (cS e)),if_neg (fun e=>h1.2.1 (cS e)),if_neg (fun e=>h1.2.2 (cS e))]
  have:=(X.app t (Nat.le_refl d)).eval w
  rw[← ht]at this
  rw[this]
  exact hv w
 ·have fl:=yS l (Dd h0 g.len) (wT h0 (tk op ts s))
  have e:=hP (t++l)
  rw[← List.append_assoc,← ht]at e
  rw[e]
  unfold mkR
  rw[gu fl]
theorem oB{T:List TK}{ts:List Nat}{s:Int}(l:List TK) (h:∀ t∈ts,t < T.length∧srt T t=s):gI (T++l) ts s=true:=by
 unfold gI
 rw[List.all_eq_true]
 intro t ht
 rw[dR l (h t ht).1,(h t ht).2];exact beq_self_eq_true _
theorem kx{T:List TK}{ts:List Nat}{s:Int}{t:Nat}(ht:t∈ts) (h:srt T t ≠ s):gI T ts s=false:=by
 unfold gI
 rw[List.all_eq_false]
 exact⟨t,ht,fun z=>h (beq_iff_eq.mp z)⟩
theorem ue{p:Nat→Prop}{a b:Nat}(ha:p a) (hb:p b):∀ t∈[a,b],p t:=fun t h=>by
 rcases List.mem_cons.mp h with rfl|h
 ·exact ha
 ·rw[List.mem_singleton.mp h];exact hb
theorem bX{x y:String}(h:x ≠ y):¬CW x=CW y:=fun z=>h (cS z)
theorem zp(x y:Bool):opW (CW "xor") [.b x,.b y]=some (.b (x != y)):=by
 unfold opW
 rw[if_neg (bX (by decide)),if_neg (bX (by decide)),if_neg (bX (by decide)),if_neg (bX (by decide)),if_neg (bX (by decide)),if_neg (bX (by decide)),if_pos rfl]
 cases x<;>cases y<;>rfl
theorem zm(x y:Bool):opW (CW "=>") [.b x,.b y]=some (.b (y || !x)):=by
 unfold opW
 rw[if_neg (bX (by decide)),if_neg (bX (by decide)),if_neg (bX (by decide)),if_neg (bX (by decide)),if_pos rfl]
theorem wY(x y:W):opW (CW "=") [x,y]=some (.b (eqW x y)):=by
 unfold opW
 rw[if_neg (bX (by decide)),if_neg (bX (by decide)),if_neg (bX (by decide)),if_neg (bX (by decide)),if_neg (bX (by decide)),if_pos rfl]
theorem zn(c:Bool) (x y:W):opW (CW "ite") [.b c,x,y]=some (cond c x y):=by
 unfold opW
 rw[if_pos rfl]
theorem tR(x:Bool):opW (CW "not") [.b x]=some (.b !x):=by
 unfold opW
 rw[if_neg (bX (by decide)),if_pos rfl]
theorem qS{x:W}{y:Bool}(h:opW (CW "not") [x]=some (.b y)):x=.b !y:=by
 cases x with
 | b c=>rw[tR]at h;cases h;rw[Bool.not_not]
 | i c=>unfold opW at h;rw[if_neg (bX (by decide)),if_pos rfl]at h;cases h
theorem mB(x:W):eqW x x=true:=by
 cases x with
 | b x=>cases x<;>rfl
 | i x=>exact beq_self_eq_true x
theorem CL{d:Nat}{T:List TK}{a b:Nat}{f g:Wo→Bool}(h0:0 < T.length) (A:Mn d T a 0 fun w=>.b (f w)) (B:Mn d T b 0 fun w=>.b (g w)):YesP (fun T=>jQ T a b) (d + 1) 1 T 0 fun w=>.b (f w != g w):=
 iT (op:="xor") h0 (.cons A (.cons B .nil)) (by show 2≤100;decide) (fun z=>absurd z (by decide)) ⟨by decide,by decide,by decide⟩ (fun w=>zp (f w) (g w)) fun l=>if_pos (oB l (ue ⟨A.lt,A.srt⟩ ⟨B.lt,B.srt⟩))
theorem Cm{d:Nat}{T:List TK}{a b:Nat}{f g:Wo→Bool}(h0:0 < T.length) (A:Mn d T a 0 fun w=>.b (f w)) (B:Mn d T b 0 fun w=>.b (g w)):YesP (fun T=>ir T a b) (d + 1) 1 T 0 fun w=>.b (g w || !f w):=
 iT (op:="=>") h0 (.cons A (.cons B .nil)) (by show 2≤100;decide) (fun z=>absurd z (by decide)) ⟨by decide,by decide,by decide⟩ (fun w=>zm (f w) (g w)) fun l=>if_pos (oB l (ue ⟨A.lt,A.srt⟩ ⟨B.lt,B.srt⟩))
theorem Az{T:List TK}{a b:Nat}(h:srt T a ≠ 0∨srt T b ≠ 0):jQ T a b=(none,T):=by
 unfold jQ
 rw[if_neg]
 rcases h with h|h
 ·rw[kx (CY ..) h];exact Bool.false_ne_true
 ·rw[kx (CZ _ (CY ..)) h];exact Bool.false_ne_true
theorem Am{T:List TK}{a b:Nat}(h:srt T a ≠ 0∨srt T b ≠ 0):ir T a b=(none,T):=by
 unfold ir
 rw[if_neg]
 rcases h with h|h
 ·rw[kx (CY ..) h];exact Bool.false_ne_true
 ·rw[kx (CZ _ (CY ..)) h];exact Bool.false_ne_true
theorem Co{d:Nat}{T:List TK}{c a b:Nat}{s:Int}{h:Wo→Bool}{f g:Wo→W}(h0:0 < T.length) (C:Mn d T c 0 fun w=>.b (h w)) (A:Mn d T a s f) (B:Mn d T b s g):YesP (fun T=>qF T c a b) (d + 1) 1 T s fun w=>cond (h w) (f w) (g w):=
 iT (op:="ite") h0 (.cons C (.cons A (.cons B .nil))) (by show 3≤100;decide) (fun z=>absurd z (by decide)) ⟨by decide,by decide,by decide⟩ (fun w=>zn (h w) (f w) (g w)) fun l=>by
  unfold qF
  rw[dR l C.lt,C.srt,dR l A.lt,A.srt,dR l B.lt,B.srt,if_pos rfl,if_pos rfl]
theorem Cn{T:List TK}{c a b:Nat}(h:srt T c ≠ 0∨srt T b ≠ srt T a):qF T c a b=(none,T):=by
 unfold qF
 by_cases q:srt T c=0
 ·rw[if_pos q,if_neg (h.resolve_left fun z=>z q)]
 ·rw[if_neg q]
theorem Mn.uniq{d:Nat}{T:List TK}{n:Nat}{s s':Int}{f g:Wo→W}(x:Mn d T n s f) (y:Mn d T n s' g) (w:Wo):f w=g w:=Option.some.inj ((x.val w).symm.trans (y.val w))
theorem B5{T:List TK}{a b:Nat}(h:srt T b ≠ srt T a):eqP T a b=(none,T):=if_neg h
theorem lP{d:Nat}{T:List TK}(h:T[1]? = some (tk "true" [] 0)) (hd:0 < d):Mn d T 1 0 fun _=>.b true:=by
 refine⟨(List.getElem?_eq_some_iff.mp h).1,fh h,fun w=>?_⟩
 cases d with
 | zero=>exact absurd hd (Nat.lt_irrefl 0)
 | succ d=>unfold cJ;rw[h];dsimp only;rw[if_pos rfl]
theorem mH{d:Nat}{T:List TK}(h:T[2]? = some (tk "false" [] 0)) (hd:0 < d):Mn d T 2 0 fun _=>.b false:=by
 refine⟨(List.getElem?_eq_some_iff.mp h).1,fh h,fun w=>?_⟩
 cases d with
 | zero=>exact absurd hd (Nat.lt_irrefl 0)
 | succ d=>unfold cJ;rw[h];dsimp only;rw[if_neg (bX (by decide)),if_pos rfl]
theorem AP{d:Nat}{T:List TK}{a b:Nat}{s:Int}{f g:Wo→W}(hs:∀ w,eqW (f w) (g w)=eqW (g w) (f w)) (h1:T[1]? = some (tk "true" [] 0)) (A:Mn d T a s f) (B:Mn d T b s g):YesP (fun T=>eqP T a b) (d + 1) 1 T 0 fun w=>.b (eqW (f w) (g w)):=by
 have h0:0 < T.length:=Dc (Nat.zero_le _) A.lt
 by_cases q:a=b
 ·subst q
  have e:∀ l,eqP (T++l) a a=(some 1,T++l):=fun l=>by unfold eqP;rw[if_pos rfl,if_pos rfl]
  refine⟨1,T,by have:=e [];rw[List.append_nil]at this;exact this,(Gr.refl T).mono (Nat.zero_le _),?_,e⟩
  have m:=lP (d:=d + 1) h1 (Nat.succ_pos d)
  exact⟨m.lt,m.srt,fun w=>by rw[m.val w,A.uniq B w,mB]⟩
 ·by_cases z:b < a
  ·refine iT (op:="=") (ts:=[b,a]) h0 (.cons B (.cons A .nil)) (by show 2≤100;decide) (fun z=>absurd z (by decide)) ⟨by decide,by decide,by decide⟩ (fun w=>(wY (g w) (f w)).trans (by rw[hs w])) fun l=>?_
   show eqP _ _ _=_
   unfold eqP mn mx
   rw[dR l A.lt,A.srt,dR l B.lt,B.srt,if_pos rfl,if_neg q,if_pos z,if_neg (Nat.not_lt.mpr (Nat.le_of_lt z))]
  ·have z2:b > a:=Nat.lt_of_le_of_ne (Nat.not_lt.mp z) q
   refine iT (op:="=") (ts:=[a,b]) h0 (.cons A (.cons B .nil)) (by show 2≤100;decide) (fun z=>absurd z (by decide)) ⟨by decide,by decide,by decide⟩ (fun w=>wY (f w) (g w)) fun l=>?_
   show eqP _ _ _=_
   unfold eqP mn mx
   rw[dR l A.lt,A.srt,dR l B.lt,B.srt,if_pos rfl,if_neg q,if_neg z,if_pos z2]
theorem Cv{T:List TK}{t:Nat}(h:srt T t ≠ 0):gQ T t=(none,T):=by
 unfold gQ
 cases q:T[t]? with
 | none=>rfl
 | some k=>rw[fh q]at h;dsimp only;rw[if_neg h]
theorem Ar{d:Nat}{T:List TK}{t:Nat}{f:Wo→Bool}(O:oOk T) (h1:T[1]? = some (tk "true" [] 0)) (h2:T[2]? = some (tk "false" [] 0)) (hs:∀ (k:TK) (u:Nat),T[t]? = some k→k.1=CW "not"→k.2.1=[(u:Int)]→srt T u=0) (A:Mn d T t 0 fun w=>.b (f w)):YesP (fun T=>gQ T t) (d + 1) 1 T 0 fun w=>.b !(f w):=by
 refine byC fun kq=>?_
 obtain⟨k,hk⟩:∃ k,T[t]? = some k:=⟨_,C0 A.lt⟩
 refine kq ?_;try clear kq
 have ks:k.2.2.1=0:=(fh hk).symm.trans A.srt
 have hk':∀ l,(T++l)[t]? = some k:=fun l=>by rw[List.getElem?_append_left A.lt];exact hk
 have h0:0 < T.length:=Dc (Nat.zero_le _) A.lt
 have nil:∀ {n:Nat},(∀ l,gQ (T++l) t=(some n,T++l))→gQ T t=(some n,T):=fun h=>by have:=h [];rw[List.append_nil]at this;exact this
 by_cases q:k.1=CW "not"
 ·refine byC fun kq=>?_
  obtain⟨u,hu⟩:=(O k (List.mem_of_getElem? hk)).2 q
  refine kq ?_;try clear kq
  have e:∀ l,gQ (T++l) t=(some u,T++l):=fun l=>by unfold gQ;rw[hk' l];dsimp only;rw[if_pos ks,if_pos q,hu];rfl
  have ev:∀ w:Wo,cJ (d + 1) T w.w u=some (.b !(f w)):=fun w=>by
   have v:=A.val w
   cases d with
   | zero=>cases v
   | succ d=>
    refine byC fun kq=>?_
    obtain⟨k',hk2,v⟩:=jb v
    refine kq ?_;try clear kq
    rw[hk]at hk2
    cases hk2
    cases v with
    | tru e _=>exact absurd (q.symm.trans e) (bX (by decide))
    | fls _ e _=>exact absurd (q.symm.trans e) (bX (by decide))
    | app _ _ e _=>exact absurd (q.symm.trans e) (bX (by decide))
    | op _ _ _ vs hs ho=>
     rw[hu]at hs
     rw[q]at ho
     unfold eT at hs
     rw[Di]at hs
     cases q2:cJ d T w.w u with
     | none=>rw[q2]at hs;cases hs
     | some x=>
      rw[q2]at hs
      cases hs
      have:=mC [] d (C9 d 2) q2
      rw[List.append_nil]at this
      rw[this,qS ho]
  have ul:u < T.length:=by
   have:=ev ⟨fun _=>false,fun _=>0⟩
   refine byC fun kq=>?_
   obtain⟨k,q3,_⟩:=jb this
   refine kq ?_;try clear kq
   exact(List.getElem?_eq_some_iff.mp q3).1
  exact⟨u,T,nil e,(Gr.refl T).mono (Nat.zero_le _),⟨ul,hs k u hk q hu,ev⟩,e⟩
 ·by_cases q1:t=1
  ·have e:∀ l,gQ (T++l) t=(some 2,T++l):=fun l=>by unfold gQ;rw[hk' l];dsimp only;rw[if_pos ks,if_neg q,if_pos q1]
   have m:=mH (d:=d + 1) h2 (Nat.succ_pos d)
   have a:=A.le (Nat.le_succ d)
   refine⟨2,T,nil e,(Gr.refl T).mono (Nat.zero_le _),⟨m.lt,m.srt,fun w=>?_⟩,e⟩
   have:=(q1 ▸ a).uniq (lP (d:=d + 1) h1 (Nat.succ_pos d)) w
   rw[m.val w,W.b.inj this];rfl
  ·by_cases q2:t=2
   ·have e:∀ l,gQ (T++l) t=(some 1,T++l):=fun l=>by unfold gQ;rw[hk' l];dsimp only;rw[if_pos ks,if_neg q,if_neg q1,if_pos q2]
    have m:=lP (d:=d + 1) h1 (Nat.succ_pos d)
    have a:=A.le (Nat.le_succ d)
    refine⟨1,T,nil e,(Gr.refl T).mono (Nat.zero_le _),⟨m.lt,m.srt,fun w=>?_⟩,e⟩
    have:=(q2 ▸ a).uniq (mH (d:=d + 1) h2 (Nat.succ_pos d)) w
    rw[m.val w,W.b.inj this];rfl
   ·exact iT (op:="not") h0 (.cons A .nil) (by show 1≤100;decide) (fun _=>⟨t,rfl⟩) ⟨by decide,by decide,by decide⟩ (fun w=>tR (f w)) fun l=>by unfold gQ;rw[hk' l];dsimp only;rw[if_pos ks,if_neg q,if_neg q1,if_neg q2]
inductive BMns (d:Nat) (T:List TK):List Nat→List (Wo→Bool)→Prop where
 | nil:BMns d T [] []
 | cons {n ns f fs}:Mn d T n 0 (fun w=>.b (f w))→BMns d T ns fs→BMns d T (n::ns) (f::fs)
theorem BMns.mns{d:Nat}{T:List TK}{ns:List Nat}{fs:List (Wo→Bool)}(x:BMns d T ns fs):Mns d T ns (fs.map fun f w=>W.b (f w)):=by
 induction x with
 | nil=>exact .nil
 | cons h _ ih=>exact .cons h ih
theorem BMns.mem{d:Nat}{T:List TK}{ns:List Nat}{fs:List (Wo→Bool)}(x:BMns d T ns fs):∀ t∈ns,t < T.length∧srt T t=0:=by
 induction x with
 | nil=>exact fun t h=>by cases h
 | cons h _ ih=>
  intro t ht
  rcases List.mem_cons.mp ht with rfl|ht
  ·exact⟨h.lt,h.srt⟩
  ·exact ih t ht
theorem BMns.gr{c d d':Nat}{T T':List TK}{ns:List Nat}{fs:List (Wo→Bool)}(x:BMns d T ns fs) (g:Gr c T T') (h:d≤d'):BMns d' T' ns fs:=by
 refine byC fun kq=>?_
 obtain⟨t,e,_,_⟩:=g.app
 refine kq ?_;try clear kq
 subst e
 induction x with
 | nil=>exact .nil
 | cons a _ ih=>exact .cons (a.app t h) ih
theorem BMns.len{d:Nat}{T:List TK}{ns:List Nat}{fs:List (Wo→Bool)}(x:BMns d T ns fs):ns.length=fs.length:=by
 induction x with
 | nil=>rfl
 | cons _ _ ih=>rw[Df,Df,ih]
theorem zl(vs:List W):opW (CW "and") vs=some (.b !(vs.any fun y=>eqW y (.b false))):=by
 unfold opW
 rw[if_neg (bX (by decide)),if_neg (bX (by decide)),if_pos rfl]
theorem Bd(vs:List W):opW (CW "or") vs=some (.b (vs.any fun y=>eqW y (.b true))):=by
 unfold opW
 rw[if_neg (bX (by decide)),if_neg (bX (by decide)),if_neg (bX (by decide)),if_pos rfl]
theorem wX(vs:List W):opW (CW "distinct") vs=some (.b (fE (fun pre v=>pre.any fun y=>eqW y v) [] vs == 0)):=by
 unfold opW
 rw[if_neg (bX (by decide)),if_neg (bX (by decide)),if_neg (bX (by decide)),if_neg (bX (by decide)),if_neg (bX (by decide)),if_neg (bX (by decide)),if_neg (bX (by decide)),if_pos rfl]
theorem AM(x:Bool):eqW (.b x) (.b false)=!x:=by cases x<;>rfl
theorem AN(x:Bool):eqW (.b x) (.b true)=x:=by cases x<;>rfl
theorem BR(fs:List (Wo→Bool)) (w:Wo):(!((fs.map fun f w=>W.b (f w)).map fun f=>f w).any fun y=>eqW y (.b false))=fs.all fun f=>f w:=by
 induction fs with
 | nil=>rfl
 | cons f r ih=>rw[List.map_cons,List.map_cons,List.any_cons,List.all_cons,← ih,AM,Bool.not_or,Bool.not_not]
theorem BS(fs:List (Wo→Bool)) (w:Wo):(((fs.map fun f w=>W.b (f w)).map fun f=>f w).any fun y=>eqW y (.b true))=fs.any fun f=>f w:=by
 induction fs with
 | nil=>rfl
 | cons f r ih=>rw[List.map_cons,List.map_cons,List.any_cons,List.any_cons,← ih,AN]
theorem BQ{d e:Nat}{T:List TK}{op:String}{ts:List Nat}{fs:List (Wo→Bool)}{z:Wo→Bool}(h0:0 < T.length) (X:BMns d T ts fs) (hl:ts.length≤100) (hop:op ≠ "true"∧op ≠ "false"∧op ≠ "app") (hn:op ≠ "not") (E:fs=[]→Mn (d + 1) T e 0 fun w=>.b (z w)) (h1:∀ f,fs=[f]→z=f)
  (hv:∀ w,opW (CW op) ((fs.map fun f w=>W.b (f w)).map fun f=>f w)=some (.b (z w))):YesP (fun T=>anP op e T ts) (d + 1) 1 T 0 fun w=>.b (z w):=by
 have al:=fun l=>oB l X.mem
 have M:=X.mns
 cases X with
 | nil=>
  have p:∀ l,anP op e (T++l) []=(some e,T++l):=fun l=>if_pos (al l)
  exact⟨e,T,by have:=p [];rw[List.append_nil]at this;exact this,(Gr.refl T).mono (Nat.zero_le _),E rfl,p⟩
 | cons a r=>cases r with
  | nil=>
   have p:∀ l,anP op e (T++l) [_]=(some _,T++l):=fun l=>if_pos (al l)
   exact⟨_,T,by have:=p [];rw[List.append_nil]at this;exact this,(Gr.refl T).mono (Nat.zero_le _),by rw[h1 _ rfl];exact a.le (Nat.le_succ d),p⟩
  | cons b r=>exact iT (op:=op) h0 M hl (fun q=>absurd q hn) hop hv fun l=>if_pos (al l)
theorem BP{T:List TK}{op:String}{e t:Nat}{ts:List Nat}(ht:t∈ts) (h:srt T t ≠ 0):anP op e T ts=(none,T):=by
 unfold anP
 rw[if_neg]
 rw[kx ht h];exact Bool.false_ne_true
theorem Ah{d:Nat}{T:List TK}{ts:List Nat}{fs:List (Wo→Bool)}(h1:T[1]? = some (tk "true" [] 0)) (X:BMns d T ts fs) (hl:ts.length≤100):YesP (fun T=>anP "and" 1 T ts) (d + 1) 1 T 0 fun w=>.b (fs.all fun f=>f w):=
 BQ (Dc (Nat.zero_le _) (List.getElem?_eq_some_iff.mp h1).1) X hl ⟨by decide,by decide,by decide⟩ (by decide) (fun e=>by rw[e];exact lP h1 (Nat.succ_pos d)) (fun f e=>by rw[e];exact funext fun w=>Bool.and_true (f w)) fun w=>by rw[zl,BR]
theorem CT{d:Nat}{T:List TK}{ts:List Nat}{fs:List (Wo→Bool)}(h2:T[2]? = some (tk "false" [] 0)) (X:BMns d T ts fs) (hl:ts.length≤100):YesP (fun T=>anP "or" 2 T ts) (d + 1) 1 T 0 fun w=>.b (fs.any fun f=>f w):=
 BQ (Dc (Nat.zero_le _) (List.getElem?_eq_some_iff.mp h2).1) X hl ⟨by decide,by decide,by decide⟩ (by decide) (fun e=>by rw[e];exact mH h2 (Nat.succ_pos d)) (fun f e=>by rw[e];exact funext fun w=>Bool.or_false (f w)) fun w=>by rw[Bd,BS]
theorem AK{d:Nat}{T:List TK}{ts:List Nat}{fs:List (Wo→W)}{s:Int}(h0:0 < T.length) (X:Mns d T ts fs) (hs:∀ t∈ts,t < T.length∧srt T t=s) (hne:ts ≠ []) (hl:ts.length≤100):YesP (fun T=>mr T ts) (d + 1) 1 T 0 fun w=>.b (fE (fun pre v=>pre.any fun y=>eqW y v) [] (fs.map fun f=>f w) == 0):=
 iT (op:="distinct") h0 X hl (fun q=>absurd q (by decide)) ⟨by decide,by decide,by decide⟩ (fun w=>wX _) fun l=>if_pos (by
  cases ts with
  | nil=>exact absurd rfl hne
  | cons t r=>
   have:=hs t (CY ..)
   show gI (T++l) (t::r) (srt (T++l) t)=true
   rw[dR l this.1,this.2]
   exact oB l hs)
theorem AJ{T:List TK}{t:Nat}{ts:List Nat}(ht:t∈ts) (h:srt T t ≠ srt T (ts.headD 0)):mr T ts=(none,T):=by
 unfold mr
 rw[if_neg]
 rw[kx ht h];exact Bool.false_ne_true
noncomputable def Ty(d:Nat) (T:List TK) (t:Nat):Prop:=∃ s f,Mn d T t s f∧(s=0→∃ g:Wo→Bool,f=fun w=>.b (g w))
theorem Ty.gr{c d d':Nat}{T T':List TK}{t:Nat}(x:Ty d T t) (g:Gr c T T') (h:d≤d'):Ty d' T' t:=by
 refine byC fun kq=>?_
 obtain⟨s,f,a,b⟩:=x
 obtain⟨u,e,_,_⟩:=g.app
 refine kq ?_;try clear kq
 exact⟨s,f,e ▸ a.app u h,b⟩
noncomputable def Stp(P:List TK→Nat→Nat→PR) (op:Bool→Bool→Bool):Prop:=∀ {d:Nat}{T:List TK}{a t:Nat}{f g:Wo→Bool},0 < T.length→Mn d T a 0 (fun w=>.b (f w))→Mn d T t 0 (fun w=>.b (g w))→YesP (fun T=>P T a t) (d + 1) 1 T 0 fun w=>.b (op (f w) (g w))
theorem wA{P:List TK→Nat→Nat→PR}{op:Bool→Bool→Bool}(hP:Stp P op) (r:List Nat):∀ {d:Nat}{T:List TK}{a:Nat}{f:Wo→Bool}{gs:List (Wo→Bool)},Mn d T a 0 (fun w=>.b (f w))→BMns d T r gs→
  YesP (fun T=>dk P T a r) (d + r.length) r.length T 0 fun w=>.b (gs.foldl (fun x g=>op x (g w)) (f w)):=by
 induction r with
 | nil=>intro d T a f gs A X;cases X;exact⟨a,T,rfl,.refl T,A,fun _=>rfl⟩
 | cons t r ih=>
  intro d T a f gs A X
  cases X with
  | @cons _ _ g gs B X=>
   refine byC fun kq=>?_
   obtain⟨n,T1,e1,g1,m1,i1⟩:=hP (Dc (Nat.zero_le _) A.lt) A B
   obtain⟨n',T2,e2,g2,m2,i2⟩:=ih m1 (X.gr g1 (Nat.le_succ d))
   refine kq ?_;try clear kq
   have q:∀ T,P T a t=(some n,T)∨P T a t=(some n,T1)→True:=fun _ _=>trivial
   have hd:d + (t::r).length=d + 1 + r.length:=by rw[Df,Nat.add_comm r.length,Dh]
   refine⟨n',T2,?_,(g1.trans g2).mono (Nat.le_of_eq (Nat.add_comm 1 _)),by rw[hd];exact m2,fun l=>?_⟩
   ·show dk P T a (t::r)=_
    unfold dk
    rw[show P T a t=(some n,T1) from e1]
    exact e2
   ·refine byC fun kq=>?_
    obtain⟨u,hu,_,_⟩:=g2.app
    refine kq ?_;try clear kq
    show dk P (T2++l) a (t::r)=_
    have:=i1 (u++l)
    rw[← List.append_assoc,← hu]at this
    unfold dk
    rw[show P (T2++l) a t=(some n,T2++l) from this]
    exact i2 l
theorem wz{P:List TK→Nat→Nat→PR}{op:Bool→Bool→Bool}(hP:Stp P op) (hN:∀ {T a t},srt T a ≠ 0∨srt T t ≠ 0→P T a t=(none,T)) (r:List Nat):∀ {d:Nat}{T:List TK}{a:Nat}{f:Wo→Bool},Mn d T a 0 (fun w=>.b (f w))→(∀ t∈r,Ty d T t)→(∃ t∈r,srt T t ≠ 0)→
  ∃ T1,dk P T a r=(none,T1)∧Gr r.length T T1:=by
 induction r with
 | nil=>intro d T a f _ _ h;obtain⟨t,h,_⟩:=h;cases h
 | cons t r ih=>
  intro d T a f A X h
  by_cases q:srt T t=0
  ·refine byC fun kq=>?_
   obtain⟨s,v,B,hb⟩:=X t (CY ..)
   have hs:s=0:=B.srt.symm.trans q
   obtain⟨g,hg⟩:=hb hs
   refine kq ?_;try clear kq
   subst hs hg
   refine byC fun kq=>?_
   obtain⟨n,T1,e1,g1,m1,i1⟩:=hP (Dc (Nat.zero_le _) A.lt) A B
   obtain⟨u,hu,hn⟩:=h
   have hu':u∈r:=(List.mem_cons.mp hu).resolve_left fun z=>hn (z ▸ q)
   have X':∀ t∈r,Ty (d + 1) T1 t:=fun t ht=>(X t (CZ _ ht)).gr g1 (Nat.le_succ d)
   have hn':srt T1 u ≠ 0:=by
    obtain⟨_,_,M,_⟩:=X u hu
    obtain⟨l,e,_,_⟩:=g1.app
    rw[e,dR l M.lt];exact hn
   obtain⟨T2,e2,g2⟩:=ih m1 X' ⟨u,hu',hn'⟩
   refine kq ?_;try clear kq
   refine⟨T2,?_,(g1.trans g2).mono (Nat.le_of_eq (Nat.add_comm 1 _))⟩
   unfold dk
   rw[show P T a t=(some n,T1) from e1]
   exact e2
  ·refine⟨T,?_,(Gr.refl T).mono (Nat.zero_le _)⟩
   unfold dk
   rw[hN (.inr q)]
theorem mA(x y:W):eqW x y=eqW y x:=by
 cases x with
 | b x=>cases y with
  | b y=>cases x<;>cases y<;>rfl
  | i y=>cases x<;>exact Bool.beq_comm ..
 | i x=>cases y with
  | b y=>cases y<;>exact Bool.beq_comm ..
  | i y=>exact Bool.beq_comm ..
inductive PMs (d:Nat) (T:List TK):List (Nat × Nat)→List (Wo→Bool)→Prop where
 | nil:PMs d T [] []
 | cons {a b s f g ps gs}:Mn d T a s f→Mn d T b s g→PMs d T ps gs→PMs d T ((a,b)::ps) ((fun w=>eqW (f w) (g w))::gs)
theorem PMs.gr{c d:Nat}{T T':List TK}{ps:List (Nat × Nat)}{gs:List (Wo→Bool)}(x:PMs d T ps gs) (g:Gr c T T'):PMs d T' ps gs:=by
 induction x with
 | nil=>exact .nil
 | cons a b _ ih=>exact .cons (a.gr g) (b.gr g) ih
theorem pS{c:Nat}{T T':List TK}{n:Nat}{k:TK}(h:T[n]? = some k) (g:Gr c T T'):T'[n]? = some k:=by
 refine byC fun kq=>?_
 obtain⟨t,e,_,_⟩:=g.app
 refine kq ?_;try clear kq
 rw[e,List.getElem?_append_left (List.getElem?_eq_some_iff.mp h).1];exact h
theorem Cc{d:Nat}(ps:List (Nat × Nat)):∀ {T:List TK}{gs:List (Wo→Bool)},T[1]? = some (tk "true" [] 0)→PMs d T ps gs→
  ∃ ns T1,fH T ps=(some ns,T1)∧Gr ps.length T T1∧BMns (d + 1) T1 ns gs∧∀ l,fH (T1++l) ps=(some ns,T1++l):=by
 induction ps with
 | nil=>intro T gs _ X;cases X;exact⟨[],T,rfl,.refl T,.nil,fun _=>rfl⟩
 | cons p r ih=>
  intro T gs h1 X
  cases X with
  | cons A B X=>
   refine byC fun kq=>?_
   obtain⟨n,T1,e1,g1,m1,i1⟩:=AP (fun w=>mA _ _) h1 A B
   obtain⟨ns,T2,e2,g2,m2,i2⟩:=ih (pS h1 g1) (X.gr g1)
   refine kq ?_;try clear kq
   refine⟨n::ns,T2,?_,(g1.trans g2).mono (Nat.le_of_eq (Nat.add_comm 1 _)),.cons (m1.gr g2) m2,fun l=>?_⟩
   ·unfold fH
    rw[show eqP T _ _=(some n,T1) from e1]
    dsimp only
    rw[e2];rfl
   ·refine byC fun kq=>?_
    obtain⟨u,hu,_,_⟩:=g2.app
    refine kq ?_;try clear kq
    have:=i1 (u++l)
    rw[← List.append_assoc,← hu]at this
    unfold fH
    rw[show eqP (T2++l) _ _=(some n,T2++l) from this]
    dsimp only
    rw[i2 l];rfl
theorem xT{c d:Nat}{T T':List TK}{t:Nat}(x:Ty d T t) (g:Gr c T T'):srt T' t=srt T t:=by
 refine byC fun kq=>?_
 obtain⟨_,_,M,_⟩:=x
 obtain⟨l,e,_,_⟩:=g.app
 refine kq ?_;try clear kq
 rw[e,dR l M.lt]
theorem Cb{d:Nat}(ps:List (Nat × Nat)):∀ {T:List TK},T[1]? = some (tk "true" [] 0)→(∀ p∈ps,Ty d T p.1∧Ty d T p.2)→(∃ p∈ps,srt T p.2 ≠ srt T p.1)→
  ∃ T1,fH T ps=(none,T1)∧Gr ps.length T T1:=by
 induction ps with
 | nil=>intro T _ _ h;obtain⟨p,h,_⟩:=h;cases h
 | cons p r ih=>
  intro T h1 X h
  by_cases q:srt T p.2=srt T p.1
  ·refine byC fun kq=>?_
   obtain⟨⟨s,f,A,_⟩,⟨s',g,B,_⟩⟩:=X p (CY ..)
   refine kq ?_;try clear kq
   have hs:s'=s:=B.srt.symm.trans (q.trans A.srt)
   subst hs
   refine byC fun kq=>?_
   obtain⟨n,T1,e1,g1,m1,i1⟩:=AP (fun w=>mA _ _) h1 A B
   obtain⟨u,hu,hn⟩:=h
   refine kq ?_;try clear kq
   have hu':u∈r:=(List.mem_cons.mp hu).resolve_left fun z=>hn (z ▸ q)
   have X':=X u hu
   obtain⟨T2,e2,g2⟩:=ih (pS h1 g1) (fun p hp=>⟨(X p (CZ _ hp)).1.gr g1 (Nat.le_refl d),(X p (CZ _ hp)).2.gr g1 (Nat.le_refl d)⟩) ⟨u,hu',by rw[xT X'.1 g1,xT X'.2 g1];exact hn⟩
   refine⟨T2,?_,(g1.trans g2).mono (Nat.le_of_eq (Nat.add_comm 1 _))⟩
   unfold fH
   rw[show eqP T p.1 p.2=(some n,T1) from e1]
   dsimp only
   rw[e2];rfl
  ·refine⟨T,?_,(Gr.refl T).mono (Nat.zero_le _)⟩
   unfold fH
   rw[B5 q]
noncomputable def ui:List W→Bool
 | u::v::r=>eqW u v && ui (v::r)
 | _=>true
theorem Bf{d:Nat}{T:List TK}{s:Int}(ts:List Nat):∀ {fs:List (Wo→W)},Mns d T ts fs→(∀ t∈ts,srt T t=s)→∃ gs,PMs d T (ts.zip (ts.drop 1)) gs∧∀ w,(gs.all fun g=>g w)=ui (fs.map fun f=>f w):=by
 induction ts with
 | nil=>intro fs X _;cases X;exact⟨[],.nil,fun _=>rfl⟩
 | cons t r ih=>
  intro fs X hs
  cases X with
  | @cons _ _ s1 f fs A X=>
   cases X with
   | nil=>exact⟨[],.nil,fun _=>rfl⟩
   | @cons u r s2 g fs B X=>
    refine byC fun kq=>?_
    obtain⟨gs,p,q⟩:=ih (.cons B X) (fun t ht=>hs t (CZ _ ht))
    refine kq ?_;try clear kq
    have ha:s1=s:=A.srt.symm.trans (hs t (CY ..))
    have hb:s2=s:=B.srt.symm.trans (hs u (CZ _ (CY ..)))
    subst ha hb
    exact⟨_,.cons A B p,fun w=>by show(eqW (f w) (g w) && gs.all fun g=>g w)=_;rw[q w];rfl⟩
theorem BZ{d:Nat}{T:List TK}{ts:List Nat}{fs:List (Wo→W)}{s:Int}(h1:T[1]? = some (tk "true" [] 0)) (X:Mns d T ts fs) (hs:∀ t∈ts,srt T t=s) (hl:ts.length≤100):YesP (fun T=>eqC T ts) (d + 2) (ts.length + 1) T 0 fun w=>.b (ui (fs.map fun f=>f w)):=by
 refine byC fun kq=>?_
 obtain⟨gs,p,q⟩:=Bf ts X hs
 have hz:(ts.zip (ts.drop 1)).length≤ts.length:=by rw[List.length_zip];exact Nat.min_le_left _ _
 obtain⟨ns,T1,e1,g1,m1,i1⟩:=Cc _ h1 p
 have hn:ns.length≤100:=CX (Nat.le_of_eq (tF _ (by rw[e1]))) (CX hz hl)
 obtain⟨n,T2,e2,g2,m2,i2⟩:=Ah (pS h1 g1) m1 hn
 refine kq ?_;try clear kq
 refine⟨n,T2,?_,(g1.trans g2).mono (Db hz 1),⟨m2.lt,m2.srt,fun w=>by rw[m2.val w,q w]⟩,fun l=>?_⟩
 ·show eqC T ts=_
  unfold eqC;rw[e1];exact e2
 ·refine byC fun kq=>?_
  obtain⟨u,hu,_,_⟩:=g2.app
  refine kq ?_;try clear kq
  have:=i1 (u++l)
  rw[← List.append_assoc,← hu]at this
  show eqC _ ts=_
  unfold eqC;rw[this];exact i2 l
theorem BY{d:Nat}{T:List TK}{ts:List Nat}(h1:T[1]? = some (tk "true" [] 0)) (X:∀ t∈ts,Ty d T t) (h:∃ p∈ts.zip (ts.drop 1),srt T p.2 ≠ srt T p.1):∃ T1,eqC T ts=(none,T1)∧Gr (ts.length + 1) T T1:=by
 have hz:(ts.zip (ts.drop 1)).length≤ts.length:=by rw[List.length_zip];exact Nat.min_le_left _ _
 refine byC fun kq=>?_
 obtain⟨T1,e,g⟩:=Cb _ h1 (fun p hp=>⟨X _ (List.of_mem_zip hp).1,X _ (List.mem_of_mem_drop (List.of_mem_zip hp).2)⟩) h
 refine kq ?_;try clear kq
 exact⟨T1,by unfold eqC;rw[e],g.mono (CX hz (Nat.le_succ _))⟩
theorem Gr.oOk{c:Nat}{T T':List TK}(g:Gr c T T') (O:oOk T):oOk T':=by
 refine byC fun kq=>?_
 obtain⟨t,e,_,h⟩:=g.app
 refine kq ?_;try clear kq
 intro k hk
 rw[e]at hk
 rcases List.mem_append.mp hk with hk|hk
 ·exact O k hk
 ·exact⟨(h k hk).op,(h k hk).one⟩
theorem Gr.aOk{c:Nat}{T T':List TK}(g:Gr c T T') (A:aOk T):aOk T':=by
 refine byC fun kq=>?_
 obtain⟨t,e,_,h⟩:=g.app
 refine kq ?_;try clear kq
 intro k hk
 rw[e]at hk
 rcases List.mem_append.mp hk with hk|hk
 ·exact A k hk
 ·exact⟨(h k hk).nat,(h k hk).len⟩
theorem B9{T T1:List TK}{a b n:Nat}(h1:T[1]? = some (tk "true" [] 0)) (e:eqP T a b=(some n,T1)):∃ k,T1[n]? = some k∧k.1 ≠ CW "not":=by
 unfold eqP at e
 by_cases h:srt T b=srt T a
 ·rw[if_pos h]at e
  by_cases h':a=b
  ·rw[if_pos h']at e;cases e;exact⟨_,h1,bX (by decide)⟩
  ·rw[if_neg h']at e;cases e;exact⟨_,(wS (Dc (Nat.zero_le _) (List.getElem?_eq_some_iff.mp h1).1) _).2,bX (by decide)⟩
 ·rw[if_neg h]at e;cases e
theorem wo{d:Nat}{T:List TK}{a b:Nat}{s:Int}{f g:Wo→W}(O:oOk T) (h1:T[1]? = some (tk "true" [] 0)) (h2:T[2]? = some (tk "false" [] 0)) (A:Mn d T a s f) (B:Mn d T b s g):YesP (fun T=>jZ T [a,b]) (d + 2) 2 T 0 fun w=>.b !(eqW (f w) (g w)):=by
 refine byC fun kq=>?_
 obtain⟨n,T1,e1,g1,m1,i1⟩:=AP (fun w=>mA _ _) h1 A B
 obtain⟨k,hk,hno⟩:=B9 h1 e1
 obtain⟨n',T2,e2,g2,m2,i2⟩:=Ar (g1.oOk O) (pS h1 g1) (pS h2 g1) (fun k' u h' q _=>by rw[hk]at h';cases h';exact absurd q hno) m1
 refine kq ?_;try clear kq
 refine⟨n',T2,?_,g1.trans g2,m2,fun l=>?_⟩
 ·show jZ T [a,b]=_
  unfold jZ;dsimp only;rw[show eqP T a b=(some n,T1) from e1];exact e2
 ·refine byC fun kq=>?_
  obtain⟨u,hu,_,_⟩:=g2.app
  refine kq ?_;try clear kq
  have:=i1 (u++l)
  rw[← List.append_assoc,← hu]at this
  show jZ _ [a,b]=_
  unfold jZ;dsimp only;rw[show eqP (T2++l) a b=(some n,T2++l) from this];exact i2 l
theorem wn{T:List TK}{a b:Nat}(h:srt T b ≠ srt T a):jZ T [a,b]=(none,T):=by
 unfold jZ;dsimp only;rw[B5 h]
noncomputable def fq:List TK:=[(CW "",[],0,0),tk "true" [] 0,tk "false" [] 0,(CW "app",[],0,0),(CW "app",[],0,1),(CW "app",[],0,2),(CW "app",[],3,3),(CW "app",[],3,4),(CW "app",[],3,5),(CW "app",[],4,6),tk "not" [3] 0]
noncomputable def fV:List Nat:=[3,4,5,10,1,6,7,8,9]
noncomputable def sN:Nat→Nat
 | 6=>3|7=>3|8=>3|9=>4|_=>0
noncomputable def bB(t:Nat) (w:Wo):Bool:=match t with
 | 1=>true
 | 10=>!(w.b 3)
 | t=>w.b t
noncomputable def iB(t:Nat) (w:Wo):Int:=match t with
 | 9=>0
 | t=>w.i t
noncomputable def vB(t:Nat) (w:Wo):W:=if sN t=0 then .b (bB t w)else .i (iB t w)
theorem yd{t:Nat}(h:sN t=0):vB t=fun w=>.b (bB t w):=funext fun w=>if_pos h
theorem pV:oOk fq:=by
 intro k hk
 have h:∀ x:String,x ≠ "not"→k.1=CW x→(∃ x:String,k.1=CW x)∧(k.1=CW "not"→∃ u:Nat,k.2.1=[(u:Int)]):=fun x hx e=>⟨⟨x,e⟩,fun q=>absurd (e.symm.trans q) (bX hx)⟩
 unfold fq at hk
 rcases List.mem_cons.mp hk with e|hk;· exact h "" (by decide) (by rw[e])
 rcases List.mem_cons.mp hk with e|hk;· exact h "true" (by decide) (by rw[e])
 rcases List.mem_cons.mp hk with e|hk;· exact h "false" (by decide) (by rw[e])
 rcases List.mem_cons.mp hk with e|hk;· exact h "app" (by decide) (by rw[e])
 rcases List.mem_cons.mp hk with e|hk;· exact h "app" (by decide) (by rw[e])
 rcases List.mem_cons.mp hk with e|hk;· exact h "app" (by decide) (by rw[e])
 rcases List.mem_cons.mp hk with e|hk;· exact h "app" (by decide) (by rw[e])
 rcases List.mem_cons.mp hk with e|hk;· exact h "app" (by decide) (by rw[e])
 rcases List.mem_cons.mp hk with e|hk;· exact h "app" (by decide) (by rw[e])
 rcases List.mem_cons.mp hk with e|hk;· exact h "app" (by decide) (by rw[e])
 rw[List.mem_singleton.mp hk]
 exact⟨⟨"not",rfl⟩,fun _=>⟨3,rfl⟩⟩
theorem nZ:∀ t∈fV,Mn 3 fq t (sN t:Int) (vB t):=by
 unfold fV
 refine List.forall_mem_cons.mpr ⟨⟨Nat.le_of_ble_eq_true rfl,rfl,fun w=>by kernel_rfl⟩,?_⟩
 refine List.forall_mem_cons.mpr ⟨⟨Nat.le_of_ble_eq_true rfl,rfl,fun w=>by kernel_rfl⟩,?_⟩
 refine List.forall_mem_cons.mpr ⟨⟨Nat.le_of_ble_eq_true rfl,rfl,fun w=>by kernel_rfl⟩,?_⟩
 refine List.forall_mem_cons.mpr ⟨⟨Nat.le_of_ble_eq_true rfl,rfl,fun w=>by kernel_rfl⟩,?_⟩
 refine List.forall_mem_cons.mpr ⟨⟨Nat.le_of_ble_eq_true rfl,rfl,fun w=>by kernel_rfl⟩,?_⟩
 refine List.forall_mem_cons.mpr ⟨⟨Nat.le_of_ble_eq_true rfl,rfl,fun w=>by kernel_rfl⟩,?_⟩
 refine List.forall_mem_cons.mpr ⟨⟨Nat.le_of_ble_eq_true rfl,rfl,fun w=>by kernel_rfl⟩,?_⟩
 refine List.forall_mem_cons.mpr ⟨⟨Nat.le_of_ble_eq_true rfl,rfl,fun w=>by kernel_rfl⟩,?_⟩
 refine List.forall_mem_cons.mpr ⟨⟨Nat.le_of_ble_eq_true rfl,rfl,fun w=>by kernel_rfl⟩,?_⟩
 intro t h;cases h
structure Tm (T:List TK):Prop where
 app:∃ l,T=fq++l
 oOk:oOk T
 aOk:aOk T
theorem Tm.gr{c:Nat}{T T':List TK}(x:Tm T) (g:Gr c T T'):Tm T':=by
 refine byC fun kq=>?_
 obtain⟨l,e⟩:=x.app
 obtain⟨t,e',_,_⟩:=g.app
 refine kq ?_;try clear kq
 exact⟨⟨l++t,by rw[e',e,List.append_assoc]⟩,g.oOk x.oOk,g.aOk x.aOk⟩
theorem Tm.mn{T:List TK}(x:Tm T) {t:Nat}(h:t∈fV):Mn 3 T t (sN t:Int) (vB t):=by
 refine byC fun kq=>?_
 obtain⟨l,e⟩:=x.app
 refine kq ?_;try clear kq
 rw[e];exact(nZ t h).app l (Nat.le_refl _)
theorem Tm.ty{T:List TK}(x:Tm T) {t:Nat}(h:t∈fV):Ty 3 T t:=⟨_,_,x.mn h,fun z=>⟨_,yd (Int.ofNat.inj z)⟩⟩
theorem Tm.at{T:List TK}(x:Tm T) {n:Nat}{k:TK}(h:fq[n]? = some k):T[n]? = some k:=by
 refine byC fun kq=>?_
 obtain⟨l,e⟩:=x.app
 refine kq ?_;try clear kq
 rw[e,List.getElem?_append_left (List.getElem?_eq_some_iff.mp h).1];exact h
theorem Tm.t1{T:List TK}(x:Tm T):T[1]? = some (tk "true" [] 0):=x.at rfl
theorem Tm.t2{T:List TK}(x:Tm T):T[2]? = some (tk "false" [] 0):=x.at rfl
theorem Tm.mns{T:List TK}(x:Tm T) (ts:List Nat):(∀ t∈ts,t∈fV)→Mns 3 T ts (ts.map vB):=by
 induction ts with
 | nil=>exact fun _=>.nil
 | cons t r ih=>exact fun h=>.cons (x.mn (h t (CY ..))) (ih fun u hu=>h u (CZ _ hu))
theorem Tm.bmns{T:List TK}(x:Tm T) (ts:List Nat):(∀ t∈ts,t∈fV)→(∀ t∈ts,sN t=0)→BMns 3 T ts (ts.map bB):=by
 induction ts with
 | nil=>exact fun _ _=>.nil
 | cons t r ih=>
  intro h hz
  have z:=hz t (CY ..)
  have m:=x.mn (h t (CY ..))
  rw[yd z,z]at m
  exact .cons m (ih (fun u hu=>h u (CZ _ hu)) fun u hu=>hz u (CZ _ hu))
noncomputable def nW:W→Int
 | .b x=>cond x 1 0
 | .i x=>x
theorem B0(x y:W):eqW x y=(nW x == nW y):=by
 cases x with
 | b x=>cases y with
  | b y=>cases x<;>cases y<;>rfl
  | i y=>cases x<;>rfl
 | i x=>cases y with
  | b y=>cases y<;>rfl
  | i y=>rfl
theorem qr{x y:W}:eqW x y=true↔nW x=nW y:=by rw[B0];exact beq_iff_eq
theorem oG{bs:List Bool}:cT (bs.map W.b)=(bs.filter id).length:=by
 unfold cT
 induction bs with
 | nil=>rfl
 | cons b r ih=>cases b with
  | true=>exact congrArg Nat.succ ih
  | false=>exact ih
theorem hJ(a b:Nat):((a:Int) == (b:Int))=(a == b):=by
 cases h:a == b with
 | true=>rw[beq_iff_eq.mp h];exact beq_self_eq_true _
 | false=>exact beq_eq_false_iff_ne.mpr fun q=>(beq_eq_false_iff_ne.mp h) (Int.ofNat.inj q)
theorem AE(bs:List Bool):((cT (bs.map W.b):Int) == ((bs.map W.b).length:Int))=bs.all id:=by
 rw[hJ,oG,C4,Bool.eq_iff_iff,beq_iff_eq,List.length_filter_eq_length_iff,List.all_eq_true]
theorem v8(bs:List Bool):decide ((cT (bs.map W.b):Int) > 0)=bs.any id:=by
 rw[Bool.eq_iff_iff,decide_eq_true_eq,List.any_eq_true,oG]
 exact Int.natCast_pos.trans List.length_filter_pos_iff
theorem yC(bs:List Bool):((cT (bs.map W.b):Int) == 0)=!(bs.any id):=by
 have h:=v8 bs
 cases q:bs.any id with
 | true=>rw[q]at h;exact beq_eq_false_iff_ne.mpr fun z=>absurd (of_decide_eq_true h) (by rw[z];decide)
 | false=>
  rw[q]at h
  have:=of_decide_eq_false h
  exact beq_iff_eq.mpr (Int.le_antisymm (Int.not_lt.mp this) (Dj _))
theorem wZ(bs:List Bool):∀ b:Bool,bs.foldl (fun x y=>x != y) b=(b != ((bs.filter id).length % 2 == 1)):=by
 induction bs with
 | nil=>intro b;cases b<;>rfl
 | cons c r ih=>
  intro b
  rw[List.foldl_cons,ih]
  cases c with
  | false=>cases b<;>rfl
  | true=>
   show _=(b != (((r.filter id).length + 1) % 2 == 1))
   rcases Nat.mod_two_eq_zero_or_one (r.filter id).length with h|h
   ·rw[Nat.add_mod,h];cases b<;>rfl
   ·rw[Nat.add_mod,h];cases b<;>rfl
theorem AG(b:Bool) (bs:List Bool):((cT ((b::bs).map W.b):Int).fmod 2 == 1)=bs.foldl (fun x y=>x != y) b:=by
 have e:((cT ((b::bs).map W.b):Int).fmod 2 == 1)=(((b::bs).filter id).length % 2 == 1):=by
  rw[oG,Int.fmod_eq_emod_of_nonneg _ (by decide)]
  exact hJ (((b::bs).filter id).length % 2) 1
 rw[e,wZ]
 cases b with
 | false=>
  show((bs.filter id).length % 2 == 1)=_
  cases (bs.filter id).length % 2 == 1<;>rfl
 | true=>
  show(((bs.filter id).length + 1) % 2 == 1)=_
  rcases Nat.mod_two_eq_zero_or_one (bs.filter id).length with h|h
  ·rw[Nat.add_mod,h];rfl
  ·rw[Nat.add_mod,h];rfl
theorem wE(bs:List Bool):∀ b:Bool,bs.foldl (fun x y=>x || !y) b=(b || !(bs.all id)):=by
 induction bs with
 | nil=>intro b;cases b<;>rfl
 | cons c r ih=>intro b;rw[List.foldl_cons,ih,List.all_cons];cases b<;>cases c<;>rfl
theorem yx(bs:List Bool):bs.reverse.all id=bs.all id:=List.all_reverse
theorem AF(bs:List Bool) (l:Bool):(decide ((cT ((bs++[l]).map W.b):Int) < (((bs++[l]).map W.b).length:Int) - 1) || l)=bs.reverse.foldl (fun x y=>x || !y) l:=by
 rw[wE,yx]
 cases l with
 | true=>rw[Bool.or_true,Bool.true_or]
 | false=>
  rw[Bool.or_false,Bool.false_or,oG,C4,List.filter_append,C1,C1]
  show decide (((bs.filter id).length + 0:Int) < ((bs.length + 1:Nat):Int) - 1)=_
  have h1:((bs.length + 1:Nat):Int) - 1=(bs.length:Int):=by rw[Int.natCast_add];exact Int.add_sub_cancel _ _
  rw[h1,Int.add_zero]
  have h2:(bs.filter id).length≤bs.length:=List.length_filter_le ..
  cases q:bs.all id with
  | true=>
   rw[List.length_filter_eq_length_iff.mpr (List.all_eq_true.mp q)]
   exact decide_eq_false (Int.lt_irrefl _)
  | false=>
   refine decide_eq_true (Int.ofNat_lt.mpr (Nat.lt_of_le_of_ne h2 fun z=>?_))
   rw[List.all_eq_true.mpr (List.length_filter_eq_length_iff.mp z)]at q
   cases q
theorem uw(t:List W→W→Bool) (r:List W):∀ pre,fE t pre r + fE (fun p v=>!(t p v)) pre r=r.length:=by
 induction r with
 | nil=>exact fun _=>rfl
 | cons v r ih=>
  intro pre
  unfold fE
  rw[Nat.add_add_add_comm,ih,Df,Nat.add_comm]
  cases t pre v<;>rfl
theorem ms(vs:List W):((dn vs:Int) == (vs.length:Int))=(fE (fun pre v=>pre.any fun y=>eqW y v) [] vs == 0):=by
 have h:=uw (fun pre v=>pre.any fun y=>eqW y v) vs []
 have h:fE (fun pre v=>pre.any fun y=>eqW y v) [] vs + dn vs=vs.length:=h
 rw[hJ,Bool.eq_iff_iff,beq_iff_eq,beq_iff_eq]
 constructor
 ·intro e;rw[e]at h;exact Nat.add_eq_right.mp h
 ·intro e;rw[e,Nat.zero_add]at h;exact h
theorem wf(u:W) (r:List W):∀ {pre:List W},pre ≠ []→(∀ y∈pre,nW y=nW u)→(fE gP pre r=0↔∀ v∈r,nW v=nW u):=by
 induction r with
 | nil=>exact fun _ _=>⟨fun _ v h=>(nomatch h),fun _=>rfl⟩
 | cons v r ih=>
  intro pre hp hu
  unfold fE
  by_cases q:nW v=nW u
  ·have:gP pre v=false:=by
    unfold gP
    refine byC fun kq=>?_
    obtain⟨y,hy⟩:=List.exists_mem_of_ne_nil pre hp
    refine kq ?_;try clear kq
    have a:(pre.any fun y=>eqW y v)=true:=List.any_eq_true.mpr ⟨y,hy,qr.mpr ((hu y hy).trans q.symm)⟩
    rw[a];rfl
   rw[this]
   have ih:=ih (pre:=pre++[v]) (by intro z;exact absurd (List.append_eq_nil_iff.mp z).1 hp) (fun y hy=>by
    rcases List.mem_append.mp hy with hy|hy
    ·exact hu y hy
    ·rw[List.mem_singleton.mp hy];exact q)
   show(0 + fE gP (pre++[v]) r)=0↔_
   rw[Nat.zero_add,ih]
   exact⟨fun h x hx=>by
    rcases List.mem_cons.mp hx with e|hx
    ·rw[e];exact q
    ·exact h x hx,fun h x hx=>h x (CZ _ hx)⟩
  ·have:gP pre v=true:=by
    unfold gP
    have:(pre.any fun y=>eqW y v)=false:=by
     rw[List.any_eq_false]
     exact fun y hy z=>q ((qr.mp z).symm.trans (hu y hy))
    rw[this];rfl
   rw[this]
   show(1 + fE gP (pre++[v]) r)=0↔_
   exact⟨fun h=>absurd h (by rw[Nat.add_comm];exact Nat.succ_ne_zero _),fun h=>absurd (h v (CY ..)) q⟩
theorem Ag(r:List W):∀ u:W,ui (u::r)=true↔∀ v∈r,nW v=nW u:=by
 induction r with
 | nil=>exact fun u=>⟨fun _ v h=>(nomatch h),fun _=>rfl⟩
 | cons v r ih=>
  intro u
  show(eqW u v && ui (v::r))=true↔_
  rw[Bool.and_eq_true,ih v,qr]
  constructor
  ·intro h x hx
   rcases List.mem_cons.mp hx with e|hx
   ·rw[e];exact h.1.symm
   ·exact(h.2 x hx).trans h.1.symm
  ·intro h
   have hv:=h v (CY ..)
   exact⟨hv.symm,fun x hx=>(h x (CZ _ hx)).trans hv.symm⟩
theorem ww(u:W) (r:List W):((dn (u::r):Int) == 1)=ui (u::r):=by
 have e:dn (u::r)=1 + fE gP [u] r:=rfl
 have h:=wf u r (pre:=[u]) (by intro z;cases z) (fun y hy=>by rw[List.mem_singleton.mp hy])
 rw[e,show((1:Int))=((1:Nat):Int) from rfl,hJ,Bool.eq_iff_iff,beq_iff_eq,Ag,← h]
 exact Nat.add_eq_left
theorem uC(u v:W):((dn [u,v]:Int) == (([u,v]:List W).length:Int))=!(eqW u v):=by
 have e:dn [u,v]=1 + ((if gP [u] v then 1 else 0) + 0):=rfl
 have n:gP [u] v=!(eqW u v):=by show(!(eqW u v || false))=_;rw[Bool.or_false]
 rw[e,n]
 cases eqW u v<;>rfl
theorem YesP.le{P:List TK→PR}{d d' c c':Nat}{T:List TK}{s s':Int}{f f':Wo→W}(x:YesP P d c T s f) (hd:d≤d') (hc:c≤c') (hs:s=s') (hf:∀ w,f w=f' w):YesP P d' c' T s' f':=by
 refine byC fun kq=>?_
 obtain⟨n,T1,e,g,m,i⟩:=x.ex
 refine kq ?_;try clear kq
 subst hs
 have:f=f':=funext hf
 subst this
 exact⟨n,T1,e,g.mono hc,m.le hd,i⟩
theorem oC{ss:List Nat}:fU ss=true↔∀ s∈ss,s=0:=by
 unfold fU
 rw[beq_iff_eq,List.length_eq_zero_iff,List.filter_eq_nil_iff]
 constructor
 ·intro h s hs
  have:=h s hs
  rw[Bool.not_eq_true,Bool.not_eq_false',beq_iff_eq]at this
  exact Int.ofNat.inj this
 ·intro h s hs
  rw[h s hs];decide
theorem jV{ts:List Nat}(h:fU (ts.map sN)=true):∀ t∈ts,sN t=0:=fun t ht=>oC.mp h _ (List.mem_map_of_mem ht)
theorem nc(ts:List Nat) (w:Wo):(∀ t∈ts,sN t=0)→(ts.map fun t=>vB t w)=(ts.map fun t=>bB t w).map W.b:=by
 induction ts with
 | nil=>exact fun _=>rfl
 | cons t r ih=>
  intro h
  rw[List.map_cons,List.map_cons,List.map_cons,ih fun u hu=>h u (CZ _ hu),yd (h t (CY ..))]
theorem Aq{α:Type}(fs:Nat→Wo→α) (ts:List Nat) (w:Wo):((ts.map fs).map fun f=>f w)=ts.map fun t=>fs t w:=List.map_map
theorem BO(ts:List Nat) (w:Wo):((ts.map bB).all fun f=>f w)=(ts.map fun t=>bB t w).all id:=by rw[List.all_map,List.all_map];rfl
theorem BT(ts:List Nat) (w:Wo):((ts.map bB).any fun f=>f w)=(ts.map fun t=>bB t w).any id:=by rw[List.any_map,List.any_map];rfl
theorem tH(op:Bool→Bool→Bool) (ts:List Nat) (w:Wo):∀ b:Bool,((ts.map bB).foldl (fun x g=>op x (g w)) b)=(ts.map fun t=>bB t w).foldl op b:=by
 induction ts with
 | nil=>exact fun _=>rfl
 | cons t r ih=>exact fun b=>ih _
theorem w6:∀ t∈fV,∀ (k:TK) (u:Nat),fq[t]? = some k→k.1=CW "not"→k.2.1=[(u:Int)]→u=3:=by
 have no:∀ {t:Nat}{x:String}{k0:TK},fq[t]? = some k0→k0.1=CW x→x ≠ "not"→∀ (k:TK) (u:Nat),fq[t]? = some k→k.1=CW "not"→k.2.1=[(u:Int)]→u=3:=fun h hx hn k u e q _=>by
  rw[h]at e;cases e;exact absurd (hx.symm.trans q) (bX hn)
 unfold fV
 refine List.forall_mem_cons.mpr ⟨no (x:="app") rfl rfl (by decide),?_⟩
 refine List.forall_mem_cons.mpr ⟨no (x:="app") rfl rfl (by decide),?_⟩
 refine List.forall_mem_cons.mpr ⟨no (x:="app") rfl rfl (by decide),?_⟩
 refine List.forall_mem_cons.mpr ⟨fun k u e q r=>?_,?_⟩
 ·rw[show fq[10]? = some (tk "not" [3] 0) from rfl]at e
  cases e
  exact(Int.ofNat.inj (List.cons.inj r).1).symm
 refine List.forall_mem_cons.mpr ⟨no (x:="true") rfl rfl (by decide),?_⟩
 refine List.forall_mem_cons.mpr ⟨no (x:="app") rfl rfl (by decide),?_⟩
 refine List.forall_mem_cons.mpr ⟨no (x:="app") rfl rfl (by decide),?_⟩
 refine List.forall_mem_cons.mpr ⟨no (x:="app") rfl rfl (by decide),?_⟩
 refine List.forall_mem_cons.mpr ⟨no (x:="app") rfl rfl (by decide),?_⟩
 intro t h;cases h
theorem zq:∀ t∈fV,t < fq.length:=fun t h=>(nZ t h).lt
theorem Tm.nots{T:List TK}(X:Tm T) {t:Nat}(h:t∈fV) (k:TK) (u:Nat) (e:T[t]? = some k) (q:k.1=CW "not") (r:k.2.1=[(u:Int)]):srt T u=0:=by
 refine byC fun kq=>?_
 obtain⟨l,hl⟩:=X.app
 refine kq ?_;try clear kq
 rw[hl,List.getElem?_append_left (zq t h)]at e
 rw[w6 t h k u e q r]
 have m:=X.mn (t:=3) (CY ..)
 exact m.srt
theorem Tm.mn0{T:List TK}(X:Tm T) {t:Nat}(h:t∈fV) (z:sN t=0):Mn 3 T t 0 fun w=>.b (bB t w):=by
 have m:=X.mn h
 rw[yd z,z]at m
 exact m
theorem t4:Stp jQ fun x y=>x != y:=fun h0 A B=>CL h0 A B
theorem tZ:Stp (fun T a t=>ir T t a) fun x y=>x || !y:=fun h0 A B=>Cm h0 B A
theorem rX{ts:List Nat}{t:Nat}{r:List Nat}(e:ts=t::r) (h:(((ts.map sN).count ((ts.map sN).headD 0):Int) == ((ts.map sN).length:Int))=true):∀ u∈ts,sN u=sN t:=by
 subst e
 rw[hJ,beq_iff_eq,List.count_eq_length]at h
 exact fun u hu=>(h _ (List.mem_map_of_mem hu)).symm
noncomputable def Cz(x:Nm) (ts:List Nat):Int:=match x with
 | .ite=>(sN (ts.getD 1 0):Int)
 | _=>0
theorem k9{a b:Bool}(h:(a || b)=false):a=false∧b=false:=by cases a<;>cases b<;>first|exact⟨rfl,rfl⟩|cases h
theorem iZ{ts:List Nat}{f:Nat→Nat}(h:decide (((ts.map f).length:Int) < 2)=false):∃ t u r,ts=t::u::r:=by
 match ts,h with
 | [],h=>exact absurd h (by show ¬decide (((0:Nat):Int) < 2)=false;decide)
 | [_],h=>exact absurd h (by show ¬decide (((1:Nat):Int) < 2)=false;decide)
 | t::u::r,_=>exact⟨t,u,r,rfl⟩
theorem sd{T:List TK}(X:Tm T) {x:Nm}{ts:List Nat}(hp:∀ t∈ts,t∈fV) (hl:ts.length≤6) (h:jL x (ts.map sN)=false):
  ∃ v:Wo→W,YesP (fun T=>c9 T x ts) 12 12 T (Cz x ts) v∧∀ w,oO x (ts.map fun t=>vB t w)=some (v w):=by
 have h0:0 < T.length:=Dc (Nat.zero_le _) (List.getElem?_eq_some_iff.mp X.t1).1
 have hl100:ts.length≤100:=CX hl (by decide)
 cases x with
 | tru=>cases h
 | and=>
  have hz:=jV ((Bool.not_eq_false' _).mp h)
  refine⟨_,(Ah X.t1 (X.bmns ts hp hz) hl100).le (by decide) (by decide) rfl fun w=>rfl,fun w=>?_⟩
  rw[nc ts w hz,BO,← AE];rfl
 | or=>
  have hz:=jV ((Bool.not_eq_false' _).mp h)
  refine⟨_,(CT X.t2 (X.bmns ts hp hz) hl100).le (by decide) (by decide) rfl fun w=>rfl,fun w=>?_⟩
  rw[nc ts w hz,BT,← v8];rfl
 | not=>
  refine byC fun kq=>?_
  obtain⟨h1,h2⟩:=k9 h
  have hz:=jV ((Bool.not_eq_false' _).mp h2)
  have h1:ts.length=1:=by
   have:=(Bool.not_eq_false' _).mp h1
   rw[C4]at this
   exact Int.ofNat.inj (beq_iff_eq.mp this)
  obtain⟨t,rfl⟩:=List.length_eq_one_iff.mp h1
  refine kq ?_;try clear kq
  have ht:=hp t (CY ..)
  refine⟨_,(Ar X.oOk X.t1 X.t2 (X.nots ht) (X.mn0 ht (hz t (CY ..)))).le (by decide) (by decide) rfl fun w=>rfl,fun w=>?_⟩
  rw[nc [t] w hz]
  have:=yC [bB t w]
  rw[show [bB t w].any id=bB t w from Bool.or_false _]at this
  rw[← this];rfl
 | ite=>
  match ts,hp,h with
  | [c,a,b],hp,h=>
   refine byC fun kq=>?_
   obtain⟨h1,h2⟩:=k9 h
   refine kq ?_;try clear kq
   have hc:sN c=0:=Int.ofNat.inj (beq_iff_eq.mp ((Bool.not_eq_false' _).mp h1))
   have hab:sN a=sN b:=Int.ofNat.inj (beq_iff_eq.mp ((Bool.not_eq_false' _).mp h2))
   have pa:=hp a (CZ _ (CY ..))
   have pb:=hp b (CZ _ (CZ _ (CY ..)))
   refine⟨_,(Co h0 (X.mn0 (hp c (CY ..)) hc) (X.mn pa) (hab ▸ X.mn pb)).le (by decide) (by decide) rfl fun w=>rfl,fun w=>?_⟩
   show oO .ite [vB c w,vB a w,vB b w]=_
   rw[yd hc];rfl
  | [],_,h=>cases h
  | [_],_,h=>cases h
  | [_,_],_,h=>cases h
  | _::_::_::_::_,_,h=>cases h
 | xor=>
  refine byC fun kq=>?_
  obtain⟨h1,h2⟩:=k9 h
  have hz:=jV ((Bool.not_eq_false' _).mp h2)
  obtain⟨t,u,r,rfl⟩:=iZ h1
  refine kq ?_;try clear kq
  have hr:(u::r).length≤5:=Nat.le_of_succ_le_succ hl
  refine⟨_,(wA (P:=jQ) (op:=fun x y=>x != y) t4 (u::r) (X.mn0 (hp t (CY ..)) (hz t (CY ..))) (X.bmns (u::r) (fun z hz'=>hp z (CZ _ hz')) fun z hz'=>hz z (CZ _ hz'))).le (CX (Da hr 3) (by decide)) (CX hr (by decide)) rfl fun w=>rfl,fun w=>?_⟩
  rw[nc _ w hz,tH,List.map_cons,← AG];rfl
 | imp=>
  refine byC fun kq=>?_
  obtain⟨h1,h2⟩:=k9 h
  have hz:=jV ((Bool.not_eq_false' _).mp h2)
  obtain⟨t,u,r,hts⟩:=iZ h1
  refine kq ?_;try clear kq
  rcases List.eq_nil_or_concat ts with hn|⟨q,l,hq⟩
  ·rw[hn]at hts;cases hts
  ·rw[List.concat_eq_append]at hq
   have hC:∀ T,c9 T .imp ts=dk (fun T a t=>ir T t a) T l q.reverse:=fun T=>by
    rw[hts]
    show qC T (t::u::r)=_
    rw[← hts]
    unfold qC
    rw[hq,List.getLastD_concat,List.dropLast_concat]
   have hql:q.reverse.length≤5:=by
    rw[List.length_reverse]
    rw[hq,C1]at hl
    exact Nat.le_of_succ_le_succ hl
   have mq:∀ z∈q.reverse,z∈ts:=fun z hz'=>by rw[hq];exact List.mem_append_left _ (List.mem_reverse.mp hz')
   have ml:l∈ts:=by rw[hq];exact List.mem_append_right _ (CY ..)
   have y:=(wA (P:=fun T a t=>ir T t a) (op:=fun x y=>x || !y) tZ q.reverse (X.mn0 (hp l ml) (hz l ml)) (X.bmns q.reverse (fun z h=>hp z (mq z h)) fun z h=>hz z (mq z h))).le (d':=12) (c':=12) (s':=0) (CX (Da hql 3) (by decide)) (CX hql (by decide)) rfl fun w=>rfl
   rw[show(fun T=>dk (fun T a t=>ir T t a) T l q.reverse)=fun T=>c9 T .imp ts from funext fun T=>(hC T).symm]at y
   refine⟨_,y,fun w=>?_⟩
   rw[nc _ w hz,show((q.reverse.map bB).foldl (fun x g=>x || !g w) (bB l w))=(q.reverse.map fun t=>bB t w).foldl (fun x y=>x || !y) (bB l w) from tH (fun x y=>x || !y) q.reverse w (bB l w),List.map_reverse,← AF]
   have e:(ts.map fun t=>bB t w)=(q.map fun t=>bB t w)++[bB l w]:=by rw[hq,De];rfl
   rw[e]
   show(match (((q.map fun t=>bB t w)++[bB l w]).map W.b).getLast? with
    | some (W.b l')=>some (W.b (decide ((cT (((q.map fun t=>bB t w)++[bB l w]).map W.b):Int) < ((((q.map fun t=>bB t w)++[bB l w]).map W.b).length:Int) - 1) || l'))
    | _=>none)=_
   rw[show(((q.map fun t=>bB t w)++[bB l w]).map W.b).getLast? = some (W.b (bB l w))by rw[De,List.getLast?_append];rfl]
 | eq=>
  refine byC fun kq=>?_
  obtain⟨h1,h2⟩:=k9 h
  obtain⟨t,u,r,hts⟩:=iZ h1
  refine kq ?_;try clear kq
  have hs:=rX hts ((Bool.not_eq_false' _).mp h2)
  have y:=(BZ X.t1 (X.mns ts hp) (s:=(sN t:Int)) (fun z hz=>by rw[(X.mn (hp z hz)).srt,hs z hz]) hl100).le (d':=12) (c':=12) (s':=0) (by decide) (CX (Db hl 1) (by decide)) rfl fun w=>rfl
  subst hts
  refine⟨_,y,fun w=>?_⟩
  rw[Aq]
  show some (W.b _)=_
  rw[List.map_cons,ww]
 | dist=>
  refine byC fun kq=>?_
  obtain⟨h1,h2⟩:=k9 h
  obtain⟨t,u,r,hts⟩:=iZ h1
  refine kq ?_;try clear kq
  have hs:=rX hts ((Bool.not_eq_false' _).mp h2)
  subst hts
  cases r with
  | nil=>
   have mu:=X.mn (hp u (CZ _ (CY ..)))
   rw[hs u (CZ _ (CY ..))]at mu
   refine⟨_,(wo X.oOk X.t1 X.t2 (X.mn (hp t (CY ..))) mu).le (by decide) (by decide) rfl fun w=>rfl,fun w=>?_⟩
   show some (W.b _)=_
   rw[List.map_cons,List.map_cons,List.map_nil,uC]
  | cons v r=>
   refine⟨_,(AK h0 (X.mns _ hp) (s:=(sN t:Int)) (fun z hz=>⟨(X.mn (hp z hz)).lt,by rw[(X.mn (hp z hz)).srt,hs z hz]⟩) (by intro z;cases z) hl100).le (by decide) (by decide) rfl fun w=>rfl,fun w=>?_⟩
   rw[Aq]
   show some (W.b _)=_
   rw[ms]
theorem qt{ts:List Nat}(h:fU (ts.map sN)=false):∃ t∈ts,sN t ≠ 0:=byC fun K=>by
 have:fU (ts.map sN)=true:=oC.mpr fun s hs=>by
  obtain⟨t,ht,e⟩:=List.mem_map.mp hs
  rw[← e]
  exact byC fun z=>K ⟨t,ht,z⟩
 rw[this]at h;cases h
theorem yw(r:List Nat):∀ t:Nat,(∀ p∈(t::r).zip ((t::r).drop 1),sN p.2=sN p.1)→∀ u∈t::r,sN u=sN t:=by
 induction r with
 | nil=>intro t _ u hu;rw[List.mem_singleton.mp hu]
 | cons v r ih=>
  intro t h u hu
  have hv:sN v=sN t:=h (t,v) (CY ..)
  rcases List.mem_cons.mp hu with e|hu
  ·rw[e]
  ·exact(ih v (fun p hp=>h p (CZ _ hp)) u hu).trans hv
theorem tE{t:Nat}{r:List Nat}(h:(((((t::r).map sN).count (((t::r).map sN).headD 0):Nat):Int) == (((t::r).map sN).length:Int))=false):¬∀ u∈t::r,sN u=sN t:=fun K=>by
 rw[hJ]at h
 refine(beq_eq_false_iff_ne.mp h) (List.count_eq_length.mpr fun b hb=>?_)
 refine byC fun kq=>?_
 obtain⟨u,hu,e⟩:=List.mem_map.mp hb
 refine kq ?_;try clear kq
 rw[← e]
 exact(K u hu).symm
theorem nY{a b:Bool}(h:(a || b)=true):a=true∨a=false∧b=true:=by cases a<;>cases b<;>first|exact .inl rfl|exact .inr ⟨rfl,rfl⟩|cases h
theorem hO{a:Bool}(h:(!a)=true):a=false:=by cases a;exact rfl;cases h
theorem oW{ts:List Nat}{f:Nat→Nat}(h:decide (((ts.map f).length:Int) < 2)=true):ts=[]∨∃ t,ts=[t]:=by
 match ts,h with
 | [],_=>exact .inl rfl
 | [t],_=>exact .inr ⟨t,rfl⟩
 | t::u::r,h=>
  have:=of_decide_eq_true h
  rw[List.map_cons,List.map_cons,Df,Df]at this
  exact absurd (Int.ofNat_lt.mp this) (Nat.not_lt.mpr (Nat.le_add_left 2 _))
theorem wk{T:List TK}(X:Tm T) {x:Nm}{ts:List Nat}(hp:∀ t∈ts,t∈fV) (hl:ts.length≤6) (h:jL x (ts.map sN)=true):∃ T1,c9 T x ts=(none,T1)∧Gr 12 T T1:=by
 have gr0:Gr 12 T T:=(Gr.refl T).mono (Nat.zero_le _)
 have sr:∀ ⦃t:Nat⦄,t∈ts→srt T t=(sN t:Int):=fun _ ht=>(X.mn (hp _ ht)).srt
 have nz:∀ ⦃t:Nat⦄,t∈ts→sN t ≠ 0→srt T t ≠ 0:=fun _ ht z q=>z (Int.ofNat.inj ((sr ht).symm.trans q))
 cases x with
 | tru=>exact⟨T,rfl,gr0⟩
 | and=>
  obtain⟨t,ht,z⟩:=qt (hO h)
  exact⟨T,BP ht (nz ht z),gr0⟩
 | or=>
  obtain⟨t,ht,z⟩:=qt (hO h)
  exact⟨T,BP ht (nz ht z),gr0⟩
 | not=>
  match ts,hp,h,nz with
  | [],_,_,_=>exact⟨T,rfl,gr0⟩
  | [t],hp,h,nz=>
   have h:(!(((([t].map sN).length:Nat):Int) == 1) || !fU ([t].map sN))=true:=h
   rcases nY h with h1|⟨_,h2⟩
   ·exact absurd h1 (by show ¬(!(((1:Nat):Int) == 1))=true;decide)
   ·obtain⟨u,hu,z⟩:=qt (hO h2)
    rw[List.mem_singleton.mp hu]at z
    exact⟨T,Cv (nz (CY ..) z),gr0⟩
  | _::_::_,_,_,_=>exact⟨T,rfl,gr0⟩
 | ite=>
  match ts,hp,h,nz,sr with
  | [],_,_,_,_=>exact⟨T,rfl,gr0⟩
  | [_],_,_,_,_=>exact⟨T,rfl,gr0⟩
  | [_,_],_,_,_,_=>exact⟨T,rfl,gr0⟩
  | _::_::_::_::_,_,_,_,_=>exact⟨T,rfl,gr0⟩
  | [c,a,b],hp,h,nz,sr=>
   refine⟨T,Cn ?_,gr0⟩
   rcases nY h with h1|⟨_,h2⟩
   ·exact .inl (nz (CY ..) fun z=>(beq_eq_false_iff_ne.mp (hO h1)) (by rw[z];rfl))
   ·refine .inr fun z=>(beq_eq_false_iff_ne.mp (hO h2)) ?_
    rw[sr (CZ _ (CZ _ (CY ..))),sr (CZ _ (CY ..))]at z
    exact z.symm
 | xor=>
  rcases nY h with h1|⟨h1,h2⟩
  ·rcases oW h1 with rfl|⟨t,rfl⟩<;>exact⟨T,rfl,gr0⟩
  ·obtain⟨t,u,r,rfl⟩:=iZ h1
   have hr:(u::r).length≤5:=Nat.le_of_succ_le_succ hl
   by_cases q:sN t=0
   ·obtain⟨v,hv,z⟩:=qt (hO h2)
    have hv':v∈u::r:=(List.mem_cons.mp hv).resolve_left fun e=>z (e ▸ q)
    obtain⟨T1,e,g⟩:=wz (P:=jQ) (op:=fun x y=>x != y) t4 (fun h=>Az h) (u::r) (X.mn0 (hp t (CY ..)) q) (fun z hz=>X.ty (hp z (CZ _ hz))) ⟨v,hv',nz hv z⟩
    exact⟨T1,e,g.mono (CX hr (by decide))⟩
   ·refine⟨T,?_,gr0⟩
    show dk jQ T t (u::r)=_
    unfold dk
    rw[Az (.inl (nz (CY ..) q))]
 | imp=>
  rcases nY h with h1|⟨h1,h2⟩
  ·rcases oW h1 with rfl|⟨t,rfl⟩<;>exact⟨T,rfl,gr0⟩
  ·obtain⟨t,u,r,hts⟩:=iZ h1
   rcases List.eq_nil_or_concat ts with hn|⟨q,l,hq⟩
   ·rw[hn]at hts;cases hts
   ·rw[List.concat_eq_append]at hq
    have hC:c9 T .imp ts=dk (fun T a t=>ir T t a) T l q.reverse:=by
     rw[hts]
     show qC T (t::u::r)=_
     rw[← hts]
     unfold qC
     rw[hq,List.getLastD_concat,List.dropLast_concat]
    have hql:q.reverse.length≤5:=by
     rw[List.length_reverse]
     rw[hq,C1]at hl
     exact Nat.le_of_succ_le_succ hl
    have mq:∀ z∈q.reverse,z∈ts:=fun z hz'=>by rw[hq];exact List.mem_append_left _ (List.mem_reverse.mp hz')
    have ml:l∈ts:=by rw[hq];exact List.mem_append_right _ (CY ..)
    rw[hC]
    by_cases ql:sN l=0
    ·obtain⟨v,hv,z⟩:=qt (hO h2)
     have hv':v∈q.reverse:=by
      rw[hq]at hv
      rcases List.mem_append.mp hv with hv|hv
      ·exact List.mem_reverse.mpr hv
      ·exact absurd (List.mem_singleton.mp hv ▸ ql) z
     obtain⟨T1,e,g⟩:=wz (P:=fun T a t=>ir T t a) (op:=fun x y=>x || !y) tZ (fun h=>Am h.symm) q.reverse (X.mn0 (hp l ml) ql) (fun z hz=>X.ty (hp z (mq z hz))) ⟨v,hv',nz (mq v hv') z⟩
     exact⟨T1,e,g.mono (CX hql (by decide))⟩
    ·refine⟨T,?_,gr0⟩
     cases hqr:q.reverse with
     | nil=>
      have:q=[]:=List.reverse_eq_nil_iff.mp hqr
      rw[this]at hq;rw[hq]at hts;cases hts
     | cons y ys=>
      unfold dk
      rw[Am (.inr (nz ml ql))]
 | eq=>
  rcases nY h with h1|⟨h1,h2⟩
  ·rcases oW h1 with rfl|⟨t,rfl⟩<;>exact⟨T,rfl,gr0⟩
  ·obtain⟨t,u,r,rfl⟩:=iZ h1
   have K:=tE (hO h2)
   obtain⟨T1,e,g⟩:=BY (ts:=t::u::r) X.t1 (fun z hz=>X.ty (hp z hz)) (byC fun N=>K (yw _ _ fun p hq=>byC fun z=>N ⟨p,hq,by
    rw[sr (List.mem_of_mem_drop (List.of_mem_zip hq).2),sr (List.of_mem_zip hq).1]
    exact fun e=>z (Int.ofNat.inj e)⟩))
   exact⟨T1,e,g.mono (CX (Db hl 1) (by decide))⟩
 | dist=>
  rcases nY h with h1|⟨h1,h2⟩
  ·rcases oW h1 with rfl|⟨t,rfl⟩<;>exact⟨T,rfl,gr0⟩
  ·obtain⟨t,u,r,rfl⟩:=iZ h1
   have K:=tE (hO h2)
   obtain⟨v,hv,z⟩:∃ v∈t::u::r,sN v ≠ sN t:=byC fun N=>K fun v hv=>byC fun z=>N ⟨v,hv,z⟩
   have zz:srt T v ≠ srt T t:=by rw[sr hv,sr (CY ..)];exact fun e=>z (Int.ofNat.inj e)
   cases r with
   | nil=>
    have hv':v=u:=by
     rcases List.mem_cons.mp hv with e|hv
     ·rw[e]at z;exact absurd rfl z
     ·exact List.mem_singleton.mp hv
    exact⟨T,wn (hv' ▸ zz),gr0⟩
   | cons y ys=>exact⟨T,AJ hv zz,gr0⟩
theorem lK{a b:List W}(h:a.Perm b):cT a=cT b:=(h.filter uK).length_eq
theorem qg(r:List W):∀ pre:List W,fE (fun pre v=>pre.any fun y=>eqW y v) pre r=0↔(∀ v∈r,∀ y∈pre,nW y ≠ nW v)∧r.Pairwise fun x y=>nW x ≠ nW y:=by
 induction r with
 | nil=>exact fun pre=>⟨fun _=>⟨fun v h=>(nomatch h),.nil⟩,fun _=>rfl⟩
 | cons v r ih=>
  intro pre
  unfold fE
  have hany:(pre.any fun y=>eqW y v)=false↔∀ y∈pre,nW y ≠ nW v:=by
   rw[List.any_eq_false]
   exact⟨fun h y hy z=>h y hy (qr.mpr z),fun h y hy z=>h y hy (qr.mp z)⟩
  rw[Nat.add_eq_zero_iff,ih,List.pairwise_cons]
  have hif:(if (pre.any fun y=>eqW y v)=true then 1 else 0)=0↔(pre.any fun y=>eqW y v)=false:=by
   cases pre.any fun y=>eqW y v
   ·exact⟨fun _=>rfl,fun _=>rfl⟩
   ·exact⟨fun h=>(nomatch h),fun h=>(nomatch h)⟩
  rw[hif,hany]
  constructor
  ·intro h
   refine⟨fun u hu y hy=>?_,fun u hu=>h.2.1 u hu v (List.mem_append_right _ (CY ..)),h.2.2⟩
   rcases List.mem_cons.mp hu with e|hu
   ·rw[e];exact h.1 y hy
   ·exact h.2.1 u hu y (List.mem_append_left _ hy)
  ·intro h
   refine⟨fun y hy=>h.1 v (CY ..) y hy,fun u hu y hy=>?_,h.2.2⟩
   rcases List.mem_append.mp hy with hy|hy
   ·exact h.1 u (CZ _ hu) y hy
   ·rw[List.mem_singleton.mp hy];exact h.2.1 u hu
theorem uD{a b:List W}(h:a.Perm b):((dn a:Int) == (a.length:Int))=((dn b:Int) == (b.length:Int)):=by
 rw[ms,ms,Bool.eq_iff_iff,beq_iff_eq,beq_iff_eq,qg,qg]
 have:=h.pairwise_iff (R:=fun x y=>nW x ≠ nW y) fun h z=>h z.symm
 exact⟨fun k=>⟨fun v _ y hy=>(nomatch hy),this.mp k.2⟩,fun k=>⟨fun v _ y hy=>(nomatch hy),this.mpr k.2⟩⟩
theorem nO{a:List W}:((dn a:Int) == 1)=true↔a ≠ []∧∀ u∈a,∀ v∈a,nW u=nW v:=by
 cases a with
 | nil=>exact⟨fun h=>(nomatch h),fun h=>absurd rfl h.1⟩
 | cons u r=>
  rw[ww,Ag]
  constructor
  ·intro h
   have al:∀ x∈u::r,nW x=nW u:=fun x hx=>by
    rcases List.mem_cons.mp hx with e|hx
    ·rw[e]
    ·exact h x hx
   exact⟨fun z=>(nomatch z),fun x hx y hy=>(al x hx).trans (al y hy).symm⟩
  ·exact fun h x hx=>h.2 x (CZ _ hx) u (CY ..)
theorem yQ{a b:List W}(h:a.Perm b):((dn a:Int) == 1)=((dn b:Int) == 1):=by
 rw[Bool.eq_iff_iff,nO,nO]
 constructor
 ·exact fun k=>⟨fun z=>k.1 (List.Perm.eq_nil (z ▸ h)),fun u hu v hv=>k.2 u (h.mem_iff.mpr hu) v (h.mem_iff.mpr hv)⟩
 ·exact fun k=>⟨fun z=>k.1 (List.Perm.eq_nil (z ▸ h.symm)),fun u hu v hv=>k.2 u (h.mem_iff.mp hu) v (h.mem_iff.mp hv)⟩
theorem wr{x:Nm}{ts ts':List Nat}(h:kw x ts ts') (f:Nat→W):oO x (ts'.map f)=oO x (ts.map f):=by
 have len:∀ {a b:List Nat},a.Perm b→(b.map f).length=(a.map f).length:=fun p=>by rw[C4,C4,p.length_eq]
 cases x with
 | ite=>rw[show ts'=ts from h]
 | not=>rw[show ts'=ts from h]
 | tru=>rfl
 | and=>have p:ts.Perm ts':=h;show some (W.b _)=some (W.b _);rw[lK (p.map f),len p]
 | or=>have p:ts.Perm ts':=h;show some (W.b _)=some (W.b _);rw[lK (p.map f)]
 | xor=>have p:ts.Perm ts':=h;show some (W.b _)=some (W.b _);rw[lK (p.map f)]
 | eq=>have p:ts.Perm ts':=h;show some (W.b _)=some (W.b _);rw[yQ (p.map f)]
 | dist=>have p:ts.Perm ts':=h;show some (W.b _)=some (W.b _);rw[uD (p.map f)]
 | imp=>
  refine byC fun kq=>?_
  obtain⟨r,r',l,e,e',p⟩:=h
  refine kq ?_;try clear kq
  have q:(r++[l]).Perm (r'++[l]):=p.append_right _
  have last:∀ q:List Nat,((q++[l]).map f).getLast? = some (f l):=fun q=>by rw[De,List.getLast?_append];rfl
  show(match (ts'.map f).getLast? with
   | some (W.b l)=>some (W.b (decide ((cT (ts'.map f):Int) < ((ts'.map f).length:Int) - 1) || l))
   | _=>none)=(match (ts.map f).getLast? with
   | some (W.b l)=>some (W.b (decide ((cT (ts.map f):Int) < ((ts.map f).length:Int) - 1) || l))
   | _=>none)
  rw[e,e',last,last,lK (q.map f),len q]
theorem rE{x:Nm}{ts ts':List Nat}(h:kw x ts ts'):ts.Perm ts':=by
 cases x with
 | ite=>rw[show ts'=ts from h]
 | not=>rw[show ts'=ts from h]
 | imp=>obtain⟨r,r',l,e,e',p⟩:=h;rw[e,e'];exact p.append_right _
 | tru=>exact h
 | and=>exact h
 | or=>exact h
 | xor=>exact h
 | eq=>exact h
 | dist=>exact h
theorem ja{a b:List Nat}(h:a.Perm b):fU a=fU b:=by
 rw[Bool.eq_iff_iff,oC,oC]
 exact⟨fun k s hs=>k s (h.mem_iff.mpr hs),fun k s hs=>k s (h.mem_iff.mp hs)⟩
theorem qh{ts ts':List Nat}(p:ts.Perm ts') (h:(((ts.map sN).count ((ts.map sN).headD 0):Int) == ((ts.map sN).length:Int))=true):(((ts'.map sN).count ((ts'.map sN).headD 0):Int) == ((ts'.map sN).length:Int))=true:=by
 cases ts with
 | nil=>rw[p.symm.eq_nil];exact h
 | cons t r=>cases ts' with
  | nil=>exact absurd p.eq_nil (by intro z;cases z)
  | cons t' r'=>
   have k:=rX rfl h
   rw[hJ,beq_iff_eq]
   refine List.count_eq_length.mpr fun b hb=>?_
   refine byC fun kq=>?_
   obtain⟨u,hu,e⟩:=List.mem_map.mp hb
   refine kq ?_;try clear kq
   rw[← e]
   exact(k t' (p.mem_iff.mpr (CY ..))).trans (k u (p.mem_iff.mpr hu)).symm
theorem w7{x:Nm}{ts ts':List Nat}(h:kw x ts ts') (r:jL x (ts.map sN)=false):jL x (ts'.map sN)=false:=by
 have p:=rE h
 have len:(ts'.map sN).length=(ts.map sN).length:=by rw[C4,C4,p.length_eq]
 cases x with
 | ite=>rw[show ts'=ts from h];exact r
 | not=>rw[show ts'=ts from h];exact r
 | tru=>exact r
 | and=>show(!fU _)=false;rw[← ja (p.map sN)];exact r
 | or=>show(!fU _)=false;rw[← ja (p.map sN)];exact r
 | xor=>show(decide (_ < _) || !fU _)=false;rw[← ja (p.map sN),len];exact r
 | imp=>show(decide (_ < _) || !fU _)=false;rw[← ja (p.map sN),len];exact r
 | eq=>
  refine byC fun kq=>?_
  obtain⟨r1,r2⟩:=k9 r
  refine kq ?_;try clear kq
  have c:=qh p ((Bool.not_eq_false' _).mp r2)
  show(decide (((ts'.map sN).length:Int) < 2) || !(((ts'.map sN).count ((ts'.map sN).headD 0):Int) == ((ts'.map sN).length:Int)))=false
  rw[c,len,r1];rfl
 | dist=>
  refine byC fun kq=>?_
  obtain⟨r1,r2⟩:=k9 r
  refine kq ?_;try clear kq
  have c:=qh p ((Bool.not_eq_false' _).mp r2)
  show(decide (((ts'.map sN).length:Int) < 2) || !(((ts'.map sN).count ((ts'.map sN).headD 0):Int) == ((ts'.map sN).length:Int)))=false
  rw[c,len,r1];rfl
noncomputable def IsW(H:Hp) (wd:Nat):Prop:=∃ kvs,∃ w:Wo,H[wd]? = some (.dictI kvs)∧∀ (t:Nat) v,w.w t=some v→dI kvs (t:Int)=some v.v
theorem IsW.get{H H':Hp}{wd:Nat}(x:IsW H wd) (h:∀ o,H[wd]? = some o→H'[wd]? = some o):IsW H' wd:=let ⟨kvs,w,a,b⟩:=x;⟨kvs,w,h _ a,b⟩
theorem rB{i:Nat}{k:Int}{H:Hp}{kvs kvs':List (Int × V)}{v:V}(h:H[i]? = some (.dictI kvs)) (hl:kvs.length≤1000000) (g:dM kvs k v=kvs'):fc (.ref i) (.int k) v H=some (H.set i (.dictI kvs')):=by
 unfold fc;dsimp only;rw[h,← g];exact if_pos hl
theorem wb1{m:Fm}{H:Hp}{wd a b k t s:Nat}{Tr Th:List Nat}{kvs kvs1 kvs2:List (Int × V)}{nb p n:Int}{ns:List V}(lk:m.lookup (CW "k")=some (.int (k:Int))) (ln:m.lookup (CW "number")=some (.int nb)) (lns:m.lookup (CW "numbers")=some (.tup ns))
  (lt:m.lookup (CW "truths")=some (.ref a)) (lh:m.lookup (CW "things")=some (.ref b)) (lw:m.lookup (CW "world")=some (.ref wd)) (e1:nS (.int 2) (.int (k:Int)) H=.ok (.int p) H) (hp:¬(p=0∨1000000000 < p.natAbs)) (hw:H[wd]? = some (.dictI kvs))
  (ha:H[a]? = some (.list (iv Tr))) (hb:H[b]? = some (.list (iv Th))) (na:a ≠ wd) (nbd:b ≠ wd) (hT:Tr[k]? = some t) (hS:Th[k]? = some s) (hTl:Tr.length≤1000) (hSl:Th.length≤1000) (hns:∀ H,cm (.tup ns) (.int (k:Int)) H=.ok (.int n) H)
  (g1:dM kvs (t:Int) (.bool ((nb.fdiv p).fmod 2 == 1))=kvs1) (g2:dM kvs1 (s:Int) (.int n)=kvs2) (l1:kvs.length≤1000000) (l2:kvs1.length≤1000000):
  dP m H=.ok .next m ((H.set wd (.dictI kvs1)).set wd (.dictI kvs2)):=by
 have e2:zg (.int nb) (.int p) H=.ok (.int (nb.fdiv p)) H:=if_pos hp
 have s1:=rB (v:=.bool ((nb.fdiv p).fmod 2 == 1)) hw l1 g1
 have hw1:(H.set wd (.dictI kvs1))[wd]? = some (.dictI kvs1):=be hw
 have hb1:(H.set wd (.dictI kvs1))[b]? = some (.list (iv Th)):=aP nbd hb
 have s2:=rB (v:=.int n) hw1 l2 g2
 delta dP
 exact az (bY (aF (aF (aF (ah ln) (aF e_c (ah lk) e1) e2) e_c (kg (by decide))) e_c eO) (iX (ah lw) (bw (ah lt) (ah lk) (j8 ha hT hTl)) s1)) (aE (az (bY (bw (ah lns) (ah lk) (hns _)) (iX (ah lw) (bw (ah lh) (ah lk) (j8 hb1 hS hSl)) s2)) (aE aR)))
theorem yM{g:Fm→Hp→Out (List V)}{m:Fm}{H H1:Hp}{vs:List V}{kvs kvs':List (Int × V)}(h:g m (H++[.dictI []])=.ok vs H1) (hu:hW vs=some kvs) (hd:H1[H.length]? = some (.dictI [])) (hf:kvs.foldl (fun a kv=>dM a kv.1 kv.2) []=kvs'):kG g m H=.ok (.ref H.length) (H1.set H.length (.dictI kvs')):=by
 unfold kG;rw[h,dN,hu,hd];dsimp only;rw[hf]
theorem wb2{m:Fm}{H:Hp}{a b f:Nat}{nb x y z:Int}{xs:List V}(ln:m.lookup (CW "number")=some (.int nb)) (lns:m.lookup (CW "numbers")=some (.tup [.int x,.int y,.int z]))
  (lt:m.lookup (CW "truths")=some (.ref a)) (lh:m.lookup (CW "things")=some (.ref b)) (lo:m.lookup (CW "other")=some (.int 9)) (lf:m.lookup (CW "found")=some (.ref f))
  (ha:H[a]? = some (.list (iv [3,4,5]))) (hb:H[b]? = some (.list (iv [6,7,8]))) (hf:H[f]? = some (.list xs)) (hx:xs.length≤1000):
  ∃ H',dQ m H=.ok .next ((CW "k",.int ((2:Nat):Int))::(CW "k",.int ((1:Nat):Int))::(CW "k",.int ((0:Nat):Int))::(CW "world",.ref H.length)::m) H'∧IsW H' H.length∧H'[f]? = some (.list (xs++[.ref H.length]))∧H.length≤H'.length∧∀ i o,i ≠ f→H[i]? = some o→H'[i]? = some o:=by
 refine byC fun kq=>?_
 obtain⟨wd,hwd⟩:∃ wd,wd=H.length:=⟨_,rfl⟩
 have na:a ≠ wd:=hwd ▸ Nat.ne_of_lt (bq ha)
 have nbd:b ≠ wd:=hwd ▸ Nat.ne_of_lt (bq hb)
 have nf:f ≠ wd:=hwd ▸ Nat.ne_of_lt (bq hf)
 obtain⟨H1,hH1⟩:∃ H1,H1=(H++[AObj.dictI []]).set H.length (.dictI [(9,.int 0)]):=⟨_,rfl⟩
 refine kq ?_;try clear kq
 have k1:∀ {i o},i ≠ wd→H[i]? = some o→H1[i]? = some o:=fun n h=>by rw[hH1];exact aP (hwd ▸ n) (oY h)
 have w1:H1[wd]? = some (.dictI [(9,.int 0)]):=by rw[hH1,hwd];exact be (bc _ _ _)
 have len1:H.length≤H1.length:=by rw[hH1,List.length_set,C1];exact C9 _ _
 let b0:V:=.bool ((nb.fdiv 1).fmod 2 == 1)
 let b1:V:=.bool ((nb.fdiv 2).fmod 2 == 1)
 let b2:V:=.bool ((nb.fdiv 4).fmod 2 == 1)
 let m0:Fm:=(CW "world",.ref wd)::m
 have L:∀ {m':Fm},(∀ s:String,s ≠ "k"→m'.lookup (CW s)=m0.lookup (CW s))→m'.lookup (CW "number")=some (.int nb)∧m'.lookup (CW "numbers")=some (.tup [.int x,.int y,.int z])∧m'.lookup (CW "truths")=some (.ref a)∧m'.lookup (CW "things")=some (.ref b)∧m'.lookup (CW "world")=some (.ref wd)∧m'.lookup (CW "found")=some (.ref f):=fun h=>
  ⟨(h _ (by decide)).trans ((ak (by decide)).trans ln),(h _ (by decide)).trans ((ak (by decide)).trans lns),(h _ (by decide)).trans ((ak (by decide)).trans lt),(h _ (by decide)).trans ((ak (by decide)).trans lh),(h _ (by decide)).trans au,(h _ (by decide)).trans ((ak (by decide)).trans lf)⟩
 have one:∀ {m':Fm}{H':Hp}{k t s:Nat}{p n:Int}{kvs kvs1 kvs2:List (Int × V)},(∀ s:String,s ≠ "k"→m'.lookup (CW s)=m0.lookup (CW s))→(∀ {i o},i ≠ wd→H[i]? = some o→H'[i]? = some o)→H.length≤H'.length→H'[wd]? = some (.dictI kvs)→(∀ H,nS (.int 2) (.int (k:Int)) H=.ok (.int p) H)→¬(p=0∨1000000000 < p.natAbs)→[3,4,5][k]? = some t→[6,7,8][k]? = some s→(∀ H,cm (.tup [.int x,.int y,.int z]) (.int (k:Int)) H=.ok (.int n) H)→
   dM kvs (t:Int) (.bool ((nb.fdiv p).fmod 2 == 1))=kvs1→dM kvs1 (s:Int) (.int n)=kvs2→kvs.length≤1000000→kvs1.length≤1000000→
   ∃ H2,dP ((CW "k",.int (k:Int))::m') H'=.ok .next ((CW "k",.int (k:Int))::m') H2∧(∀ {i o},i ≠ wd→H[i]? = some o→H2[i]? = some o)∧H.length≤H2.length∧H2[wd]? = some (.dictI kvs2):=fun {m' H' k t s p n kvs kvs1 kvs2} hm hk hlen hw e1 hp hT hS hns g1 g2 l1 l2=>by
  refine byC fun kq=>?_
  obtain⟨q1,q2,q3,q4,q5,_⟩:=L (m':=(CW "k",.int (k:Int))::m') fun s hs=>(ak hs).trans (hm s hs)
  refine kq ?_;try clear kq
  exact⟨_,wb1 au q1 q2 q3 q4 q5 (e1 _) hp hw (hk na ha) (hk nbd hb) na nbd hT hS (by show 3≤1000;decide) (by show 3≤1000;decide) hns g1 g2 l1 l2,fun n h=>aP n (aP n (hk n h)),by rw[List.length_set,List.length_set];exact hlen,be (be hw)⟩
 refine byC fun kq=>?_
 obtain⟨H2,e2,k2,len2,w2⟩:=one (m':=m0) (k:=0) (t:=3) (s:=6) (p:=1) (n:=x) (kvs1:=[(9,.int 0),(3,b0)]) (kvs2:=[(9,.int 0),(3,b0),(6,.int x)]) (fun _ _=>rfl) k1 len1 w1 (fun _=>rfl) (by decide) rfl rfl (fun H=>it0) (by kernel_rfl) (by kernel_rfl) (Nat.le_of_ble_eq_true rfl) (Nat.le_of_ble_eq_true rfl)
 obtain⟨H3,e3,k3,len3,w3⟩:=one (m':=(CW "k",.int ((0:Nat):Int))::m0) (k:=1) (t:=4) (s:=7) (p:=2) (n:=y) (kvs1:=[(9,.int 0),(3,b0),(6,.int x),(4,b1)]) (kvs2:=[(9,.int 0),(3,b0),(6,.int x),(4,b1),(7,.int y)]) (fun _ h=>ak h) k2 len2 w2 (fun _=>rfl) (by decide) rfl rfl (fun H=>it1) (by kernel_rfl) (by kernel_rfl) (Nat.le_of_ble_eq_true rfl) (Nat.le_of_ble_eq_true rfl)
 obtain⟨H4,e4,k4,AZ,w4⟩:=one (m':=(CW "k",.int ((1:Nat):Int))::(CW "k",.int ((0:Nat):Int))::m0) (k:=2) (t:=5) (s:=8) (p:=4) (n:=z) (kvs1:=[(9,.int 0),(3,b0),(6,.int x),(4,b1),(7,.int y),(5,b2)]) (kvs2:=[(9,.int 0),(3,b0),(6,.int x),(4,b1),(7,.int y),(5,b2),(8,.int z)]) (fun _ h=>(ak h).trans (ak h)) k3 len3 w3 (fun _=>rfl) (by decide) rfl rfl (fun H=>nR (Nat.le_of_ble_eq_true rfl) (by decide) (by show(2:Int) < ((3:Nat):Int);decide) rfl) (by kernel_rfl) (by kernel_rfl) (Nat.le_of_ble_eq_true rfl) (Nat.le_of_ble_eq_true rfl)
 refine kq ?_;try clear kq
 have dg:∀ {vs:List (Int × V)},H4[wd]? = some (.dictI vs)→vs=[(9,.int 0),(3,b0),(6,.int x),(4,b1),(7,.int y),(5,b2),(8,.int z)]:=fun h=>by rw[w4]at h;cases h;rfl
 have lf4:((CW "k",V.int ((2:Nat):Int))::(CW "k",.int ((1:Nat):Int))::(CW "k",.int ((0:Nat):Int))::m0).lookup (CW "found")=some (.ref f):=(L (m':=(CW "k",V.int ((2:Nat):Int))::(CW "k",.int ((1:Nat):Int))::(CW "k",.int ((0:Nat):Int))::m0) fun s hs=>(ak hs).trans ((ak hs).trans (ak hs))).2.2.2.2.2
 have lw4:((CW "k",V.int ((2:Nat):Int))::(CW "k",.int ((1:Nat):Int))::(CW "k",.int ((0:Nat):Int))::m0).lookup (CW "world")=some (.ref wd):=(ak (by decide)).trans ((ak (by decide)).trans ((ak (by decide)).trans au))
 have hf4:=k4 nf hf
 have ap:=ma (v:=.ref wd) hf4 (Dc hx (by decide))
 have w:Wo:=⟨fun t=>match t with|3=>((nb.fdiv 1).fmod 2 == 1)|4=>((nb.fdiv 2).fmod 2 == 1)|_=>((nb.fdiv 4).fmod 2 == 1),fun t=>match t with|6=>x|7=>y|_=>z⟩
 refine⟨H4.set f (.list (xs++[.ref wd])),?_,?_,hwd ▸ be hf4,by rw[List.length_set];exact AZ,fun i o n h=>aP n (k4 (hwd ▸ Nat.ne_of_lt (bq h)) h)⟩
 ·delta dQ
  rw[← hwd]
  have d0:=yM (g:=ad (ae (CW "other")) (ad (fC (.int 0)) ao)) (m:=m) (H:=H) (kvs:=[(9,.int 0)]) (kvs':=[(9,.int 0)]) (aj (ah lo) (aj e_c aA)) rfl (bc _ _ _) (by kernel_rfl)
  rw[← hH1,← hwd]at d0
  refine az (bY d0 bQ) (aE (az (kh (nM (aj e_c aA) (jd (by decide))) ?_) (aE (az (cE (aW (ah lf4) hf4 rfl (aj (ah lw4) aA) ap)) (aE aR)))))
  rw[show eu 0 (3:Int).toNat=[V.int ((0:Nat):Int),.int ((1:Nat):Int),.int ((2:Nat):Int)] from rfl]
  exact(g6 (G:=fun _=>True) trivial bQ e2).trans ((g6 (G:=fun _=>True) trivial bQ e3).trans ((g6 (G:=fun _=>True) trivial bQ e4).trans (jA (G:=fun _=>True) trivial)))
 ·rw[← hwd]
  refine⟨_,⟨fun t=>if t=3 then((nb.fdiv 1).fmod 2 == 1)else if t=4 then((nb.fdiv 2).fmod 2 == 1)else((nb.fdiv 4).fmod 2 == 1),fun t=>if t=6 then x else if t=7 then y else z⟩,aP (fun q=>nf q.symm) w4,fun t v h=>?_⟩
  match t,h with
  | 3,h=>cases h;rfl
  | 4,h=>cases h;rfl
  | 5,h=>cases h;rfl
  | 6,h=>cases h;rfl
  | 7,h=>cases h;rfl
  | 8,h=>cases h;rfl
  | 9,h=>cases h;rfl
  | 0,h=>cases h
  | 1,h=>cases h
  | 2,h=>cases h
  | n + 10,h=>cases h
structure WL (m:Fm) (a b f:Nat):Prop where
 lt:m.lookup (CW "truths")=some (.ref a)
 lh:m.lookup (CW "things")=some (.ref b)
 lo:m.lookup (CW "other")=some (.int 9)
 lf:m.lookup (CW "found")=some (.ref f)
theorem WL.push{m:Fm}{a b f:Nat}{y:String}{v:V}(x:WL m a b f) (h:"truths" ≠ y∧"things" ≠ y∧"other" ≠ y∧"found" ≠ y):WL ((CW y,v)::m) a b f:=
 ⟨(ak h.1).trans x.lt,(ak h.2.1).trans x.lh,(ak h.2.2.1).trans x.lo,(ak h.2.2.2).trans x.lf⟩
structure WS (H0 H:Hp) (f:Nat) (ws:List Nat):Prop where
 lst:H[f]? = some (.list (ws.map V.ref))
 len:H0.length≤H.length
 get:∀ i o,i ≠ f→H0[i]? = some o→H[i]? = some o
 all:∀ wd∈ws,IsW H wd∧f < wd
theorem WS.add{H0 H H':Hp}{f:Nat}{ws:List Nat}(x:WS H0 H f ws) (hw:IsW H' H.length) (hl:H'[f]? = some (.list (ws.map V.ref++[.ref H.length]))) (hlen:H.length≤H'.length) (g:∀ i o,i ≠ f→H[i]? = some o→H'[i]? = some o):WS H0 H' f (ws++[H.length]):=by
 refine⟨by rw[hl,De];rfl,CX x.len hlen,fun i o n h=>g i o n (x.get i o n h),fun wd h=>?_⟩
 rcases List.mem_append.mp h with h|h
 ·refine byC fun kq=>?_
  obtain⟨q,r⟩:=x.all wd h
  refine kq ?_;try clear kq
  exact⟨q.get fun o h=>g wd o (Nat.ne_of_gt r) h,r⟩
 ·rw[List.mem_singleton.mp h];exact⟨hw,bq x.lst⟩
theorem CH{H0:Hp}{a b f:Nat}{nb:Int}(ha:H0[a]? = some (.list (iv [3,4,5]))) (hb:H0[b]? = some (.list (iv [6,7,8]))) (na:a ≠ f) (nbf:b ≠ f) (its:List (Int × Int × Int)):
  ∀ {m:Fm}{H:Hp}{ws:List Nat},WL m a b f→m.lookup (CW "number")=some (.int nb)→WS H0 H f ws→ws.length + its.length≤1000→
  ∃ m' H' ws',eX (fun _=>True) (bA (CW "numbers")) dQ (its.map fun p=>V.tup [.int p.1,.int p.2.1,.int p.2.2]) m H=.ok .next m' H'∧WL m' a b f∧WS H0 H' f ws'∧ws'.length=ws.length + its.length:=by
 induction its with
 | nil=>exact fun {m H ws} l _ s _=>⟨m,H,ws,jA (G:=fun _=>True) trivial,l,s,rfl⟩
 | cons p r ih=>
  intro m H ws l ln s hl
  have lm:WL ((CW "numbers",.tup [.int p.1,.int p.2.1,.int p.2.2])::m) a b f:=l.push ⟨by decide,by decide,by decide,by decide⟩
  refine byC fun kq=>?_
  obtain⟨H1,e1,w1,l1,n1,g1⟩:=wb2 (m:=(CW "numbers",.tup [.int p.1,.int p.2.1,.int p.2.2])::m) (H:=H) (xs:=ws.map V.ref) ((ak (by decide)).trans ln) au lm.lt lm.lh lm.lo lm.lf (s.get a _ na ha) (s.get b _ nbf hb) s.lst (by rw[C4];exact CX (C9 _ _) hl)
  have s1:=s.add w1 l1 n1 g1
  have hk:∀ {y:String},y="k"→"truths" ≠ y∧"things" ≠ y∧"other" ≠ y∧"found" ≠ y:=fun h=>by rw[h];decide
  have lw:WL ((CW "world",.ref H.length)::(CW "numbers",.tup [.int p.1,.int p.2.1,.int p.2.2])::m) a b f:=lm.push ⟨by decide,by decide,by decide,by decide⟩
  obtain⟨m',H',ws',e',l',s',n'⟩:=ih (((lw.push (hk rfl)).push (hk rfl)).push (hk rfl)) ((ak (by decide)).trans ((ak (by decide)).trans ((ak (by decide)).trans ((ak (by decide)).trans ((ak (by decide)).trans ln))))) s1 (by rw[C1];exact CX (Nat.le_of_eq (by rw[Dh];show ws.length + (1 + r.length)=ws.length + (r.length + 1);rw[Nat.add_comm 1])) hl)
  refine kq ?_;try clear kq
  refine⟨m',H',ws',(g6 (G:=fun _=>True) trivial bQ e1).trans e',l',s',?_⟩
  rw[n',C1,Df,Dh]
  exact congrArg (ws.length + ·) (Nat.add_comm 1 r.length)
theorem Bv{H0:Hp}{a b f:Nat}(ha:H0[a]? = some (.list (iv [3,4,5]))) (hb:H0[b]? = some (.list (iv [6,7,8]))) (na:a ≠ f) (nbf:b ≠ f) (its:List Int):
  ∀ {m:Fm}{H:Hp}{ws:List Nat},WL m a b f→WS H0 H f ws→ws.length + its.length * 5≤1000→
  ∃ m' H' ws',eX (fun _=>True) (bA (CW "number")) eY (its.map V.int) m H=.ok .next m' H'∧WL m' a b f∧WS H0 H' f ws'∧ws'.length=ws.length + its.length * 5:=by
 induction its with
 | nil=>exact fun {m H ws} l s _=>⟨m,H,ws,jA (G:=fun _=>True) trivial,l,s,by rw[List.length_nil,Nat.zero_mul];rfl⟩
 | cons p r ih=>
  intro m H ws l s hl
  have e5:ws.length + (p::r).length * 5=(ws.length + 5) + r.length * 5:=by rw[Df,Nat.succ_mul,Dh,Nat.add_comm 5]
  rw[e5]at hl
  have lm:WL ((CW "number",.int p)::m) a b f:=l.push ⟨by decide,by decide,by decide,by decide⟩
  refine byC fun kq=>?_
  obtain⟨m1,H1,ws1,e1,l1,s1,n1⟩:=CH ha hb na nbf [(0,0,0),(0,0,1),(0,1,0),(0,1,1),(0,1,2)] lm au s (CX (C9 _ _) hl)
  have n1:ws1.length=ws.length + 5:=n1
  obtain⟨m',H',ws',e',l',s',n'⟩:=ih l1 s1 (by rw[n1];exact hl)
  refine kq ?_;try clear kq
  refine⟨m',H',ws',(g6 (G:=fun _=>True) (m2:=m1) (H2:=H1) trivial bQ ?_).trans e',l',s',by rw[n',n1,e5]⟩
  delta eY
  have t3:∀ {x y z:Int}{m:Fm}{H:Hp},bM (ad (fC (.int x)) (ad (fC (.int y)) (ad (fC (.int z)) ao))) m H=.ok (.tup [.int x,.int y,.int z]) H:=cC (aj e_c (aj e_c (aj e_c aA))) rfl
  exact az (kh (qB (cC (aj t3 (aj t3 (aj t3 (aj t3 (aj t3 aA))))) rfl)) e1) (aE aR)
theorem vL{H:Hp}{a b:Nat}(ha:H[a]? = some (.list (iv [3,4,5]))) (hb:H[b]? = some (.list (iv [6,7,8]))):
  ∃ (H':Hp) (ws:List Nat),fp [.ref a,.ref b,.int 9] H=.ok (.ref H.length) H'∧H'[H.length]? = some (.list (ws.map V.ref))∧ws.length≤40∧(∀ wd∈ws,IsW H' wd∧H.length≤wd)∧Ext H H':=by
 have x1:Ext H (H++[AObj.list []]):=.app _ _
 have lr:([(CW "truths",.ref a),(CW "things",.ref b),(CW "other",.int 9)]:Fm).lookup (CW "truths")=some (.ref a):=au
 have na:=Nat.ne_of_lt (bq ha)
 have nb:=Nat.ne_of_lt (bq hb)
 let fr0:Fm:=[(CW "truths",.ref a),(CW "things",.ref b),(CW "other",.int 9)]
 have s0:WS (H++[AObj.list []]) (H++[AObj.list []]) H.length []:=⟨bc _ _ _,Nat.le_refl _,fun _ _ _ h=>h,fun _ h=>by cases h⟩
 have l0:WL ((CW "found",.ref H.length)::fr0) a b H.length:=⟨(ak (by decide)).trans au,(ak (by decide)).trans ((ak (by decide)).trans au),(ak (by decide)).trans ((ak (by decide)).trans ((ak (by decide)).trans au)),au⟩
 refine byC fun kq=>?_
 obtain⟨m',H',ws',e',l',s',n'⟩:=Bv (x1.get ha) (x1.get hb) na nb [0,1,2,3,4,5,6,7] l0 s0 (by show 0 + 8 * 5≤1000;decide)
 refine kq ?_;try clear kq
 have n':ws'.length=0 + 8 * 5:=n'
 refine⟨H',ws',?_,s'.lst,by rw[n'];decide,fun wd h=>⟨(s'.all wd h).1,Nat.le_of_lt (s'.all wd h).2⟩,Ext.of_get fun i hi=>?_⟩
 ·delta fp j6
  refine cq fr0 ⟨rfl,rfl⟩ (az (bY (eE aA (eN (Nat.zero_le _))) bQ) (aE (az (kh (nM (aj e_c aA) (jd (by decide))) ?_) (aE (az (b9 (ah l'.lf)) bO)))))
  rw[show eu 0 (8:Int).toNat=([0,1,2,3,4,5,6,7]:List Int).map V.int from rfl]
  exact e'
 ·have:=s'.get i H[i] (Nat.ne_of_lt hi) (oY (C0 hi))
  rw[this,C0 hi]
theorem Ch{H0:Hp}{T:List TK}{wd i j:Nat}{kvs:List (Int × V)}{w:Wo}{L:List V}(B:BB H0 T) (O:oOk T) (A:aOk T) (hl:T.length≤1000) (hw:H0[wd]? = some (.dictI kvs)) (hwv:∀ (t:Nat) v,w.w t=some v→dI kvs (t:Int)=some v.v) (hi:H0.length≤i) (hj:H0[j]? = some (.list L)) (ts:List Nat):
  (∀ t∈ts,cJ 20 T w.w t=some (vB t w))→∀ {H:Hp}{m:Fm}{acc:List W},Ext H0 H→H[i]? = some (.list (acc.map W.v))→m.lookup (CW "bank")=some (.ref 3)→m.lookup (CW "world")=some (.ref wd)→acc.length + ts.length≤1000→
  ∃ H',bN (fun H=>H[j]? = some (.list L)) (cz (CW "t")) (fC (.bool true)) j5 i (iv ts) m H=.ok () H'∧Ext H0 H'∧H'[i]? = some (.list ((acc++ts.map fun t=>vB t w).map W.v)):=by
 induction ts with
 | nil=>intro _ H m acc e h _ _ _;exact⟨H,fu (G:=fun H=>H[j]? = some (.list L)) (e.get hj),e,by rw[List.map_nil,List.append_nil];exact h⟩
 | cons t r ih=>
  intro ht H m acc e h m1 m2 ha
  refine byC fun kq=>?_
  obtain⟨H1,e1,x1⟩:=ng O A hl hwv 20 (B.ext e) (e.get hw) (ht t (CY ..))
  have hal:acc.length < 1000000:=Dc (CX (C9 _ _) ha) (by decide)
  have hm2:acc.map W.v++[(vB t w).v]=(acc++[vB t w]).map W.v:=by rw[De];rfl
  have m1':((CW "t",V.int (t:Int))::m).lookup (CW "bank")=some (.ref 3):=(ak (by decide)).trans m1
  have m2':((CW "t",V.int (t:Int))::m).lookup (CW "world")=some (.ref wd):=(ak (by decide)).trans m2
  obtain⟨H',e',x',h'⟩:=ih (fun u hu=>ht u (CZ _ hu)) (H:=H1.set i (.list ((acc++[vB t w]).map W.v))) (m:=(CW "t",.int (t:Int))::m) (acc:=acc++[vB t w]) ((e.trans x1).set hi _) (be (x1.get h)) m1' m2'
   (by rw[C1];exact CX (Nat.le_of_eq (by rw[Dh];show acc.length + (1 + r.length)=acc.length + (r.length + 1);rw[Nat.add_comm 1])) ha)
  refine kq ?_;try clear kq
  refine⟨H',?_,x',by rw[h',List.append_assoc];rfl⟩
  have st:j5 ((CW "t",.int (t:Int))::m) H=.ok (vB t w).v H1:=by
   delta j5
   exact aV (aj (ah m1') (aj (ah au) (aj (ah m2') aA))) e1
  rw[show iv (t::r)=V.int (t:Int)::iv r from rfl,kB (G:=fun H=>H[j]? = some (.list L)) (m1:=(CW "t",.int (t:Int))::m) (e.get hj) rfl e_c st (x1.get h) (by rw[C4];exact hal),hm2]
  exact e'
theorem CG{H:Hp}{T:List TK}{wd j n l:Nat}{x:Nm}{ts:List Nat}{m m0:Fm}{kvs:List (Int × V)}{w:Wo}{v:W}(B:BB H T) (O:oOk T) (A:aOk T) (hl:T.length≤1000) (hw:H[wd]? = some (.dictI kvs)) (hwv:∀ (t:Nat) v,w.w t=some v→dI kvs (t:Int)=some v.v) (hj:H[j]? = some (.list (iv ts))) (hts:ts.length≤10)
  (ht:∀ t∈ts,cJ 20 T w.w t=some (vB t w)) (hn:cJ 20 T w.w n=some v) (hlate:cJ 20 T w.w l=some v) (hd:oO x (ts.map fun t=>vB t w)=some v)
  (lb:m.lookup (CW "bank")=some (.ref 3)) (ln:m.lookup (CW "name")=some (.str (CW x.s))) (lg:m.lookup (CW "given")=some (.ref j)) (lf:m.lookup (CW "found")=some (.int (n:Int))) (ll:m.lookup (CW "late")=some (.int (l:Int))) (lw:m.lookup (CW "world")=some (.ref wd))
  (hm0:(m.filter fun p=>[CW "bank",CW "world"].contains p.1)=m0) (b0:m0.lookup (CW "bank")=some (.ref 3)) (w0:m0.lookup (CW "world")=some (.ref wd)):
  ∃ H',j2 m H=.ok .next ((CW "due",v.v)::m) H'∧Ext H H':=by
 have x1:Ext H (H++[AObj.list []]):=.app _ _
 refine byC fun kq=>?_
 obtain⟨H1,e1,y1,g1⟩:=Ch (i:=H.length) B O A hl hw hwv (Nat.le_refl _) hj ts ht (H:=H++[AObj.list []]) (m:=m0) (acc:=[]) x1 (bc _ _ _) b0 w0 (CX (Nat.le_of_eq (Nat.zero_add _)) (CX hts (by decide)))
 rw[List.nil_append]at g1
 obtain⟨H2,e2,y2⟩:=AL g1 (by rw[C4];exact CX hts (by decide)) hd
 have z2:=y1.trans y2
 obtain⟨H3,e3,y3⟩:=ng O A hl hwv 20 (B.ext z2) (z2.get hw) hn
 have z3:=z2.trans y3
 obtain⟨H4,e4,y4⟩:=ng O A hl hwv 20 (B.ext z3) (z3.get hw) hlate
 refine kq ?_;try clear kq
 let m1:Fm:=(CW "due",v.v)::m
 have ne:∀ {H:Hp},oNe v.v v.v H=.ok (.bool false) H:=by intro H;rw[Au,mB];rfl
 refine⟨H4,?_,z3.trans y4⟩
 have sk:∀ {s:String},s ≠ "due"→m1.lookup (CW s)=m.lookup (CW s):=fun h=>ak h
 delta j2
 exact az (bY (aV (aj (ah ln) (aj (fG (jF (ah lg) hj) hm0 e1) aA)) e2) bQ) (aE (az (b4 (b:=false) (lE (b:=false) (aF (aV (aj (ah ((sk (by decide)).trans lb)) (aj (ah ((sk (by decide)).trans lf)) (aj (ah ((sk (by decide)).trans lw)) aA))) e3) (ah au) ne) (c_f (aF (aV (aj (ah ((sk (by decide)).trans lb)) (aj (ah ((sk (by decide)).trans ll)) (aj (ah ((sk (by decide)).trans lw)) aA))) e4) (ah au) ne))) (c_f aR)) (aE aR)))
structure TL (m:Fm) (x:Nm) (j n l:Nat):Prop where
 b:m.lookup (CW "bank")=some (.ref 3)
 nm:m.lookup (CW "name")=some (.str (CW x.s))
 g:m.lookup (CW "given")=some (.ref j)
 f:m.lookup (CW "found")=some (.int (n:Int))
 l:m.lookup (CW "late")=some (.int (l:Int))
theorem TL.push{m:Fm}{x:Nm}{j n l:Nat}{y:String}{v:V}(t:TL m x j n l) (h:"bank" ≠ y∧"name" ≠ y∧"given" ≠ y∧"found" ≠ y∧"late" ≠ y):TL ((CW y,v)::m) x j n l:=
 ⟨(ak h.1).trans t.b,(ak h.2.1).trans t.nm,(ak h.2.2.1).trans t.g,(ak h.2.2.2.1).trans t.f,(ak h.2.2.2.2).trans t.l⟩
theorem rH{H0:Hp}{T:List TK}{wl j n l:Nat}{x:Nm}{ts:List Nat}{L:List V}{v:Wo→W}(B:BB H0 T) (O:oOk T) (A:aOk T) (hl:T.length≤1000) (hj:H0[j]? = some (.list (iv ts))) (hts:ts.length≤10) (hwl:H0[wl]? = some (.list L))
  (ht:∀ w:Wo,∀ t∈ts,cJ 20 T w.w t=some (vB t w)) (hn:∀ w:Wo,cJ 20 T w.w n=some (v w)) (hlate:∀ w:Wo,cJ 20 T w.w l=some (v w)) (hd:∀ w:Wo,oO x (ts.map fun t=>vB t w)=some (v w)) (ws:List Nat):
  (∀ wd∈ws,IsW H0 wd)→∀ {H:Hp}{m:Fm},Ext H0 H→TL m x j n l→∃ m' H',eX (fun H=>H[wl]? = some (.list L)) (bA (CW "world")) j2 (ws.map V.ref) m H=.ok .next m' H'∧Ext H0 H'∧∀ s:String,s ≠ "world"→s ≠ "due"→m'.lookup (CW s)=m.lookup (CW s):=by
 induction ws with
 | nil=>intro _ H m e _;exact⟨m,H,jA (G:=fun H=>H[wl]? = some (.list L)) (e.get hwl),e,fun _ _ _=>rfl⟩
 | cons wd r ih=>
  intro hws H m e t
  refine byC fun kq=>?_
  obtain⟨kvs,w,hw,hwv⟩:=hws wd (CY ..)
  have t1:TL ((CW "world",.ref wd)::m) x j n l:=t.push ⟨by decide,by decide,by decide,by decide,by decide⟩
  have lf:=gq [CW "bank",CW "world"]
  obtain⟨H1,e1,x1⟩:=CG (m:=(CW "world",.ref wd)::m) (B.ext e) O A hl (e.get hw) hwv (e.get hj) hts (ht w) (hn w) (hlate w) (hd w) t1.b t1.nm t1.g t1.f t1.l au rfl ((lf _ (by kernel_rfl) _).trans t1.b) ((lf _ (by kernel_rfl) _).trans au)
  obtain⟨m',H',e',x',k'⟩:=ih (fun u hu=>hws u (CZ _ hu)) (e.trans x1) (t1.push (y:="due") (v:=(v w).v) ⟨by decide,by decide,by decide,by decide,by decide⟩)
  refine kq ?_;try clear kq
  exact⟨m',H',(g6 (G:=fun H=>H[wl]? = some (.list L)) (e.get hwl) bQ e1).trans e',x',fun s h1 h2=>(k' s h1 h2).trans ((ak h2).trans (ak h1))⟩
noncomputable def nms:List Nm:=[.and,.or,.xor,.imp,.eq,.dist,.ite,.not,.xor,.imp,.tru,.dist]
theorem zd{H:Hp}{k:Nat}{m:Fm}(D:FD H k) (hk:k≤1000) (lf:m.lookup (CW "feed")=some (.ref 1)):∃ (x:Nm) (H':Hp),ba (fC (.tup (nms.map fun x=>V.str (CW x.s)))) (aG aX (ad (ae (CW "feed")) (ad (aG bL (ad (fC (.tup (nms.map fun x=>V.str (CW x.s)))) (ao))) (ao)))) m H=.ok (.str (CW x.s)) H'∧FD H' (k + 1)∧dy 1 H H':=by
 refine byC fun kq=>?_
 obtain⟨d,H',hd,e,D',S⟩:=lL (w:=12) D hk (by decide)
 refine kq ?_;try clear kq
 have hd':d < nms.length:=Int.ofNat_lt.mp hd
 have b1:bL [.tup (nms.map fun x=>V.str (CW x.s))] H=.ok (.int 12) H:=by kernel_rfl
 exact⟨nms[d],H',bw e_c (aV (aj (ah lf) (aj (aV (aj e_c aA) b1) aA)) e) (nR (by rw[C4];exact Nat.le_of_ble_eq_true rfl) (Dj _) (by rw[C4];exact hd) (by rw[Di,List.getElem?_map,C0 hd'];rfl)),D',S⟩
theorem xR{H:Hp}{T:List TK}{j:Nat}{ts:List Nat}{m m0:Fm}(B:BB H T) (X:Tm T) (hl:T.length≤1000) (hj:H[j]? = some (.list (iv ts))) (hp:∀ t∈ts,t∈fV) (hts:ts.length≤10) (lg:m.lookup (CW "given")=some (.ref j)) (lb:m.lookup (CW "bank")=some (.ref 3)):
  ∃ H',b7 [CW "bank"] (dz (ae (CW "given"))) (cz (CW "t")) (fC (.bool true)) gM m H=.ok (.ref H.length) H'∧Ext H H'∧H'[H.length]? = some (.list (iv (ts.map sN))):=by
 have x1:Ext H (H++[AObj.list []]):=.app _ _
 have m0b:(m.filter fun p=>[CW "bank"].contains p.1).lookup (CW "bank")=some (.ref 3):=(gq [CW "bank"] _ (by kernel_rfl) m).trans lb
 have key:∀ (ts:List Nat),(∀ t∈ts,t∈fV)→∀ {m:Fm}{H1:Hp}{acc:List Nat},Ext H H1→H1[H.length]? = some (.list (iv acc))→m.lookup (CW "bank")=some (.ref 3)→acc.length + ts.length≤1000→
   ∃ H',bN (fun H'=>H'[j]? = H[j]?) (cz (CW "t")) (fC (.bool true)) gM H.length (iv ts) m H1=.ok () H'∧Ext H H'∧H'[H.length]? = some (.list (iv (acc++ts.map sN))):=fun ts=>by
  induction ts with
  | nil=>intro _ m H1 acc e h _ _;exact⟨H1,fu (G:=fun H'=>H'[j]? = H[j]?) (by rw[hj];exact e.get hj),e,by rw[List.map_nil,List.append_nil];exact h⟩
  | cons t r ih=>
   intro ht m H1 acc e h mb ha
   have tm:=X.mn (ht t (CY ..))
   have so:=pA (B.ext e).bk (C0 tm.lt) hl
   have hs:(T[t]'tm.lt).2.2.1=(sN t:Int):=(fh (C0 tm.lt)).symm.trans tm.srt
   rw[hs]at so
   have mb':((CW "t",V.int (t:Int))::m).lookup (CW "bank")=some (.ref 3):=(ak (by decide)).trans mb
   have st:gM ((CW "t",.int (t:Int))::m) H1=.ok (.int (sN t:Int)) H1:=by
    delta gM
    exact aW (ah mb') (e.get B.bk.bank) (by kernel_rfl) (aj (ah au) aA) so
   have hm2:iv acc++[V.int (sN t:Int)]=iv (acc++[sN t]):=by unfold iv;rw[De];rfl
   refine byC fun kq=>?_
   obtain⟨H',e',x',h'⟩:=ih (fun u hu=>ht u (CZ _ hu)) (m:=(CW "t",.int (t:Int))::m) (H1:=H1.set H.length (.list (iv (acc++[sN t])))) (acc:=acc++[sN t]) (e.set (Nat.le_refl _) _) (be h) mb' (by rw[C1];exact CX (Nat.le_of_eq (by rw[Dh];show acc.length + (1 + r.length)=acc.length + (r.length + 1);rw[Nat.add_comm 1])) ha)
   refine kq ?_;try clear kq
   refine⟨H',?_,x',by rw[h',List.append_assoc];rfl⟩
   rw[show iv (t::r)=V.int (t:Int)::iv r from rfl,kB (G:=fun H'=>H'[j]? = H[j]?) (m1:=(CW "t",.int (t:Int))::m) (by rw[hj];exact e.get hj) rfl e_c st h (by rw[aY];exact Dc (CX (C9 _ _) ha) (by decide)),hm2]
   exact e'
 refine byC fun kq=>?_
 obtain⟨H',e',x',h'⟩:=key ts hp x1 (acc:=[]) (bc _ _ _) m0b (CX (Nat.le_of_eq (Nat.zero_add _)) (CX hts (by decide)))
 refine kq ?_;try clear kq
 rw[List.nil_append]at h'
 rw[hj]at e'
 exact⟨H',fG (jF (ah lg) hj) rfl e',x',h'⟩
structure TS (H:Hp) (T:List TK) (k a b wl mk:Nat) (ws:List Nat):Prop where
 B:BB H T
 X:Tm T
 D:FD H k
 M:MK H mk
 ha:H[a]? = some (.list (iv [3,4,5,10,1]))
 hb:H[b]? = some (.list (iv [6,7,8]))
 hw:H[wl]? = some (.list (ws.map V.ref))
 a14:14≤a
 b14:14≤b
 w14:14≤wl
 all:∀ wd∈ws,IsW H wd∧14≤wd
theorem TS.kp{H H':Hp}{T T':List TK}{k k' a b wl mk:Nat}{ws:List Nat}(s:TS H T k a b wl mk ws) (g:Kp H H') (B:BB H' T') (X:Tm T') (D:FD H' k'):TS H' T' k' a b wl mk ws:=
 ⟨B,X,D,s.M.kp g,g.at14 s.a14 s.ha,g.at14 s.b14 s.hb,g.at14 s.w14 s.hw,s.a14,s.b14,s.w14,fun wd h=>⟨(s.all wd h).1.get fun o e=>g.at14 (s.all wd h).2 e,(s.all wd h).2⟩⟩
structure FL (m:Fm) (a b wl mk:Nat):Prop where
 feed:m.lookup (CW "feed")=some (.ref 1)
 bank:m.lookup (CW "bank")=some (.ref 3)
 tr:m.lookup (CW "truths")=some (.ref a)
 th:m.lookup (CW "things")=some (.ref b)
 ot:m.lookup (CW "other")=some (.int ((9:Nat):Int))
 wl:m.lookup (CW "worlds")=some (.ref wl)
 mkr:m.lookup (CW "maker")=some (.ref mk)
theorem FL.of{m m':Fm}{a b wl mk:Nat}(x:FL m a b wl mk) (h:∀ s∈["feed","bank","truths","things","other","worlds","maker"],m'.lookup (CW s)=m.lookup (CW s)):FL m' a b wl mk:=
 ⟨(h _ (by decide)).trans x.feed,(h _ (by decide)).trans x.bank,(h _ (by decide)).trans x.tr,(h _ (by decide)).trans x.th,(h _ (by decide)).trans x.ot,(h _ (by decide)).trans x.wl,(h _ (by decide)).trans x.mkr⟩
theorem FL.push{m:Fm}{a b wl mk:Nat}{y:String}{v:V}(x:FL m a b wl mk) (h:∀ s∈["feed","bank","truths","things","other","worlds","maker"],s ≠ y):FL ((CW y,v)::m) a b wl mk:=x.of fun s hs=>ak (h s hs)
theorem yX{H:Hp}{T:List TK}{k a b wl mk:Nat}{ws:List Nat}{m:Fm}(s:TS H T k a b wl mk ws) (F:FL m a b wl mk) (hk:k≤800) (hl:T.length≤800):∃ (x:Nm) (j:Nat) (ts:List Nat) (H3:Hp) (k3:Nat),
  TS H3 (c9 T x ts).2 k3 a b wl mk ws∧Kp H H3∧k3≤k + 11∧H3[j]? = some (.list (iv ts))∧14≤j∧ts.length≤5∧(∀ t∈ts,t∈fV)∧
  ∀ {B:FS}{r:OutS},B ((CW "found",(match (c9 T x ts).1 with|some n=>.int (n:Int)|none=>.none))::(CW "given",.ref j)::(CW "name",.str (CW x.s))::m) H3=r→
   am (aH (ba (fC (.tup (nms.map fun x=>V.str (CW x.s)))) (aG aX (ad (ae (CW "feed")) (ad (aG bL (ad (fC (.tup (nms.map fun x=>V.str (CW x.s)))) (ao))) (ao))))) (bA (CW "name"))) (am (aH (aG dU (ad (ae (CW "feed")) (ad (ae (CW "name")) (ad (ae (CW "truths")) (ad (ae (CW "things")) (ad (ae (CW "other")) (ao))))))) (bA (CW "given"))) (am (aH (aG dw (ad (ae (CW "maker")) (ad (ae (CW "name")) (ad (ae (CW "given")) (ao))))) (bA (CW "found"))) B)) m H=r:=by
 refine byC fun kq=>?_
 obtain⟨x,H1,e1,D1,S1⟩:=zd s.D (CX hk (by decide)) F.feed
 have s1:=s.kp S1.kp (s.B.step S1) s.X D1
 obtain⟨j,ts,H2,k2,e2,D2,hk2,S2,g2,j14,l2,p2⟩:=wC (x:=x) (o:=9) D1 (CX (Db hk 1) (by decide)) s1.ha s1.hb s.a14 s.b14 (by intro z;cases z) (by intro z;cases z) (Nat.le_of_ble_eq_true rfl) (Nat.le_of_ble_eq_true rfl)
 have s2:=s1.kp S2.kp (s1.B.step S2) s.X D2
 have p2:∀ t∈ts,t∈fV:=p2
 have l1:1 < T.length:=(List.getElem?_eq_some_iff.mp s.X.t1).1
 obtain⟨H3,B3,C3,e3⟩:=rD x s2.B s.X.oOk s2.M g2 j14 (fun t ht=>(s.X.mn (p2 t ht)).lt) l1 (CX l2 (by decide)) hl
 refine kq ?_;try clear kq
 have X3:Tm (c9 T x ts).2:=by
  cases hr:jL x (ts.map sN)with
  | true=>obtain⟨T1,e,g⟩:=wk s.X p2 (CX l2 (by decide)) hr;rw[e];exact s.X.gr g
  | false=>obtain⟨v,⟨n,T1,e,g,_,_⟩,_⟩:=sd s.X p2 (CX l2 (by decide)) hr;rw[show c9 T x ts=(some n,T1) from e];exact s.X.gr g
 have s3:=s2.kp C3.kp B3 X3 (D2.chg C3)
 let m1:Fm:=(CW "name",.str (CW x.s))::m
 let m2:Fm:=(CW "given",.ref j)::m1
 have F1:FL m1 a b wl mk:=F.push (by decide)
 have F2:FL m2 a b wl mk:=F1.push (by decide)
 have hn2:m2.lookup (CW "name")=some (.str (CW x.s)):=(ak (by decide)).trans au
 refine⟨x,j,ts,H3,k2,s3,(S1.kp.trans S2.kp).trans C3.kp,CX hk2 (Nat.le_of_eq (Dh k 1 10)),C3.get _ _ (.inr j14) g2,j14,l2,p2,fun {B r} hB=>?_⟩
 exact az (bY e1 bQ) (aE (az (bY (aV (aj (ah F1.feed) (aj (ah au) (aj (ah F1.tr) (aj (ah F1.th) (aj (ah F1.ot) aA))))) e2) bQ) (aE (az (bY (aV (aj (ah F2.mkr) (aj (ah hn2) (aj (ah au) aA))) e3) bQ) (aE hB)))))
theorem A9{b:Bool}{H:Hp}:oNe (.bool b) (.bool b) H=.ok (.bool false) H:=by
 have:=Au (H:=H) (.b b) (.b b)
 rw[mB]at this
 exact this
theorem wb{H:Hp}{T:List TK}{j:Nat}{x:Nm}{ts:List Nat}{m:Fm}{fv:V}(B:BB H T) (X:Tm T) (hl:T.length≤1000) (hj:H[j]? = some (.list (iv ts))) (hp:∀ t∈ts,t∈fV) (hts:ts.length≤5) (ln:m.lookup (CW "name")=some (.str (CW x.s))) (lg:m.lookup (CW "given")=some (.ref j)) (lb:m.lookup (CW "bank")=some (.ref 3)) (lf:m.lookup (CW "found")=some fv)
  (hf:gy fv .none H=.ok (.bool (jL x (ts.map sN))) H):
  ∃ H',fIf (aD oNe (aD gy (ae (CW "found")) (fC .none)) (aG dH (ad (ae (CW "name")) (ad (b7 [CW "bank"] (dz (ae (CW "given"))) (cz (CW "t")) (fC (.bool true)) gM) (ao))))) (am (a6 (fC (.bool false))) av) av m H=.ok .next m H'∧Ext H H':=by
 refine byC fun kq=>?_
 obtain⟨H1,e1,x1,g1⟩:=xR (m0:=m) B X hl hj hp (CX hts (by decide)) lg lb
 obtain⟨H2,e2,x2⟩:=sH (x:=x) g1 (by rw[C4];exact CX hts (by decide))
 refine kq ?_;try clear kq
 exact⟨H2,b4 (b:=false) (aF (aF (ah lf) e_c hf) (aV (aj (ah ln) (aj e1 aA)) e2) A9) (c_f aR),x1.trans x2⟩
noncomputable def oA(H:Hp) (T:List TK) (k a b wl mk:Nat) (ws:List Nat) (m:Fm):Prop:=∃ fl m' H' T' k',iL m H=.ok fl m' H'∧(fl=.next∨fl=.cont)∧TS H' T' k' a b wl mk ws∧FL m' a b wl mk∧Kp H H'∧k'≤k + 30∧T'.length≤T.length + 40
theorem zS{H:Hp}{T:List TK}{k a b wl mk:Nat}{ws:List Nat}{m:Fm}(s:TS H T k a b wl mk ws) (F:FL m a b wl mk) (hk:k≤800) (hl:T.length≤700)
  (rest:∀ {x:Nm}{j k3:Nat}{ts:List Nat}{H3:Hp},jL x (ts.map sN)=false→TS H3 (c9 T x ts).2 k3 a b wl mk ws→Kp H H3→k3≤k + 11→H3[j]? = some (.list (iv ts))→14≤j→ts.length≤5→(∀ t∈ts,t∈fV)→(∀ {B:FS}{r:OutS},B ((CW "found",(match (c9 T x ts).1 with|some n=>.int (n:Int)|none=>.none))::(CW "given",.ref j)::(CW "name",.str (CW x.s))::m) H3=r→
   am (aH (ba (fC (.tup (nms.map fun x=>V.str (CW x.s)))) (aG aX (ad (ae (CW "feed")) (ad (aG bL (ad (fC (.tup (nms.map fun x=>V.str (CW x.s)))) (ao))) (ao))))) (bA (CW "name"))) (am (aH (aG dU (ad (ae (CW "feed")) (ad (ae (CW "name")) (ad (ae (CW "truths")) (ad (ae (CW "things")) (ad (ae (CW "other")) (ao))))))) (bA (CW "given"))) (am (aH (aG dw (ad (ae (CW "maker")) (ad (ae (CW "name")) (ad (ae (CW "given")) (ao))))) (bA (CW "found"))) B)) m H=r)→oA H T k a b wl mk ws m):oA H T k a b wl mk ws m:=by
 refine byC fun kq=>?_
 obtain⟨x,j,ts,H3,k3,s3,g3,hk3,hj,j14,l5,hp,run⟩:=yX s F hk (CX hl (by decide))
 refine kq ?_;try clear kq
 cases hr:jL x (ts.map sN)with
 | false=>exact rest hr s3 g3 hk3 hj j14 l5 hp run
 | true=>
  refine byC fun kq=>?_
  obtain⟨T1,e,g⟩:=wk s.X hp (CX l5 (by decide)) hr
  refine kq ?_;try clear kq
  have lenT:T1.length≤T.length + 12:=by
   refine byC fun kq=>?_
   obtain⟨t,e1,e2,_⟩:=g.app
   refine kq ?_;try clear kq
   rw[e1,C1];exact Da e2 _
  rw[e]at s3 run
  let m3:Fm:=(CW "found",.none)::(CW "given",.ref j)::(CW "name",.str (CW x.s))::m
  have F3:FL m3 a b wl mk:=((F.push (y:="name") (by decide)).push (y:="given") (by decide)).push (y:="found") (by decide)
  refine byC fun kq=>?_
  obtain⟨H4,e4,x4⟩:=wb (m:=m3) (fv:=.none) s3.B s3.X (CX lenT (CX (Db hl 12) (by decide))) hj hp l5 ((ak (by decide)).trans ((ak (by decide)).trans au)) ((ak (by decide)).trans au) F3.bank au (by rw[hr];rfl)
  refine kq ?_;try clear kq
  refine⟨.cont,m3,H4,T1,k3,?_,.inr rfl,s3.kp x4.kp (s3.B.ext x4) s3.X (s3.D.ext x4),F3,g3.trans x4.kp,CX hk3 (Da (by decide) k),CX lenT (Da (by decide) _)⟩
  delta iL
  exact run (az e4 (aE (az (b4 (b:=true) (aF (ah au) e_c A8) (c_t (az (fl:=.cont) rfl wM))) wM)))
theorem CS{ts:List Nat}(h:jL .ite (ts.map sN)=false):∃ c a b,ts=[c,a,b]:=by
 match ts,h with
 | [c,a,b],_=>exact⟨c,a,b,rfl⟩
 | [],h=>cases h
 | [_],h=>cases h
 | [_,_],h=>cases h
 | _::_::_::_::_,h=>cases h
theorem zL{H:Hp}{T:List TK}{j:Nat}{x:Nm}{ts:List Nat}{m:Fm}(B:BB H T) (X:Tm T) (hl:T.length≤1000) (hj:H[j]? = some (.list (iv ts))) (hp:∀ t∈ts,t∈fV) (hts:ts.length≤5) (hr:jL x (ts.map sN)=false) (ln:m.lookup (CW "name")=some (.str (CW x.s))) (lg:m.lookup (CW "given")=some (.ref j)) (lb:m.lookup (CW "bank")=some (.ref 3)):
  dK (aD oEq (ae (CW "name")) (fC (.str (CW "ite")))) (aN (isI 400 (CW "sort")) dv (ae (CW "bank")) (ad (ba (ae (CW "given")) (fC (.int 1))) (ao))) (fC (.int 0)) m H=.ok (.int (Cz x ts)) H:=by
 have eqn:aD oEq (ae (CW "name")) (fC (.str (CW "ite"))) m H=.ok (.bool (x.s == "ite")) H:=aF (ah ln) e_c fO
 cases x with
 | ite=>
  refine byC fun kq=>?_
  obtain⟨c,a,b,rfl⟩:=CS hr
  refine kq ?_;try clear kq
  have tm:=X.mn (hp a (CZ _ (CY ..)))
  have so:=pA B.bk (C0 tm.lt) hl
  have hs:(T[a]'tm.lt).2.2.1=(sN a:Int):=(fh (C0 tm.lt)).symm.trans tm.srt
  rw[hs]at so
  exact bW (b:=true) eqn (c_t (aW (ah lb) B.bk.bank (by kernel_rfl) (aj (bw (ah lg) e_c (j8 (n:=1) hj rfl (CX hts (by decide)))) aA) so))
 | and=>exact bW (b:=false) eqn (c_f e_c)
 | or=>exact bW (b:=false) eqn (c_f e_c)
 | xor=>exact bW (b:=false) eqn (c_f e_c)
 | imp=>exact bW (b:=false) eqn (c_f e_c)
 | eq=>exact bW (b:=false) eqn (c_f e_c)
 | dist=>exact bW (b:=false) eqn (c_f e_c)
 | not=>exact bW (b:=false) eqn (c_f e_c)
 | tru=>exact bW (b:=false) eqn (c_f e_c)
theorem zw{H:Hp}{T:List TK}{k a b wl mk:Nat}{ws:List Nat}{m:Fm}(s:TS H T k a b wl mk ws) (F:FL m a b wl mk) (hk:k≤800) (hl:T.length≤700)
  {x:Nm}{j k3:Nat}{ts:List Nat}{H3:Hp}(hr:jL x (ts.map sN)=false) (s3:TS H3 (c9 T x ts).2 k3 a b wl mk ws) (g3:Kp H H3) (hk3:k3≤k + 11) (hj:H3[j]? = some (.list (iv ts))) (j14:14≤j) (l5:ts.length≤5) (hp:∀ t∈ts,t∈fV) (run:∀ {B:FS}{r:OutS},B ((CW "found",(match (c9 T x ts).1 with|some n=>.int (n:Int)|none=>.none))::(CW "given",.ref j)::(CW "name",.str (CW x.s))::m) H3=r→
   am (aH (ba (fC (.tup (nms.map fun x=>V.str (CW x.s)))) (aG aX (ad (ae (CW "feed")) (ad (aG bL (ad (fC (.tup (nms.map fun x=>V.str (CW x.s)))) (ao))) (ao))))) (bA (CW "name"))) (am (aH (aG dU (ad (ae (CW "feed")) (ad (ae (CW "name")) (ad (ae (CW "truths")) (ad (ae (CW "things")) (ad (ae (CW "other")) (ao))))))) (bA (CW "given"))) (am (aH (aG dw (ad (ae (CW "maker")) (ad (ae (CW "name")) (ad (ae (CW "given")) (ao))))) (bA (CW "found"))) B)) m H=r):oA H T k a b wl mk ws m:=by
 have glen:∀ {T T':List TK},Gr 12 T T'→T'.length≤T.length + 12:=fun g=>by
  refine byC fun kq=>?_
  obtain⟨t,e1,e2,_⟩:=g.app
  refine kq ?_;try clear kq
  rw[e1,C1];exact Da e2 _
 refine byC fun kq=>?_
 obtain⟨v,⟨n,T1,e,g,mn,idem⟩,due⟩:=sd s.X hp (CX l5 (by decide)) hr
 refine kq ?_;try clear kq
 have e:c9 T x ts=(some n,T1):=e
 rw[e]at s3 run
 have L1:=glen g
 let m3:Fm:=(CW "found",.int (n:Int))::(CW "given",.ref j)::(CW "name",.str (CW x.s))::m
 have F3:FL m3 a b wl mk:=((F.push (y:="name") (by decide)).push (y:="given") (by decide)).push (y:="found") (by decide)
 have n3:m3.lookup (CW "name")=some (.str (CW x.s)):=(ak (by decide)).trans ((ak (by decide)).trans au)
 have q3:m3.lookup (CW "given")=some (.ref j):=(ak (by decide)).trans au
 have L1a:T1.length≤712:=CX L1 (Db hl 12)
 refine byC fun kq=>?_
 obtain⟨H4,e4,x4⟩:=wb (m:=m3) (fv:=.int (n:Int)) s3.B s3.X (CX L1a (by decide)) hj hp l5 n3 q3 F3.bank au (by rw[hr];rfl)
 have s4:=s3.kp x4.kp (s3.B.ext x4) s3.X (s3.D.ext x4)
 have hne:x=.imp→ts ≠ []:=fun hx z=>by rw[hx,z]at hr;cases hr
 obtain⟨j',ts',H5,k5,e5,D5,hk5,S5,gj',j'14,tn⟩:=vI (x:=x) s4.D (CX hk3 (CX (Db hk 11) (by decide))) (x4.get hj) j14 hne (CX l5 (by decide))
 have s5:=s4.kp S5.kp (s4.B.step S5) s4.X D5
 have p:=rE tn
 have hp':∀ t∈ts',t∈fV:=fun t h=>hp t (p.mem_iff.mpr h)
 have l5':ts'.length≤5:=p.length_eq ▸ l5
 obtain⟨v',⟨l,T2,e',g',mn',idem'⟩,due'⟩:=sd s5.X hp' (CX l5' (by decide)) (w7 tn hr)
 have e':c9 T1 x ts'=(some l,T2):=e'
 have l1:1 < T1.length:=(List.getElem?_eq_some_iff.mp s5.X.t1).1
 obtain⟨H6,B6,C6,e6⟩:=rD x s5.B s5.X.oOk s5.M gj' j'14 (fun t ht=>(s5.X.mn (hp' t ht)).lt) l1 (CX l5' (by decide)) (CX L1a (by decide))
 rw[e']at B6 e6
 have X6:Tm T2:=s5.X.gr g'
 have s6:=s5.kp C6.kp B6 X6 (D5.chg C6)
 have L2:=glen g'
 have L2a:T2.length≤724:=CX L2 (Db L1a 12)
 have sz6:=tW s6.B.bk (CX L2a (by decide))
 have hj6:H6[j]? = some (.list (iv ts)):=C6.kp.at14 j14 (S5.kp.at14 j14 (x4.get hj))
 obtain⟨u,hu,_,_⟩:=g'.app
 have c2:c9 T2 x ts=(some n,T2):=by rw[hu];exact idem u
 have l2:1 < T2.length:=(List.getElem?_eq_some_iff.mp X6.t1).1
 obtain⟨H7,B7,C7,e7⟩:=qk x s6.B s6.X.oOk s6.M hj6 j14 (fun t ht=>(X6.mn (hp t ht)).lt) l2 (CX l5 (by decide)) (CX L2a (by decide))
 refine kq ?_;try clear kq
 rw[c2]at B7 e7
 have s7:=s6.kp C7.kp B7 X6 (s6.D.chg C7)
 have sz7:=tW s7.B.bk (CX L2a (by decide))
 have hj7:H7[j]? = some (.list (iv ts)):=C7.kp.at14 j14 hj6
 have mn2:=mn.gr g'
 have so:=pA s7.B.bk (C0 mn2.lt) (CX L2a (by decide))
 rw[(fh (C0 mn2.lt)).symm.trans mn2.srt]at so
 let m5:Fm:=(CW "late",.int (l:Int))::(CW "size",.int ((T2.length:Int) - 1))::m3
 have F5:FL m5 a b wl mk:=(F3.push (y:="size") (by decide)).push (y:="late") (by decide)
 have n5:m5.lookup (CW "name")=some (.str (CW x.s)):=(ak (by decide)).trans ((ak (by decide)).trans n3)
 have q5:m5.lookup (CW "given")=some (.ref j):=(ak (by decide)).trans ((ak (by decide)).trans q3)
 have f5:m5.lookup (CW "found")=some (.int (n:Int)):=(ak (by decide)).trans ((ak (by decide)).trans au)
 have z5:m5.lookup (CW "size")=some (.int ((T2.length:Int) - 1)):=(ak (by decide)).trans au
 have se:=zL (m:=m5) s7.B X6 (CX L2a (by decide)) hj7 hp l5 hr n5 q5 F5.bank
 have vv:∀ w,v' w=v w:=fun w=>Option.some.inj ((due' w).symm.trans ((wr tn fun t=>vB t w).trans (due w)))
 have up:∀ {d:Nat}{t:Nat}{sx:Int}{f:Wo→W},d≤20→Mn d T2 t sx f→∀ w:Wo,cJ 20 T2 w.w t=some (f w):=fun h x w=>(x.le h).val w
 have nn:∀ {i:Int}{H:Hp},oNe (.int i) (.int i) H=.ok (.bool false) H:=by intro i H;rw[gB,beq_self_eq_true];rfl
 refine byC fun kq=>?_
 obtain⟨m8,H8,e8,x8,k8⟩:=rH (j:=j) (n:=n) (l:=l) (x:=x) (v:=v) s7.B X6.oOk X6.aOk (CX L2a (by decide)) hj7 (CX l5 (by decide)) s7.hw (fun w t ht=>up (by decide) (X6.mn (hp t ht)) w) (up (by decide) mn2) (fun w=>by rw[← vv w];exact up (by decide) mn' w) due ws (fun wd h=>(s7.all wd h).1) (H:=H7) (m:=m5) (.refl H7) ⟨F5.bank,n5,q5,f5,au⟩
 obtain⟨fs,w1,w2,w3,w4⟩:=s6.M.ex
 refine kq ?_;try clear kq
 have F8:FL m8 a b wl mk:=F5.of fun s hs=>k8 s (fun z=>by rw[z]at hs;exact absurd hs (by decide)) (fun z=>by rw[z]at hs;exact absurd hs (by decide))
 refine⟨.next,m8,H8,T2,k5,?_,.inl rfl,s7.kp x8.kp (s7.B.ext x8) X6 (s7.D.ext x8),F8,((g3.trans x4.kp).trans (S5.kp.trans C6.kp)).trans (C7.kp.trans x8.kp),CX hk5 (CX (Db hk3 10) (by rw[Dh];exact Da (by decide) k)),CX L2 (CX (Db L1 12) (by rw[Dh];exact Da (by decide) _))⟩
 delta iL
 refine run (az e4 (aE (az (b4 (b:=false) (aF (ah au) e_c rfl) (c_f aR)) (aE (az (m1:=m5) (H1:=H6) (bY (cC (aj (aV (aj (ah F3.mkr) (aj (ah n3) (aj (aV (aj (ah F3.feed) (aj (ah n3) (aj (ah q3) aA))) e5) aA))) e6) (aj (aW (ah F3.bank) s6.B.bk.bank (by kernel_rfl) aA sz6) aA)) rfl) jh) (aE
  (az (m1:=m5) (H1:=H7) (b4 (b:=false) (lE (b:=false) (aF (ah au) e_c rfl) (c_f (lE (b:=false) (aF (aW (ah F5.mkr) w1 (iR w4) (aj (ah n5) (aj (ah q5) aA)) e7) (ah f5) nn) (c_f (aF (aW (ah F5.bank) s7.B.bk.bank (by kernel_rfl) aA sz7) (ah z5) nn))))) (c_f aR)) (aE
  (az (m1:=m5) (H1:=H7) (b4 (b:=false) (aF (aW (ah F5.bank) s7.B.bk.bank (by kernel_rfl) (aj (ah f5) aA) so) se nn) (c_f aR)) (aE
  (az (kh (jF (ah F5.wl) s7.hw) e8) (aE aR))))))))))))
theorem yb{H:Hp}{T:List TK}{k a b wl mk:Nat}{ws:List Nat}{m:Fm}(s:TS H T k a b wl mk ws) (F:FL m a b wl mk) (hk:k≤800) (hl:T.length≤700):oA H T k a b wl mk ws m:=
 zS s F hk hl fun hr s3 g3 hk3 hj j14 l5 hp run=>zw s F hk hl hr s3 g3 hk3 hj j14 l5 hp run
theorem CF{a b wl mk:Nat}{ws:List Nat}(items:List V):∀ {H:Hp}{T:List TK}{k:Nat}{m:Fm},TS H T k a b wl mk ws→FL m a b wl mk→k + 30 * items.length≤800→T.length + 40 * items.length≤700→
  ∃ (m':Fm) (H':Hp),eX (fun _=>True) (bA (CW "turn")) iL items m H=.ok .next m' H'∧Kp H H':=by
 induction items with
 | nil=>exact fun {H T k m} _ _ _ _=>⟨m,H,jA (G:=fun _=>True) trivial,.refl H⟩
 | cons v r ih=>
  intro H T k m s F hk hl
  rw[Df,Nat.mul_succ]at hk hl
  have hk1:(k + 30) + 30 * r.length≤800:=by rw[Dh,Nat.add_comm 30];exact hk
  have hl1:(T.length + 40) + 40 * r.length≤700:=by rw[Dh,Nat.add_comm 40];exact hl
  refine byC fun kq=>?_
  obtain⟨fl,m1,H1,T1,k1,e,hfl,s1,F1,g1,hk2,hl2⟩:=yb s (F.push (y:="turn") (v:=v) (by decide)) (CX (C9 _ _) hk) (CX (C9 _ _) hl)
  obtain⟨m',H',e',g'⟩:=ih s1 F1 (CX (Db hk2 _) hk1) (CX (Db hl2 _) hl1)
  refine kq ?_;try clear kq
  refine⟨m',H',?_,g1.trans g'⟩
  rcases hfl with rfl|rfl
  ·exact(g6 (G:=fun _=>True) trivial bQ e).trans e'
  ·exact(AS (G:=fun _=>True) trivial bQ e).trans e'
theorem yE{n:Nat}{k:Int}(h0:0≤k) (h1:(n:Int)≤k):clipAt n k=n:=by
 unfold clipAt
 rw[if_neg (Int.not_lt.mpr h0),Int.min_eq_right h1,Int.max_eq_right (Dj n),Di]
noncomputable def hpT(A:AObj) (X sn sw fn fa fr:List V) (T:List TK) (ex:List AObj):Hp:=
 A::.dictS [(CW "cells",.ref 2),(CW "at",.int 0)]::.list X::.inst 400 aZ::.list sn::.list sw::.list fn::.list fa::.list fr::
  .list (T.map fun k=>.str k.1)::.list (T.map fun k=>.tup (k.2.1.map .int))::.list (T.map fun k=>.int k.2.2.1)::.list (T.map fun k=>.int k.2.2.2)::.dictT (ki 1 (T.drop 1))::ex
noncomputable abbrev ss(xs:List String):List V:=xs.map fun x=>V.str (CW x)
noncomputable abbrev ii(xs:List Int):List V:=xs.map V.int
noncomputable abbrev vT(s d:Int):TK:=(CW "app",[],s,d)
noncomputable abbrev B3:List TK:=[(CW "",[],0,0),tk "true" [] 0,tk "false" [] 0]
noncomputable abbrev fr0:Fm:=[(CW "script",.ref 0)]
theorem Bk{o:Obj}{ns:List Int}(hl:ns.length≤63):∃ X:List Int,X.length≤50∧aH (bM (ad (eG (ad (fC (.str (CW "cells"))) (ad (jc (ae (CW "script")) (fC (.int 50))) (ad (fC (.str (CW "at"))) (ad (fC (.int 0)) (ao)))))) (ad (aG (fj 400 fX) (ao)) (ao)))) (j1 2 (fT (bA (CW "feed")) (fT (bA (CW "bank")) (fT0)))) fr0 [.frz o (ns.map .int)] =
  .ok .next ((CW "bank",.ref 3)::(CW "feed",.ref 1)::fr0) (hpT (.frz o (ns.map .int)) (X.map .int) (ss ["Bool","Int","Real"]) (ii [0,0,0]) [] [] [] B3 []):=by
 have hml:(ns.map V.int).length≤63:=by rw[C4];exact hl
 refine⟨ns.take 50,List.length_take_le _ _,?_⟩
 have hc:cut (ns.map V.int) none (some 50)=(ns.take 50).map .int:=by
  show((ns.map V.int).drop 0).take (clipAt (ns.map V.int).length 50 - 0)=_
  rw[List.drop_zero,Nat.sub_zero,List.map_take]
  by_cases h:(ns.map V.int).length≤50
  ·rw[yE (k:=50) (by decide) (Int.ofNat_le.mpr h),List.take_of_length_le (Nat.le_refl _),List.take_of_length_le h]
  ·rw[tj (k:=50) (by decide) (Int.ofNat_le.mpr (Nat.le_of_lt (Nat.lt_of_not_le h)))];rfl
 have h50:((ns.take 50).map V.int).length≤1000000:=by rw[C4];exact CX (List.length_take_le _ _) (by decide)
 have hs:jc (ae (CW "script")) (fC (.int 50)) fr0 [.frz o (ns.map .int),.dictS []]=.ok (.ref 2) [.frz o (ns.map .int),.dictS [],.list ((ns.take 50).map .int)]:=by
  show(if (ns.map V.int).length≤1000000 then eZ (cut (ns.map V.int) none (some 50)) _ else .bad)=_
  rw[if_pos (CX hml (by decide)),hc,eN h50]
  rfl
 generalize (ns.take 50).map V.int=X at hs ⊢
 generalize AObj.frz o (ns.map V.int)=A at hs ⊢
 have hD:eG (ad (fC (.str (CW "cells"))) (ad (jc (ae (CW "script")) (fC (.int 50))) (ad (fC (.str (CW "at"))) (ad (fC (.int 0)) (ao))))) fr0 [A]=.ok (.ref 1) [A,.dictS [(CW "cells",.ref 2),(CW "at",.int 0)],.list X]:=by
  have g:=aj (f:=fC (.str (CW "cells"))) (m:=fr0) (H:=[A,.dictS []]) e_c (aj hs (aj (f:=fC (.str (CW "at"))) e_c (aj (f:=fC (.int 0)) e_c aA)))
  unfold eG
  rw[show([A]++[AObj.dictS []]:Hp)=[A,.dictS []] from rfl,g,dN]
  kernel_rfl
 have hI:fj 400 fX [] [A,.dictS [(CW "cells",.ref 2),(CW "at",.int 0)],.list X]=.ok (.ref 3) (hpT A X (ss ["Bool","Int","Real"]) (ii [0,0,0]) [] [] [] B3 []):=by
  kernel_rfl
 exact bY (cC (aj hD (aj (aV aA hI) aA)) rfl) rfl
structure At (H0 H:Hp) (i K:Nat) (fs:List (Str × V)):Prop where
 ext:Ext H0 H
 at_:H[i]? = some (.inst K fs)
 ge:H0.length≤i
theorem At.st{H0 H H1:Hp}{i K:Nat}{fs:List (Str × V)}{name:Str}{v:V}{fe fo:FE}{m:Fm}(A:At H0 H i K fs) (e:fe m H=.ok v H1) (x:Ext H H1) (eo:fo m H1=.ok (.ref i) H1) (hf:fs.length < 900):
  ∃ H2,aH fe (a8 K name fo) m H=.ok .next m H2∧At H0 H2 i K ((name,v)::fs):=by
 refine⟨H1.set i (.inst K ((name,v)::fs)),bY e ?_,⟨(A.ext.trans x).set A.ge _,be (x.get A.at_),A.ge⟩⟩
 unfold a8
 rw[eo,ju];dsimp only;rw[x.get A.at_];exact if_pos ⟨rfl,hf⟩
theorem o9{Kc:Addr}{F:List V→Hp→Out V}{vs:List V}{H H':Hp}(h:F (.ref H.length::vs) (H++[.inst Kc []])=.ok .none H'):fj Kc F vs H=.ok (.ref H.length) H':=by
 unfold fj;rw[h];rfl
theorem BX{m:Fm}{H:Hp}:gY m H=.ok (.ref H.length) (H++[.dictS []]):=rfl
theorem wc{H0 H:Hp}{i:Nat}{v:V}(A:At H0 H i 580 [(CW "bank",v)]):∃ H',dO [.ref i] H=.ok .none H'∧Ext H0 H':=by
 refine byC fun kq=>?_
 obtain⟨H1,e1,A1⟩:=A.st (name:=CW "sorts") (fe:=gY) (fo:=ae (CW "self")) (m:=[(CW "self",.ref i)]) BX (.app _ _) (ah au) (Nat.lt_of_sub_eq_succ rfl)
 obtain⟨H2,e2,A2⟩:=A1.st (name:=CW "functions") (fe:=gY) (fo:=ae (CW "self")) (m:=[(CW "self",.ref i)]) BX (.app _ _) (ah au) (Nat.lt_of_sub_eq_succ rfl)
 obtain⟨H3,e3,A3⟩:=A2.st (name:=CW "brought") (fe:=b8 ao) (fo:=ae (CW "self")) (m:=[(CW "self",.ref i)]) (eE aA (eN (Nat.zero_le _))) (.app _ _) (ah au) (Nat.lt_of_sub_eq_succ rfl)
 obtain⟨H4,e4,A4⟩:=A3.st (name:=CW "scopes") (fe:=b8 ao) (fo:=ae (CW "self")) (m:=[(CW "self",.ref i)]) (eE aA (eN (Nat.zero_le _))) (.app _ _) (ah au) (Nat.lt_of_sub_eq_succ rfl)
 obtain⟨H5,e5,A5⟩:=A4.st (name:=CW "lets") (fe:=b8 ao) (fo:=ae (CW "self")) (m:=[(CW "self",.ref i)]) (eE aA (eN (Nat.zero_le _))) (.app _ _) (ah au) (Nat.lt_of_sub_eq_succ rfl)
 obtain⟨H6,e6,A6⟩:=A5.st (name:=CW "numeral_sort") (fe:=fC (.int 1)) (fo:=ae (CW "self")) (m:=[(CW "self",.ref i)]) e_c (.refl _) (ah au) (Nat.lt_of_sub_eq_succ rfl)
 refine kq ?_;try clear kq
 refine⟨H6,?_,A6.ext⟩
 delta dO ik
 exact kE [(CW "self",.ref i)] ⟨rfl,rfl⟩ (az e1 (aE (az e2 (aE (az e3 (aE (az e4 (aE (az e5 (aE (az e6 (aE aR))))))))))))
theorem sC{H:Hp}{K:Nat}:At H (H++[.inst K []]) H.length K []:=⟨.app _ _,bc _ _ _,Nat.le_refl _⟩
theorem tf{H:Hp}{v:V}:∃ H',fj 580 dZ [v] H=.ok (.ref H.length) H'∧Ext H H':=by
 let m:Fm:=[(CW "self",.ref H.length),(CW "bank",v)]
 have lb:m.lookup (CW "bank")=some v:=(ak (by decide)).trans au
 refine byC fun kq=>?_
 obtain⟨H1,e1,A1⟩:=(sC (H:=H) (K:=580)).st (name:=CW "bank") (fe:=ae (CW "bank")) (fo:=ae (CW "self")) (m:=m) (ah lb) (.refl _) (ah au) (Nat.lt_of_sub_eq_succ rfl)
 obtain⟨H2,e2,x2⟩:=wc A1
 refine kq ?_;try clear kq
 refine⟨H2,o9 ?_,x2⟩
 delta dZ iK
 exact kE m ⟨rfl,rfl⟩ (az e1 (aE (az (cE (aW (ah au) A1.at_ (by kernel_rfl) aA e2)) (aE aR))))
theorem uZ{H:Hp}{v w:V}:∃ H',fj 704 cI [v,w] H=.ok (.ref H.length) H'∧Ext H H':=by
 let m:Fm:=[(CW "self",.ref H.length),(CW "bank",v),(CW "symbols",w)]
 have lb:m.lookup (CW "bank")=some v:=(ak (by decide)).trans au
 have ls:m.lookup (CW "symbols")=some w:=(ak (by decide)).trans ((ak (by decide)).trans au)
 refine byC fun kq=>?_
 obtain⟨H1,e1,A1⟩:=(sC (H:=H) (K:=704)).st (name:=CW "bank") (fe:=ae (CW "bank")) (fo:=ae (CW "self")) (m:=m) (ah lb) (.refl _) (ah au) (Nat.lt_of_sub_eq_succ rfl)
 obtain⟨H2,e2,A2⟩:=A1.st (name:=CW "symbols") (fe:=ae (CW "symbols")) (fo:=ae (CW "self")) (m:=m) (ah ls) (.refl _) (ah au) (Nat.lt_of_sub_eq_succ rfl)
 refine kq ?_;try clear kq
 refine⟨H2,o9 ?_,A2.ext⟩
 delta cI f8
 exact kE m ⟨rfl,rfl⟩ (az e1 (aE (az e2 (aE aR))))
theorem wR{H:Hp}{w:V}(h14:14≤H.length):∃ H',fj 868 cB [.ref 3,w] H=.ok (.ref H.length) H'∧Ext H H'∧MK H' H.length:=by
 let m:Fm:=[(CW "self",.ref H.length),(CW "bank",.ref 3),(CW "symbols",w)]
 have lb:m.lookup (CW "bank")=some (.ref 3):=(ak (by decide)).trans au
 have ls:m.lookup (CW "symbols")=some w:=(ak (by decide)).trans ((ak (by decide)).trans au)
 refine byC fun kq=>?_
 obtain⟨H1,e1,A1⟩:=(sC (H:=H) (K:=868)).st (name:=CW "bank") (fe:=ae (CW "bank")) (fo:=ae (CW "self")) (m:=m) (ah lb) (.refl _) (ah au) (Nat.lt_of_sub_eq_succ rfl)
 obtain⟨H2,e2,A2⟩:=A1.st (name:=CW "symbols") (fe:=ae (CW "symbols")) (fo:=ae (CW "self")) (m:=m) (ah ls) (.refl _) (ah au) (Nat.lt_of_sub_eq_succ rfl)
 obtain⟨H3,e3,x3⟩:=uZ (H:=H2) (v:=.ref 3) (w:=w)
 obtain⟨H4,e4,A4⟩:=A2.st (name:=CW "sort_reader") (fe:=aG (fj 704 cI) (ad (ae (CW "bank")) (ad (ae (CW "symbols")) (ao)))) (fo:=ae (CW "self")) (m:=m) (aV (aj (ah lb) (aj (ah ls) aA)) e3) x3 (ah au) (Nat.lt_of_sub_eq_succ rfl)
 refine kq ?_;try clear kq
 refine⟨H4,o9 ?_,A4.ext,⟨h14,_,A4.at_,(ak (by decide)).trans ((ak (by decide)).trans au),by kernel_rfl,by kernel_rfl⟩⟩
 delta cB eC
 exact kE m ⟨rfl,rfl⟩ (az e1 (aE (az e2 (aE (az e4 (aE aR))))))
noncomputable abbrev m2F:Fm:=(CW "bank",.ref 3)::(CW "feed",.ref 1)::fr0
noncomputable abbrev hpS(A:AObj) (X:List V) (n:List String) (r:List Int) (T:List TK) (ex:List AObj):Hp:=hpT A X snL (ii [0,0,0,0,0]) (ss n) (n.map fun _=>.tup []) (ii r) T (.list (ii [3,4])::ex)
theorem Bl{A:AObj}{X:List V}:aH (b8 (ad (aN (isI 400 (CW "declare_sort")) cp (ae (CW "bank")) (ad (fC (.str (CW "U"))) (ao))) (ad (aN (isI 400 (CW "declare_sort")) cp (ae (CW "bank")) (ad (fC (.str (CW "V"))) (ao))) (ao)))) (bA (CW "sorts")) m2F
  (hpT A X (ss ["Bool","Int","Real"]) (ii [0,0,0]) [] [] [] B3 [])=.ok .next ((CW "sorts",.ref 14)::m2F) (hpS A X [] [] B3 []):=by kernel_rfl
noncomputable abbrev m3F:Fm:=(CW "sorts",.ref 14)::m2F
noncomputable abbrev T6:List TK:=B3++[vT 0 0,vT 0 1,vT 0 2]
theorem Bm{A:AObj}{X:List V}:aH (b7 [CW "bank"] (dz (bM (ad (fC (.str (CW "p"))) (ad (fC (.str (CW "q"))) (ad (fC (.str (CW "r"))) (ao)))))) (cz (CW "name")) (fC (.bool true)) (iN)) (bA (CW "truths")) m3F (hpS A X [] [] B3 []) =
  .ok .next ((CW "truths",.ref 15)::m3F) (hpS A X ["p","q","r"] [0,0,0] T6 [.list (iv [3,4,5])]):=by
 have a1:iN ((CW "name",.str (CW "p"))::[(CW "bank",.ref 3)]) (hpS A X [] [] B3 [.list []])=.ok (.int 3) (hpS A X ["p"] [0] (B3++[vT 0 0]) [.list []]):=by kernel_rfl
 have a2:iN ((CW "name",.str (CW "q"))::(CW "name",.str (CW "p"))::[(CW "bank",.ref 3)]) (hpS A X ["p"] [0] (B3++[vT 0 0]) [.list (iv [3])])=.ok (.int 4) (hpS A X ["p","q"] [0,0] (B3++[vT 0 0,vT 0 1]) [.list (iv [3])]):=by kernel_rfl
 have a3:iN ((CW "name",.str (CW "r"))::(CW "name",.str (CW "q"))::(CW "name",.str (CW "p"))::[(CW "bank",.ref 3)]) (hpS A X ["p","q"] [0,0] (B3++[vT 0 0,vT 0 1]) [.list (iv [3,4])])=.ok (.int 5) (hpS A X ["p","q","r"] [0,0,0] T6 [.list (iv [3,4])]):=by kernel_rfl
 refine bY (fG (qB (cC (aj e_c (aj e_c (aj e_c aA))) rfl)) (m0:=[(CW "bank",.ref 3)]) (by kernel_rfl) ?_) bQ
 exact(kB (G:=fun _=>True) (xs:=[]) trivial rfl e_c a1 rfl (by decide)).trans ((kB (G:=fun _=>True) (xs:=iv [3]) trivial rfl e_c a2 rfl (by decide)).trans ((kB (G:=fun _=>True) (xs:=iv [3,4]) trivial rfl e_c a3 rfl (by decide)).trans (fu (G:=fun _=>True) trivial)))
noncomputable abbrev m4F:Fm:=(CW "truths",.ref 15)::m3F
noncomputable abbrev T9:List TK:=T6++[vT 3 3,vT 3 4,vT 3 5]
theorem Bn{A:AObj}{X:List V}:aH (bM (ad (b7 [CW "bank",CW "sorts"] (dz (bM (ad (fC (.str (CW "c"))) (ad (fC (.str (CW "d"))) (ad (fC (.str (CW "e"))) (ao)))))) (cz (CW "name")) (fC (.bool true)) (iM)) (ad (aN (isI 400 (CW "fresh_const")) bZ (ae (CW "bank")) (ad (fC (.str (CW "f"))) (ad (ba (ae (CW "sorts")) (fC (.int 1))) (ao)))) (ao)))) (ig [CW "things",CW "other"]) m4F
   (hpS A X ["p","q","r"] [0,0,0] T6 [.list (iv [3,4,5])]) =
  .ok .next ((CW "things",.ref 16)::(CW "other",.int ((9:Nat):Int))::m4F) (hpS A X ["p","q","r","c","d","e","f"] [0,0,0,3,3,3,4] (T9++[vT 4 6]) [.list (iv [3,4,5]),.list (iv [6,7,8])]):=by
 let m0:Fm:=[(CW "sorts",.ref 14),(CW "bank",.ref 3)]
 have a1:iM ((CW "name",.str (CW "c"))::m0) (hpS A X ["p","q","r"] [0,0,0] T6 [.list (iv [3,4,5]),.list []])=.ok (.int 6) (hpS A X ["p","q","r","c"] [0,0,0,3] (T6++[vT 3 3]) [.list (iv [3,4,5]),.list []]):=by kernel_rfl
 have a2:iM ((CW "name",.str (CW "d"))::(CW "name",.str (CW "c"))::m0) (hpS A X ["p","q","r","c"] [0,0,0,3] (T6++[vT 3 3]) [.list (iv [3,4,5]),.list (iv [6])])=.ok (.int 7) (hpS A X ["p","q","r","c","d"] [0,0,0,3,3] (T6++[vT 3 3,vT 3 4]) [.list (iv [3,4,5]),.list (iv [6])]):=by kernel_rfl
 have a3:iM ((CW "name",.str (CW "e"))::(CW "name",.str (CW "d"))::(CW "name",.str (CW "c"))::m0) (hpS A X ["p","q","r","c","d"] [0,0,0,3,3] (T6++[vT 3 3,vT 3 4]) [.list (iv [3,4,5]),.list (iv [6,7])])=.ok (.int 8) (hpS A X ["p","q","r","c","d","e"] [0,0,0,3,3,3] T9 [.list (iv [3,4,5]),.list (iv [6,7])]):=by kernel_rfl
 have b1:aN (isI 400 (CW "fresh_const")) bZ (ae (CW "bank")) (ad (fC (.str (CW "f"))) (ad (ba (ae (CW "sorts")) (fC (.int 1))) (ao))) m4F (hpS A X ["p","q","r","c","d","e"] [0,0,0,3,3,3] T9 [.list (iv [3,4,5]),.list (iv [6,7,8])]) =
   .ok (.int ((9:Nat):Int)) (hpS A X ["p","q","r","c","d","e","f"] [0,0,0,3,3,3,4] (T9++[vT 4 6]) [.list (iv [3,4,5]),.list (iv [6,7,8])]):=by kernel_rfl
 refine bY (cC (aj (fG (qB (cC (aj e_c (aj e_c (aj e_c aA))) rfl)) (m0:=m0) (by kernel_rfl) ?_) (aj b1 aA)) rfl) jh
 exact(kB (G:=fun _=>True) (xs:=[]) trivial rfl e_c a1 rfl (by decide)).trans ((kB (G:=fun _=>True) (xs:=iv [6]) trivial rfl e_c a2 rfl (by decide)).trans ((kB (G:=fun _=>True) (xs:=iv [6,7]) trivial rfl e_c a3 rfl (by decide)).trans (fu (G:=fun _=>True) trivial)))
noncomputable abbrev m5F:Fm:=(CW "things",.ref 16)::(CW "other",.int ((9:Nat):Int))::m4F
noncomputable abbrev TB:List TK:=T9++[vT 4 6]
theorem Cu:gQ TB 3=(some 10,fq):=by kernel_rfl
theorem CM{A:AObj}{X:List V}{n:List String}{r:List Int}{ex:List AObj}:BB (hpS A X n r TB ex) TB:=by
 refine⟨⟨rfl,rfl,rfl,rfl,rfl,rfl,by decide⟩,rfl,?_⟩
 unfold sOk
 decide
theorem v0:aOk fq:=by
 intro k hk
 unfold fq at hk
 refine⟨?_,?_⟩
 ·intro i hi
  rcases List.mem_cons.mp hk with rfl|hk
  ·cases hi
  rcases List.mem_cons.mp hk with rfl|hk
  ·cases hi
  rcases List.mem_cons.mp hk with rfl|hk
  ·cases hi
  rcases List.mem_cons.mp hk with rfl|hk
  ·cases hi
  rcases List.mem_cons.mp hk with rfl|hk
  ·cases hi
  rcases List.mem_cons.mp hk with rfl|hk
  ·cases hi
  rcases List.mem_cons.mp hk with rfl|hk
  ·cases hi
  rcases List.mem_cons.mp hk with rfl|hk
  ·cases hi
  rcases List.mem_cons.mp hk with rfl|hk
  ·cases hi
  rcases List.mem_cons.mp hk with rfl|hk
  ·cases hi
  rw[List.mem_singleton.mp hk]at hi
  exact⟨3,List.mem_singleton.mp hi⟩
 ·have:∀ k∈fq,k.2.1.length≤100:=by unfold fq;decide
  exact this k hk
theorem plain(ns:List Int) (o:Obj) (hl:ns.length≤63):∃ H',tA [.ref 0] [.frz o (ns.map .int)]=.ok (.bool true) H'∧H'[0]? = some (.frz o (ns.map .int)):=by
 refine byC fun kq=>?_
 obtain⟨X,hX,eA⟩:=Bk (o:=o) hl
 refine kq ?_;try clear kq
 generalize hA:AObj.frz o (ns.map V.int)=A at eA ⊢
 refine byC fun kq=>?_
 obtain⟨H4,hH4⟩:∃ H,H=hpS A (X.map .int) ["p","q","r","c","d","e","f"] [0,0,0,3,3,3,4] TB [.list (iv [3,4,5]),.list (iv [6,7,8])]:=⟨_,rfl⟩
 have eD:=Bn (A:=A) (X:=X.map .int)
 rw[← hH4]at eD
 have B4:BB H4 TB:=by rw[hH4];exact CM
 have D4:FD H4 0:=by rw[hH4];exact⟨rfl,X,rfl,hX⟩
 have h4a:H4[15]? = some (.list (iv [3,4,5])):=by rw[hH4];rfl
 have h4b:H4[16]? = some (.list (iv [6,7,8])):=by rw[hH4];rfl
 have h40:H4[0]? = some A:=by rw[hH4];rfl
 have l4:17≤H4.length:=by rw[hH4];exact Nat.le_refl 17
 clear hH4
 obtain⟨H5,ws,e5,gw,_,hws,x5⟩:=vL h4a h4b
 obtain⟨H6,e6,x6⟩:=tf (H:=H5) (v:=.ref 3)
 have l5:=x5.len
 have l6:=x6.len
 obtain⟨H7,e7,x7,M7⟩:=wR (H:=H6) (w:=.ref H5.length) (CX (by decide) (CX l4 (CX l5 l6)))
 have x47:=(x5.trans x6).trans x7
 have O:oOk TB:=by
  intro k hk
  exact pV k (List.mem_append_left [tk "not" [3] 0] hk)
 obtain⟨H8,B8,C8,e8⟩:=mN (t:=3) (B4.ext x47) O (by decide) (by decide)
 rw[Cu]at B8 e8
 have e9:=zR B8.bk
 have h8a:H8[15]? = some (.list (iv [3,4,5])):=C8.get _ _ (.inr (by decide)) (x47.get h4a)
 obtain⟨H9,e10,x9,g9⟩:=gv (xs:=iv [10,1]) H8 (by decide)
 obtain⟨HA,e11,xA,gA⟩:=lW (x9.get h8a) g9 (by decide)
 refine kq ?_;try clear kq
 have kp:Kp H7 HA:=(C8.kp.trans x9.kp).trans xA.kp
 have XT:Tm fq:=⟨⟨[],(List.append_nil _).symm⟩,pV,v0⟩
 have l7:17≤H7.length:=CX l4 x47.len
 have l9:17≤H9.length:=CX l7 (CX C8.len x9.len)
 let wl:=H4.length
 have s:TS HA fq 0 H9.length 16 wl H6.length ws:=
  ⟨(B8.ext x9).ext xA,XT,((((D4.ext x47).chg C8).ext x9).ext xA),M7.kp kp,gA,kp.at14 (by decide) (x47.get h4b),kp.at14 (CX (by decide) l4) ((x6.trans x7).get gw),
   CX (by decide) l9,by decide,CX (by decide) l4,fun wd h=>⟨(hws wd h).1.get fun o e=>kp.at14 (CX (by decide) (CX l4 (hws wd h).2)) ((x6.trans x7).get e),CX (by decide) (CX l4 (hws wd h).2)⟩⟩
 let m6:Fm:=(CW "worlds",.ref wl)::(CW "maker",.ref H6.length)::m5F
 let m7:Fm:=(CW "truths",.ref H9.length)::m6
 have t5:m5F.lookup (CW "truths")=some (.ref 15):=(ak (by decide)).trans ((ak (by decide)).trans au)
 have h5:m5F.lookup (CW "things")=some (.ref 16):=au
 have o5:m5F.lookup (CW "other")=some (.int ((9:Nat):Int)):=(ak (by decide)).trans au
 have b5:m5F.lookup (CW "bank")=some (.ref 3):=by kernel_rfl
 have f5:m5F.lookup (CW "feed")=some (.ref 1):=by kernel_rfl
 have q6:∀ {s:String},s ≠ "worlds"→s ≠ "maker"→m6.lookup (CW s)=m5F.lookup (CW s):=fun h1 h2=>(ak h1).trans (ak h2)
 have q7:∀ {s:String},s ≠ "truths"→m7.lookup (CW s)=m6.lookup (CW s):=fun h=>ak h
 have F:FL m7 H9.length 16 wl H6.length:=⟨(q7 (by decide)).trans ((q6 (by decide) (by decide)).trans f5),(q7 (by decide)).trans ((q6 (by decide) (by decide)).trans b5),au,(q7 (by decide)).trans ((q6 (by decide) (by decide)).trans h5),(q7 (by decide)).trans ((q6 (by decide) (by decide)).trans o5),(q7 (by decide)).trans au,(q7 (by decide)).trans ((ak (by decide)).trans au)⟩
 refine byC fun kq=>?_
 obtain⟨m',H',e',g'⟩:=CF (eu 0 5) s F (by decide) (by decide)
 refine kq ?_;try clear kq
 refine⟨H',?_,g'.get _ _ (by decide) (.inl (by decide)) (kp.get _ _ (by decide) (.inl (by decide)) (x47.get h40))⟩
 have b6:=(q6 (s:="bank") (by decide) (by decide)).trans b5
 have t6:=(q6 (s:="truths") (by decide) (by decide)).trans t5
 delta tA Ak
 refine cq (m:=m') fr0 ⟨rfl,rfl⟩ (az eA (aE (az Bl (aE (az Bm (aE (az eD (aE (az (m1:=m6) (H1:=H7) (bY (cC (aj (aV (aj (ah t5) (aj (ah h5) (aj (ah o5) aA))) e5) (aj (aV (aj (ah b5) (aj (aV (aj (ah b5) aA) e6) aA)) e7) aA)) rfl) jh) (aE
  (az (m1:=m7) (H1:=HA) (bY (aF (ah t6) (eE (aj (aW (ah b6) (B4.ext x47).bk.bank (by kernel_rfl) (aj (bw (ah t6) e_c (j8 (n:=0) (x47.get h4a) rfl (by decide))) aA) e8) (aj (aW (ah b6) B8.bk.bank (by kernel_rfl) aA e9) aA)) e10) e11) bQ) (aE
  (az (kh (nM (aj e_c aA) (jd (by decide))) e') (aE (az (b9 e_c) bO)))))))))))))))
end MP
end

namespace MP
set_option Elab.async true
set_option tactic.hygienic true
set_option maxHeartbeats 16000000 in
theorem whole:PySem.Challenge.rw_qz0036_03.Holds:=by
 (w_on;o_law;k_head;(case hw=>w_witness2))
 have walked:∀ {C:Cx}{P:Params}{d:Nat}(X:Law (_root_.MP.whole.heap_1_39 P) 67 C),XC C (d + 22) (.ref 926) tA:=by
  have rz:∀ {C:Cx}{P:Params}(X:Law (_root_.MP.whole.heap_1_39 P) 67 C),RaiseOk C:=by
   intro C P X
   exact(X.raises (sm:=47) (fI:=37) (ce:=25) (cd:=36) rfl rfl (fun _ _=>rfl) rfl rfl rfl rfl rfl rfl rfl rfl rfl rfl rfl rfl (by rfl) rfl (by rfl) (by decide) rfl rfl rfl (by rfl) (by rfl) (by rfl) (by rfl) (by rfl) (by rfl) (by rfl) rfl)
  have ag:∀ {C:Cx}{P:Params}(X:Law (_root_.MP.whole.heap_1_39 P) 67 C),ClsOk C 400:=by
   intro C P X
   exact(X.cls rfl rfl rfl rfl)
  have AW:∀ {C:Cx}{P:Params}(X:Law (_root_.MP.whole.heap_1_39 P) 67 C),ClsOk C 449:=by
   intro C P X
   exact(X.cls rfl rfl rfl rfl)
  have dX:∀ {C:Cx}{P:Params}(X:Law (_root_.MP.whole.heap_1_39 P) 67 C),ClsOk C 580:=by
   intro C P X
   exact(X.cls rfl rfl rfl rfl)
  have j9:∀ {C:Cx}{P:Params}(X:Law (_root_.MP.whole.heap_1_39 P) 67 C),ClsOk C 704:=by
   intro C P X
   exact(X.cls rfl rfl rfl rfl)
  have aM:∀ {C:Cx}{P:Params}(X:Law (_root_.MP.whole.heap_1_39 P) 67 C),ClsOk C 868:=by
   intro C P X
   exact(X.cls rfl rfl rfl rfl)
  have cW:∀ {C:Cx}{P:Params}(X:Law (_root_.MP.whole.heap_1_39 P) 67 C),nD C (CW "BOOL") (.int 0):=by
   intro C P X
   exact(⟨_,(X.mg _).trans rfl,fun _ _ _ _=>.int _ _⟩)
  have Cf:∀ {C:Cx}{P:Params}(X:Law (_root_.MP.whole.heap_1_39 P) 67 C),nD C (CW "INT") (.int 1):=by
   intro C P X
   exact(⟨_,(X.mg _).trans rfl,fun _ _ _ _=>.int _ _⟩)
  have kZ:∀ {C:Cx}{P:Params}(X:Law (_root_.MP.whole.heap_1_39 P) 67 C),nD C (CW "_law_names") (.tup [.str (CW "and"),.str (CW "or"),.str (CW "xor"),.str (CW "=>"),.str (CW "="),.str (CW "distinct"),.str (CW "ite"),.str (CW "not"),.str (CW "xor"),.str (CW "=>"),.str (CW "true"),.str (CW "distinct")]):=by
   intro C P X
   exact(yT X rfl rfl rfl rfl fun _ _=>.cons (.str _ _) (.cons (.str _ _) (.cons (.str _ _) (.cons (.str _ _) (.cons (.str _ _) (.cons (.str _ _) (.cons (.str _ _) (.cons (.str _ _) (.cons (.str _ _) (.cons (.str _ _) (.cons (.str _ _) (.cons (.str _ _) (.nil)))))))))))))
  have ch:∀ {C:Cx}{P:Params}{d:Nat}(X:Law (_root_.MP.whole.heap_1_39 P) 67 C),XC C (d + 1) (.ref 231) bh:=by
   intro C P d X
   have R:=rz X
   refine dF X.O (X.look rfl) rfl (X.look rfl) rfl rfl rfl (Ai fun a b c e f=>rfl) rfl rfl rfl rfl ?_
   exact(af (aB (aS (ac rfl (aa rfl) (ac rfl (aa rfl) (ac rfl (aa rfl) (ac rfl (aa rfl) ai))))) (a7 rfl) (fun _=>rfl) (fun _=>rfl) (fun _=>rfl))
    (af (aB (dq (X.x_attr (ag X) rfl (aa rfl) (fun _=>rfl)) z7 ay rfl (zY X.O) (ac rfl (aa rfl) (ac rfl ax ai)) (fun _=>rfl) rfl rfl) (a7 rfl) (fun _=>rfl) (fun _=>rfl) (fun _=>rfl))
    (af (bS (aL (aa rfl) ax bx rfl) (af (aB (aI X.O (X.bi rfl rfl (by decide) rfl) ay rfl ct (ac rfl (X.x_attr (ag X) rfl (aa rfl) (fun _=>rfl)) ai)) (a7 rfl) (fun _=>rfl) (fun _=>rfl) (fun _=>rfl))
    (af (bU (dq (X.x_attr (ag X) rfl (aa rfl) (fun _=>rfl)) cZ ay rfl cY (ac rfl (aa rfl) ai) (fun _=>rfl) rfl rfl) (fun _ _=>rfl))
    (af (bU (dq (X.x_attr (ag X) rfl (aa rfl) (fun _=>rfl)) cZ ay rfl cY (ac rfl (aa rfl) ai) (fun _=>rfl) rfl rfl) (fun _ _=>rfl))
    (af (bU (dq (X.x_attr (ag X) rfl (aa rfl) (fun _=>rfl)) cZ ay rfl cY (ac rfl (aa rfl) ai) (fun _=>rfl) rfl rfl) (fun _ _=>rfl))
    (af (bU (dq (X.x_attr (ag X) rfl (aa rfl) (fun _=>rfl)) cZ ay rfl cY (ac rfl (aa rfl) ai) (fun _=>rfl) rfl rfl) (fun _ _=>rfl))
    (af (aB (aa rfl) (pI (X.x_attr (ag X) rfl (aa rfl) (fun _=>rfl)) (aa rfl)) (fun _=>rfl) (fun _=>rfl) (fun _=>rfl))
    aw)))))) aw)
    (af (aO (aa rfl))
    aw))))
  have pY:∀ {C:Cx}{P:Params}{d:Nat}(X:Law (_root_.MP.whole.heap_1_39 P) 67 C),XC C (d + 2) (.ref 98) fX:=by
   intro C P d X
   have R:=rz X
   refine dF X.O (X.look rfl) rfl (X.look rfl) rfl rfl rfl (pW fun a=>rfl) rfl rfl rfl rfl ?_
   exact(af (aB (bT (ac rfl aC (ac rfl aC (ac rfl aC ai)))) (X.x_setAttr (ag X) rfl (aa rfl)) (fun _=>rfl) (fun _=>rfl) (fun _=>rfl))
    (af (aB (bT (ac rfl ax (ac rfl ax (ac rfl ax ai)))) (X.x_setAttr (ag X) rfl (aa rfl)) (fun _=>rfl) (fun _=>rfl) (fun _=>rfl))
    (af (aB (bT ai) (X.x_setAttr (ag X) rfl (aa rfl)) (fun _=>rfl) (fun _=>rfl) (fun _=>rfl))
    (af (aB (bT ai) (X.x_setAttr (ag X) rfl (aa rfl)) (fun _=>rfl) (fun _=>rfl) (fun _=>rfl))
    (af (aB (bT ai) (X.x_setAttr (ag X) rfl (aa rfl)) (fun _=>rfl) (fun _=>rfl) (fun _=>rfl))
    (af (aB ax (X.x_setAttr (ag X) rfl (aa rfl)) (fun _=>rfl) (fun _=>rfl) (fun _=>rfl))
    (af (aB (bT (ac rfl aC ai)) (X.x_setAttr (ag X) rfl (aa rfl)) (fun _=>rfl) (fun _=>rfl) (fun _=>rfl))
    (af (aB (bT (ac rfl (aS ai) ai)) (X.x_setAttr (ag X) rfl (aa rfl)) (fun _=>rfl) (fun _=>rfl) (fun _=>rfl))
    (af (aB (bT (ac rfl (bR X.O rfl (cW X)) ai)) (X.x_setAttr (ag X) rfl (aa rfl)) (fun _=>rfl) (fun _=>rfl) (fun _=>rfl))
    (af (aB (bT (ac rfl ax ai)) (X.x_setAttr (ag X) rfl (aa rfl)) (fun _=>rfl) (fun _=>rfl) (fun _=>rfl))
    (af (aB vN (X.x_setAttr (ag X) rfl (aa rfl)) (fun _=>rfl) (fun _=>rfl) (fun _=>rfl))
    (af (aB (X.x_meth (ag X) (aa rfl) rfl rfl rfl rfl (ch X).sim (ac rfl aC (ac rfl (aS ai) (ac rfl (bR X.O rfl (cW X)) (ac rfl ax ai)))) (fun _=>rfl) rfl rfl) (X.x_setAttr (ag X) rfl (aa rfl)) (fun _=>rfl) (fun _=>rfl) (fun _=>rfl))
    (af (aB (X.x_meth (ag X) (aa rfl) rfl rfl rfl rfl (ch X).sim (ac rfl aC (ac rfl (aS ai) (ac rfl (bR X.O rfl (cW X)) (ac rfl ax ai)))) (fun _=>rfl) rfl rfl) (X.x_setAttr (ag X) rfl (aa rfl)) (fun _=>rfl) (fun _=>rfl) (fun _=>rfl))
    aw)))))))))))))
  have fi:∀ {C:Cx}{P:Params}{d:Nat}(X:Law (_root_.MP.whole.heap_1_39 P) 67 C),XC C (d + 1) (.ref 112) cp:=by
   intro C P d X
   have R:=rz X
   refine dF X.O (X.look rfl) rfl (X.look rfl) rfl rfl rfl (gK fun a b=>rfl) rfl rfl rfl rfl ?_
   exact(af (bU (dq (X.x_attr (ag X) rfl (aa rfl) (fun _=>rfl)) cZ ay rfl cY (ac rfl (aa rfl) ai) (fun _=>rfl) rfl rfl) (fun _ _=>rfl))
    (af (bU (dq (X.x_attr (ag X) rfl (aa rfl) (fun _=>rfl)) cZ ay rfl cY (ac rfl ax ai) (fun _=>rfl) rfl rfl) (fun _ _=>rfl))
    (af (aO (cF (aI X.O (X.bi rfl rfl (by decide) rfl) ay rfl ct (ac rfl (X.x_attr (ag X) rfl (aa rfl) (fun _=>rfl)) ai)) ax pK))
    aw)))
  have jz:∀ {C:Cx}{P:Params}{d:Nat}(X:Law (_root_.MP.whole.heap_1_39 P) 67 C),XC C (d + 1) (.ref 140) fA:=by
   intro C P d X
   have R:=rz X
   refine dF X.O (X.look rfl) rfl (X.look rfl) rfl rfl rfl (tD fun a b c e=>rfl) rfl rfl rfl rfl ?_
   exact(af (bU (dq (X.x_attr (ag X) rfl (aa rfl) (fun _=>rfl)) cZ ay rfl cY (ac rfl (aa rfl) ai) (fun _=>rfl) rfl rfl) (fun _ _=>rfl))
    (af (bU (dq (X.x_attr (ag X) rfl (aa rfl) (fun _=>rfl)) cZ ay rfl cY (ac rfl (aI X.O (X.bi rfl rfl (by decide) rfl) fN rfl ko (ac rfl (aa rfl) ai)) ai) (fun _=>rfl) rfl rfl) (fun _ _=>rfl))
    (af (bU (dq (X.x_attr (ag X) rfl (aa rfl) (fun _=>rfl)) cZ ay rfl cY (ac rfl (aa rfl) ai) (fun _=>rfl) rfl rfl) (fun _ _=>rfl))
    (af (aO (cF (aI X.O (X.bi rfl rfl (by decide) rfl) ay rfl ct (ac rfl (X.x_attr (ag X) rfl (aa rfl) (fun _=>rfl)) ai)) ax pK))
    aw))))
  have dS:∀ {C:Cx}{P:Params}{d:Nat}(X:Law (_root_.MP.whole.heap_1_39 P) 67 C),XC C (d + 2) (.ref 154) bZ:=by
   intro C P d X
   have R:=rz X
   refine dF X.O (X.look rfl) rfl (X.look rfl) rfl rfl rfl (iA fun a b c=>rfl) rfl rfl rfl rfl ?_
   exact(af (aO (X.x_meth (ag X) (aa rfl) rfl rfl rfl rfl (ch X).sim (ac rfl aC (ac rfl (aS ai) (ac rfl (aa rfl) (ac rfl (X.x_meth (ag X) (aa rfl) rfl rfl rfl rfl (jz X).sim (ac rfl (aa rfl) (ac rfl (aS ai) (ac rfl (aa rfl) ai))) (fun _=>rfl) rfl rfl) ai)))) (fun _=>rfl) rfl rfl))
    aw)
  have uu:∀ {C:Cx}{P:Params}{d:Nat}(X:Law (_root_.MP.whole.heap_1_39 P) 67 C),XC C (d + 1) (.ref 189) i9:=by
   intro C P d X
   have R:=rz X
   refine dF X.O (X.look rfl) rfl (X.look rfl) rfl rfl rfl (gK fun a b=>rfl) rfl rfl rfl rfl ?_
   exact(af (aO (aQ (X.x_attr (ag X) rfl (aa rfl) (fun _=>rfl)) (aa rfl) (fun _ _=>rfl)))
    aw)
  have pX:∀ {C:Cx}{P:Params}{d:Nat}(X:Law (_root_.MP.whole.heap_1_39 P) 67 C),XC C (d + 1) (.ref 196) fW:=by
   intro C P d X
   have R:=rz X
   refine dF X.O (X.look rfl) rfl (X.look rfl) rfl rfl rfl (gK fun a b=>rfl) rfl rfl rfl rfl ?_
   exact(af (aO (aQ (X.x_attr (ag X) rfl (aa rfl) (fun _=>rfl)) (aa rfl) (fun _ _=>rfl)))
    aw)
  have iC:∀ {C:Cx}{P:Params}{d:Nat}(X:Law (_root_.MP.whole.heap_1_39 P) 67 C),XC C (d + 1) (.ref 203) dv:=by
   intro C P d X
   have R:=rz X
   refine dF X.O (X.look rfl) rfl (X.look rfl) rfl rfl rfl (gK fun a b=>rfl) rfl rfl rfl rfl ?_
   exact(af (aO (aQ (X.x_attr (ag X) rfl (aa rfl) (fun _=>rfl)) (aa rfl) (fun _ _=>rfl)))
    aw)
  have kU:∀ {C:Cx}{P:Params}{d:Nat}(X:Law (_root_.MP.whole.heap_1_39 P) 67 C),XC C (d + 1) (.ref 224) eQ:=by
   intro C P d X
   have R:=rz X
   refine dF X.O (X.look rfl) rfl (X.look rfl) rfl rfl rfl (pW fun a=>rfl) rfl rfl rfl rfl ?_
   exact(af (aO (cF (aI X.O (X.bi rfl rfl (by decide) rfl) ay rfl ct (ac rfl (X.x_attr (ag X) rfl (aa rfl) (fun _=>rfl)) ai)) ax pK))
    aw)
  have eR:∀ {C:Cx}{P:Params}{d:Nat}(X:Law (_root_.MP.whole.heap_1_39 P) 67 C),XC C (d + 1) (.ref 252) cG:=by
   intro C P d X
   have R:=rz X
   refine dF X.O (X.look rfl) rfl (X.look rfl) rfl rfl rfl (tD fun a b c e=>rfl) rfl rfl rfl rfl ?_
   exact(af (bS (aL (aQ (X.x_attr (ag X) rfl (aa rfl) (fun _=>rfl)) (aa rfl) (fun _ _=>rfl)) (aa rfl) gF rfl) (af (nq X.O R rfl (X.exc rfl) rfl (oq (h8 (lQ (aa rfl)) (h8 aC (h8 (lQ (aQ (X.x_attr (ag X) rfl (aa rfl) (fun _=>rfl)) (aa rfl) (fun _ _=>rfl))) (h8 aC (h8 (lQ (aQ (X.x_attr (ag X) rfl (aa rfl) (fun _=>rfl)) (aQ (X.x_attr (ag X) rfl (aa rfl) (fun _=>rfl)) (aa rfl) (fun _ _=>rfl)) (fun _ _=>rfl))) yj)))))))
    aw) aw)
    aw)
  have di:∀ {C:Cx}{P:Params}{d:Nat}(X:Law (_root_.MP.whole.heap_1_39 P) 67 C),XC C (d + 2) (.ref 259) bz:=by
   intro C P d X
   have R:=rz X
   refine dF X.O (X.look rfl) rfl (X.look rfl) rfl rfl rfl (tD fun a b c e=>rfl) rfl rfl rfl rfl ?_
   exact(af (i7 (ey (aa rfl)) (a7 rfl) (af (bU (X.x_meth (ag X) (aa rfl) rfl rfl rfl rfl (eR X).sim (ac rfl (aa rfl) (ac rfl (aa rfl) (ac rfl (aa rfl) ai))) (fun _=>rfl) rfl rfl) (fun _ _=>rfl))
    aw) (fun _ _=>rfl))
    aw)
  have ky:∀ {C:Cx}{P:Params}{d:Nat}(X:Law (_root_.MP.whole.heap_1_39 P) 67 C),XC C (d + 1) (.ref 266) dG:=by
   intro C P d X
   have R:=rz X
   refine dF X.O (X.look rfl) rfl (X.look rfl) rfl rfl rfl (pW fun a=>rfl) rfl rfl rfl rfl ?_
   exact(af (aO (X.x_attr (ag X) rfl (aa rfl) (fun _=>rfl)))
    aw)
  have d3:∀ {C:Cx}{P:Params}{d:Nat}(X:Law (_root_.MP.whole.heap_1_39 P) 67 C),XC C (d + 2) (.ref 315) aT:=by
   intro C P d X
   have R:=rz X
   refine dF X.O (X.look rfl) rfl (X.look rfl) rfl rfl rfl (gK fun a b=>rfl) rfl rfl rfl rfl ?_
   exact(af (bU (X.x_meth (ag X) (aa rfl) rfl rfl rfl rfl (eR X).sim (ac rfl (aa rfl) (ac rfl (bR X.O rfl (cW X)) (ac rfl aC ai))) (fun _=>rfl) rfl rfl) (fun _ _=>rfl))
    (af (bS (aL (aQ (X.x_attr (ag X) rfl (aa rfl) (fun _=>rfl)) (aa rfl) (fun _ _=>rfl)) aC bx rfl) (af (aO (aQ (aQ (X.x_attr (ag X) rfl (aa rfl) (fun _=>rfl)) (aa rfl) (fun _ _=>rfl)) ax (fun _ _=>rfl)))
    aw) aw)
    (af (bS (aL (aa rfl) (X.x_attr (ag X) rfl (aa rfl) (fun _=>rfl)) bx rfl) (af (aO (X.x_attr (ag X) rfl (aa rfl) (fun _=>rfl)))
    aw) aw)
    (af (bS (aL (aa rfl) (X.x_attr (ag X) rfl (aa rfl) (fun _=>rfl)) bx rfl) (af (aO (X.x_attr (ag X) rfl (aa rfl) (fun _=>rfl)))
    aw) aw)
    (af (aO (X.x_meth (ag X) (aa rfl) rfl rfl rfl rfl (ch X).sim (ac rfl aC (ac rfl (aS (ac rfl (aa rfl) ai)) (ac rfl (bR X.O rfl (cW X)) (ac rfl ax ai)))) (fun _=>rfl) rfl rfl))
    aw)))))
  have fZ:∀ {C:Cx}{P:Params}{d:Nat}(X:Law (_root_.MP.whole.heap_1_39 P) 67 C),XC C (d + 3) (.ref 322) bf:=by
   intro C P d X
   have R:=rz X
   refine dF X.O (X.look rfl) rfl (X.look rfl) rfl rfl rfl (gK fun a b=>rfl) rfl rfl rfl rfl ?_
   exact(af (bU (X.x_meth (ag X) (aa rfl) rfl rfl rfl rfl (di X).sim (ac rfl (aa rfl) (ac rfl (bR X.O rfl (cW X)) (ac rfl aC ai))) (fun _=>rfl) rfl rfl) (fun _ _=>rfl))
    (af (bS (aL (aI X.O (X.bi rfl rfl (by decide) rfl) ay rfl ct (ac rfl (aa rfl) ai)) ax bx rfl) (af (aO (X.x_attr (ag X) rfl (aa rfl) (fun _=>rfl)))
    aw) aw)
    (af (aO (cA (aL (aI X.O (X.bi rfl rfl (by decide) rfl) ay rfl ct (ac rfl (aa rfl) ai)) ax bx rfl) (aQ (aa rfl) ax (fun _ _=>rfl)) (X.x_meth (ag X) (aa rfl) rfl rfl rfl rfl (ch X).sim (ac rfl aC (ac rfl (aI X.O (X.bi rfl rfl (by decide) rfl) fN rfl ko (ac rfl (aa rfl) ai)) (ac rfl (bR X.O rfl (cW X)) (ac rfl ax ai)))) (fun _=>rfl) rfl rfl)))
    aw)))
  have kz:∀ {C:Cx}{P:Params}{d:Nat}(X:Law (_root_.MP.whole.heap_1_39 P) 67 C),XC C (d + 3) (.ref 329) bK:=by
   intro C P d X
   have R:=rz X
   refine dF X.O (X.look rfl) rfl (X.look rfl) rfl rfl rfl (gK fun a b=>rfl) rfl rfl rfl rfl ?_
   exact(af (bU (X.x_meth (ag X) (aa rfl) rfl rfl rfl rfl (di X).sim (ac rfl (aa rfl) (ac rfl (bR X.O rfl (cW X)) (ac rfl aC ai))) (fun _=>rfl) rfl rfl) (fun _ _=>rfl))
    (af (bS (aL (aI X.O (X.bi rfl rfl (by decide) rfl) ay rfl ct (ac rfl (aa rfl) ai)) ax bx rfl) (af (aO (X.x_attr (ag X) rfl (aa rfl) (fun _=>rfl)))
    aw) aw)
    (af (aO (cA (aL (aI X.O (X.bi rfl rfl (by decide) rfl) ay rfl ct (ac rfl (aa rfl) ai)) ax bx rfl) (aQ (aa rfl) ax (fun _ _=>rfl)) (X.x_meth (ag X) (aa rfl) rfl rfl rfl rfl (ch X).sim (ac rfl aC (ac rfl (aI X.O (X.bi rfl rfl (by decide) rfl) fN rfl ko (ac rfl (aa rfl) ai)) (ac rfl (bR X.O rfl (cW X)) (ac rfl ax ai)))) (fun _=>rfl) rfl rfl)))
    aw)))
  have jX:∀ {C:Cx}{P:Params}{d:Nat}(X:Law (_root_.MP.whole.heap_1_39 P) 67 C),XC C (d + 3) (.ref 336) cH:=by
   intro C P d X
   have R:=rz X
   refine dF X.O (X.look rfl) rfl (X.look rfl) rfl rfl rfl (iA fun a b c=>rfl) rfl rfl rfl rfl ?_
   exact(af (bU (X.x_meth (ag X) (aa rfl) rfl rfl rfl rfl (di X).sim (ac rfl (aS (ac rfl (aa rfl) (ac rfl (aa rfl) ai))) (ac rfl (bR X.O rfl (cW X)) (ac rfl aC ai))) (fun _=>rfl) rfl rfl) (fun _ _=>rfl))
    (af (aO (X.x_meth (ag X) (aa rfl) rfl rfl rfl rfl (ch X).sim (ac rfl aC (ac rfl (aS (ac rfl (aa rfl) (ac rfl (aa rfl) ai))) (ac rfl (bR X.O rfl (cW X)) (ac rfl ax ai)))) (fun _=>rfl) rfl rfl))
    aw))
  have ip:∀ {C:Cx}{P:Params}{d:Nat}(X:Law (_root_.MP.whole.heap_1_39 P) 67 C),XC C (d + 3) (.ref 343) bV:=by
   intro C P d X
   have R:=rz X
   refine dF X.O (X.look rfl) rfl (X.look rfl) rfl rfl rfl (iA fun a b c=>rfl) rfl rfl rfl rfl ?_
   exact(af (bU (X.x_meth (ag X) (aa rfl) rfl rfl rfl rfl (di X).sim (ac rfl (aS (ac rfl (aa rfl) (ac rfl (aa rfl) ai))) (ac rfl (bR X.O rfl (cW X)) (ac rfl aC ai))) (fun _=>rfl) rfl rfl) (fun _ _=>rfl))
    (af (aO (X.x_meth (ag X) (aa rfl) rfl rfl rfl rfl (ch X).sim (ac rfl aC (ac rfl (aS (ac rfl (aa rfl) (ac rfl (aa rfl) ai))) (ac rfl (bR X.O rfl (cW X)) (ac rfl ax ai)))) (fun _=>rfl) rfl rfl))
    aw))
  have jt:∀ {C:Cx}{P:Params}{d:Nat}(X:Law (_root_.MP.whole.heap_1_39 P) 67 C),XC C (d + 2) (.ref 357) cv:=by
   intro C P d X
   have R:=rz X
   refine dF X.O (X.look rfl) rfl (X.look rfl) rfl rfl rfl (iA fun a b c=>rfl) rfl rfl rfl rfl ?_
   exact(af (bU (X.x_meth (ag X) (aa rfl) rfl rfl rfl rfl (eR X).sim (ac rfl (aa rfl) (ac rfl (aQ (X.x_attr (ag X) rfl (aa rfl) (fun _=>rfl)) (aa rfl) (fun _ _=>rfl)) (ac rfl aC ai))) (fun _=>rfl) rfl rfl) (fun _ _=>rfl))
    (af (bS (aL (aa rfl) (aa rfl) bx rfl) (af (aO (X.x_attr (ag X) rfl (aa rfl) (fun _=>rfl)))
    aw) aw)
    (af (aO (X.x_meth (ag X) (aa rfl) rfl rfl rfl rfl (ch X).sim (ac rfl aC (ac rfl (aS (ac rfl (aI X.O (X.bi rfl rfl (by decide) rfl) ay rfl BE (ac rfl (aa rfl) (ac rfl (aa rfl) ai))) (ac rfl (aI X.O (X.bi rfl rfl (by decide) rfl) ay rfl BD (ac rfl (aa rfl) (ac rfl (aa rfl) ai))) ai))) (ac rfl (bR X.O rfl (cW X)) (ac rfl ax ai)))) (fun _=>rfl) rfl rfl))
    aw)))
  have jo:∀ {C:Cx}{P:Params}{d:Nat}(X:Law (_root_.MP.whole.heap_1_39 P) 67 C),XC C (d + 3) (.ref 364) bF:=by
   intro C P d X
   have R:=rz X
   refine dF X.O (X.look rfl) rfl (X.look rfl) rfl rfl rfl (gK fun a b=>rfl) rfl rfl rfl rfl ?_
   exact(af (bS (aL (aI X.O (X.bi rfl rfl (by decide) rfl) ay rfl ct (ac rfl (aa rfl) ai)) ax ou rfl) (af (nq X.O R rfl (X.exc rfl) rfl aC)
    aw) aw)
    (af (bU (X.x_meth (ag X) (aa rfl) rfl rfl rfl rfl (di X).sim (ac rfl (aa rfl) (ac rfl (aQ (X.x_attr (ag X) rfl (aa rfl) (fun _=>rfl)) (aQ (aa rfl) ax (fun _ _=>rfl)) (fun _ _=>rfl)) (ac rfl aC ai))) (fun _=>rfl) rfl rfl) (fun _ _=>rfl))
    (af (aO (X.x_meth (ag X) (aa rfl) rfl rfl rfl rfl (ch X).sim (ac rfl aC (ac rfl (aI X.O (X.bi rfl rfl (by decide) rfl) fN rfl ko (ac rfl (aa rfl) ai)) (ac rfl (bR X.O rfl (cW X)) (ac rfl ax ai)))) (fun _=>rfl) rfl rfl))
    aw)))
  have me:∀ {C:Cx}{P:Params}{d:Nat}(X:Law (_root_.MP.whole.heap_1_39 P) 67 C),XC C (d + 2) (.ref 371) cw:=by
   intro C P d X
   have R:=rz X
   refine dF X.O (X.look rfl) rfl (X.look rfl) rfl rfl rfl (tD fun a b c e=>rfl) rfl rfl rfl rfl ?_
   exact(af (bU (X.x_meth (ag X) (aa rfl) rfl rfl rfl rfl (eR X).sim (ac rfl (aa rfl) (ac rfl (bR X.O rfl (cW X)) (ac rfl aC ai))) (fun _=>rfl) rfl rfl) (fun _ _=>rfl))
    (af (bU (X.x_meth (ag X) (aa rfl) rfl rfl rfl rfl (eR X).sim (ac rfl (aa rfl) (ac rfl (aQ (X.x_attr (ag X) rfl (aa rfl) (fun _=>rfl)) (aa rfl) (fun _ _=>rfl)) (ac rfl aC ai))) (fun _=>rfl) rfl rfl) (fun _ _=>rfl))
    (af (aO (X.x_meth (ag X) (aa rfl) rfl rfl rfl rfl (ch X).sim (ac rfl aC (ac rfl (aS (ac rfl (aa rfl) (ac rfl (aa rfl) (ac rfl (aa rfl) ai)))) (ac rfl (aQ (X.x_attr (ag X) rfl (aa rfl) (fun _=>rfl)) (aa rfl) (fun _ _=>rfl)) (ac rfl ax ai)))) (fun _=>rfl) rfl rfl))
    aw)))
  have lC:∀ {C:Cx}{P:Params}{d:Nat}(X:Law (_root_.MP.whole.heap_1_39 P) 67 C),XC C (d + 1) (.ref 474) dO:=by
   intro C P d X
   have R:=rz X
   refine dF X.O (X.look rfl) rfl (X.look rfl) rfl rfl rfl (pW fun a=>rfl) rfl rfl rfl rfl ?_
   exact(af (aB om (X.x_setAttr (dX X) rfl (aa rfl)) (fun _=>rfl) (fun _=>rfl) (fun _=>rfl))
    (af (aB om (X.x_setAttr (dX X) rfl (aa rfl)) (fun _=>rfl) (fun _=>rfl) (fun _=>rfl))
    (af (aB (bT ai) (X.x_setAttr (dX X) rfl (aa rfl)) (fun _=>rfl) (fun _=>rfl) (fun _=>rfl))
    (af (aB (bT ai) (X.x_setAttr (dX X) rfl (aa rfl)) (fun _=>rfl) (fun _=>rfl) (fun _=>rfl))
    (af (aB (bT ai) (X.x_setAttr (dX X) rfl (aa rfl)) (fun _=>rfl) (fun _=>rfl) (fun _=>rfl))
    (af (aB (bR X.O rfl (Cf X)) (X.x_setAttr (dX X) rfl (aa rfl)) (fun _=>rfl) (fun _=>rfl) (fun _=>rfl))
    aw))))))
  have mh:∀ {C:Cx}{P:Params}{d:Nat}(X:Law (_root_.MP.whole.heap_1_39 P) 67 C),XC C (d + 2) (.ref 467) dZ:=by
   intro C P d X
   have R:=rz X
   refine dF X.O (X.look rfl) rfl (X.look rfl) rfl rfl rfl (gK fun a b=>rfl) rfl rfl rfl rfl ?_
   exact(af (aB (aa rfl) (X.x_setAttr (dX X) rfl (aa rfl)) (fun _=>rfl) (fun _=>rfl) (fun _=>rfl))
    (af (bU (X.x_meth (dX X) (aa rfl) rfl rfl rfl rfl (lC X).sim ai (fun _=>rfl) rfl rfl) (fun _ _=>rfl))
    aw))
  have jY:∀ {C:Cx}{P:Params}{d:Nat}(X:Law (_root_.MP.whole.heap_1_39 P) 67 C),XC C (d + 1) (.ref 647) cI:=by
   intro C P d X
   have R:=rz X
   refine dF X.O (X.look rfl) rfl (X.look rfl) rfl rfl rfl (iA fun a b c=>rfl) rfl rfl rfl rfl ?_
   exact(af (aB (aa rfl) (X.x_setAttr (j9 X) rfl (aa rfl)) (fun _=>rfl) (fun _=>rfl) (fun _=>rfl))
    (af (aB (aa rfl) (X.x_setAttr (j9 X) rfl (aa rfl)) (fun _=>rfl) (fun _=>rfl) (fun _=>rfl))
    aw))
  have iq:∀ {C:Cx}{P:Params}{d:Nat}(X:Law (_root_.MP.whole.heap_1_39 P) 67 C),XC C (d + 3) (.ref 722) cB:=by
   intro C P d X
   have R:=rz X
   refine dF X.O (X.look rfl) rfl (X.look rfl) rfl rfl rfl (iA fun a b c=>rfl) rfl rfl rfl rfl ?_
   exact(af (aB (aa rfl) (X.x_setAttr (aM X) rfl (aa rfl)) (fun _=>rfl) (fun _=>rfl) (fun _=>rfl))
    (af (aB (aa rfl) (X.x_setAttr (aM X) rfl (aa rfl)) (fun _=>rfl) (fun _=>rfl) (fun _=>rfl))
    (af (aB (aI X.O (X.fn rfl rfl) (X.keep rfl) rfl (X.x_make rfl rfl rfl (jY X)).sim (ac rfl (aa rfl) (ac rfl (aa rfl) ai))) (X.x_setAttr (aM X) rfl (aa rfl)) (fun _=>rfl) (fun _=>rfl) (fun _=>rfl))
    aw)))
  have d4:∀ {C:Cx}{P:Params}{d:Nat}(X:Law (_root_.MP.whole.heap_1_39 P) 67 C),XC C (d + 1) (.ref 851) bn:=by
   intro C P d X
   have R:=rz X
   refine dF X.O (X.look rfl) rfl (X.look rfl) rfl rfl rfl (gK fun a b=>rfl) rfl rfl rfl rfl ?_
   exact(af (aO (aa rfl))
    aw)
  have eB:∀ {C:Cx}{P:Params}{d:Nat}(X:Law (_root_.MP.whole.heap_1_39 P) 67 C),XC C (d + 4) (.ref 830) aq:=by
   intro C P d X
   have R:=rz X
   refine dF X.O (X.look rfl) rfl (X.look rfl) rfl rfl rfl (iA fun a b c=>rfl) rfl rfl rfl rfl ?_
   exact(af (bS (gH (jm (aL (aa rfl) aC bx rfl) (kn (aL (aI X.O (X.bi rfl rfl (by decide) rfl) ay rfl ct (ac rfl (aa rfl) ai)) ax bx rfl)))) (af (aO (X.x_meth (ag X) (X.x_attr (aM X) rfl (aa rfl) (fun _=>rfl)) rfl rfl rfl rfl (d3 X).sim (ac rfl (aQ (aa rfl) ax (fun _ _=>rfl)) ai) (fun _=>rfl) rfl rfl))
    aw) aw)
    (af (bS (aL (aa rfl) aC bx rfl) (af (aO (X.x_meth (ag X) (X.x_attr (aM X) rfl (aa rfl) (fun _=>rfl)) rfl rfl rfl rfl (fZ X).sim (ac rfl (aa rfl) ai) (fun _=>rfl) rfl rfl))
    aw) aw)
    (af (bS (aL (aa rfl) aC bx rfl) (af (aO (X.x_meth (ag X) (X.x_attr (aM X) rfl (aa rfl) (fun _=>rfl)) rfl rfl rfl rfl (kz X).sim (ac rfl (aa rfl) ai) (fun _=>rfl) rfl rfl))
    aw) aw)
    (af (bS (gH (jm (aL (aa rfl) aC bx rfl) (kn (aL (aI X.O (X.bi rfl rfl (by decide) rfl) ay rfl ct (ac rfl (aa rfl) ai)) ax bx rfl)))) (af (aB (X.x_meth (aM X) (aa rfl) rfl rfl rfl rfl (d4 X).sim (ac rfl (eW (aa rfl) (gG ax) cU cU (by first|exact⟨true,fun _ _=>rfl⟩|exact⟨false,fun _ _=>rfl⟩)) ai) (fun _=>rfl) rfl rfl) (a7 rfl) (fun _=>rfl) (fun _=>rfl) (fun _=>rfl))
    (af (aO (X.x_meth (ag X) (X.x_attr (aM X) rfl (aa rfl) (fun _=>rfl)) rfl rfl rfl rfl (me X).sim (ac rfl (aQ (aa rfl) ax (fun _ _=>rfl)) (ac rfl (aQ (aa rfl) ax (fun _ _=>rfl)) (ac rfl (aQ (aa rfl) ax (fun _ _=>rfl)) ai))) (fun _=>rfl) rfl rfl))
    aw)) aw)
    (af (bS (gH (i6 (aL (aI X.O (X.bi rfl rfl (by decide) rfl) ay rfl ct (ac rfl (aa rfl) ai)) ax ou rfl) (lR (aL (aa rfl) (aS (ac rfl aC (ac rfl aC (ac rfl aC (ac rfl aC ai))))) i5 rfl)))) (af (nq X.O R rfl (X.exc rfl) rfl (oq (h8 (lQ (aa rfl)) (h8 aC yj))))
    aw) aw)
    (af (bS (aL (aa rfl) aC bx rfl) (af (aB (aQ (aa rfl) ax (fun _ _=>rfl)) (a7 rfl) (fun _=>rfl) (fun _=>rfl) (fun _=>rfl))
    (af (i7 (ey (eW (aa rfl) (gG ax) cU cU (by first|exact⟨true,fun _ _=>rfl⟩|exact⟨false,fun _ _=>rfl⟩))) (a7 rfl) (af (aB (X.x_meth (ag X) (X.x_attr (aM X) rfl (aa rfl) (fun _=>rfl)) rfl rfl rfl rfl (jX X).sim (ac rfl (aa rfl) (ac rfl (aa rfl) ai)) (fun _=>rfl) rfl rfl) (a7 rfl) (fun _=>rfl) (fun _=>rfl) (fun _=>rfl))
    aw) (fun _ _=>rfl))
    (af (aO (aa rfl))
    aw))) aw)
    (af (bS (aL (aa rfl) aC bx rfl) (af (aB (aQ (aa rfl) (nh ax) (fun _ _=>rfl)) (a7 rfl) (fun _=>rfl) (fun _=>rfl) (fun _=>rfl))
    (af (i7 (z0 X.O (X.bi rfl rfl (by decide) rfl) rfl (ac rfl (eW (aa rfl) cU (gG (nh ax)) cU (by first|exact⟨true,fun _ _=>rfl⟩|exact⟨false,fun _ _=>rfl⟩)) ai)) (a7 rfl) (af (aB (X.x_meth (ag X) (X.x_attr (aM X) rfl (aa rfl) (fun _=>rfl)) rfl rfl rfl rfl (ip X).sim (ac rfl (aa rfl) (ac rfl (aa rfl) ai)) (fun _=>rfl) rfl rfl) (a7 rfl) (fun _=>rfl) (fun _=>rfl) (fun _=>rfl))
    aw) (fun _ _=>rfl))
    (af (aO (aa rfl))
    aw))) aw)
    (af (aB (X.x_meth (aM X) (aa rfl) rfl rfl rfl rfl (d4 X).sim (ac rfl (aa rfl) ai) (fun _=>rfl) rfl rfl) (a7 rfl) (fun _=>rfl) (fun _=>rfl) (fun _=>rfl))
    (af (bS (aL (aa rfl) aC bx rfl) (af (aO (X.x_meth (ag X) (X.x_attr (aM X) rfl (aa rfl) (fun _=>rfl)) rfl rfl rfl rfl (fZ X).sim (ac rfl (ew (z6 X.O (X.bi rfl rfl (by decide) rfl) rfl (ac rfl (aa rfl) (ac rfl (eW (aa rfl) (gG ax) cU cU (by first|exact⟨true,fun _ _=>rfl⟩|exact⟨false,fun _ _=>rfl⟩)) ai))) (Aa rfl rfl) i8 (X.x_meth (ag X) (X.x_attr (aM X) rfl (aa rfl) (fun _=>rfl)) rfl rfl rfl rfl (jt X).sim (ac rfl (aa rfl) (ac rfl (aa rfl) ai)) (fun _=>rfl) rfl rfl) (fun _ _=>rfl) rfl) ai) (fun _=>rfl) rfl rfl))
    aw) aw)
    (af (bS (aL (aI X.O (X.bi rfl rfl (by decide) rfl) ay rfl ct (ac rfl (aa rfl) ai)) ax bx rfl) (af (aO (X.x_meth (ag X) (X.x_attr (aM X) rfl (aa rfl) (fun _=>rfl)) rfl rfl rfl rfl (d3 X).sim (ac rfl (X.x_meth (ag X) (X.x_attr (aM X) rfl (aa rfl) (fun _=>rfl)) rfl rfl rfl rfl (jt X).sim (ac rfl (aQ (aa rfl) ax (fun _ _=>rfl)) (ac rfl (aQ (aa rfl) ax (fun _ _=>rfl)) ai)) (fun _=>rfl) rfl rfl) ai) (fun _=>rfl) rfl rfl))
    aw) aw)
    (af (aO (X.x_meth (ag X) (X.x_attr (aM X) rfl (aa rfl) (fun _=>rfl)) rfl rfl rfl rfl (jo X).sim (ac rfl (aa rfl) ai) (fun _=>rfl) rfl rfl))
    aw)))))))))))
  have cM:∀ {C:Cx}{P:Params}{d:Nat}(X:Law (_root_.MP.whole.heap_1_39 P) 67 C),XC C (d + 1) (.ref 880) aX:=by
   intro C P d X
   have R:=rz X
   refine dF X.O (X.look rfl) rfl (X.look rfl) rfl rfl rfl (gK fun a b=>rfl) rfl rfl rfl rfl ?_
   exact(af (aB (aQ (aa rfl) aC (fun _ _=>rfl)) (a7 rfl) (fun _=>rfl) (fun _=>rfl) (fun _=>rfl))
    (af (aB (cF (aa rfl) ax i4) (pI (aa rfl) aC) (fun _=>rfl) (fun _=>rfl) (fun _=>rfl))
    (af (bS (aL (aa rfl) (aI X.O (X.bi rfl rfl (by decide) rfl) ay rfl ct (ac rfl (aQ (aa rfl) aC (fun _ _=>rfl)) ai)) ou rfl) (af (aO (cF (aQ (aQ (aa rfl) aC (fun _ _=>rfl)) (aa rfl) (fun _ _=>rfl)) (aa rfl) nj))
    aw) aw)
    (af (aO (cF (cF (cF (cF (cF (cF ax (aa rfl) tz) (aa rfl) tz) (cF ax (aa rfl) tz) i4) ax i4) ax nj) (aa rfl) nj))
    aw))))
  have pZ:∀ {C:Cx}{P:Params}{d:Nat}(X:Law (_root_.MP.whole.heap_1_39 P) 67 C),XC C (d + 2) (.ref 885) dU:=by
   intro C P d X
   have R:=rz X
   refine dF X.O (X.look rfl) rfl (X.look rfl) rfl rfl rfl (Ai fun a b c e f=>rfl) rfl rfl rfl rfl ?_
   exact(af (aB (aI X.O (X.fn rfl rfl) (X.keep rfl) rfl (cM X).sim (ac rfl (aa rfl) (ac rfl ax ai))) (a7 rfl) (fun _=>rfl) (fun _=>rfl) (fun _=>rfl))
    (af (aB (cA (aL (aa rfl) (aS (ac rfl aC (ac rfl aC ai))) i5 rfl) (aa rfl) (aa rfl)) (a7 rfl) (fun _=>rfl) (fun _=>rfl) (fun _=>rfl))
    (af (aB (cA (aL (aa rfl) ax ou rfl) (aa rfl) (cA (aL (aa rfl) ax bx rfl) (aa rfl) (cF (cF (aa rfl) (aa rfl) i4) (bT (ac rfl (aa rfl) ai)) i4))) (a7 rfl) (fun _=>rfl) (fun _=>rfl) (fun _=>rfl))
    (af (bS (gH (jm (aL (aa rfl) aC bx rfl) (kn (aL (aI X.O (X.fn rfl rfl) (X.keep rfl) rfl (cM X).sim (ac rfl (aa rfl) (ac rfl ax ai))) ax yl rfl)))) (af (aB (aQ (bT (ac rfl (aa rfl) (ac rfl (aa rfl) ai))) (aI X.O (X.fn rfl rfl) (X.keep rfl) rfl (cM X).sim (ac rfl (aa rfl) (ac rfl ax ai))) (fun _ _=>rfl)) (a7 rfl) (fun _=>rfl) (fun _=>rfl) (fun _=>rfl))
    (af (aO (cF (bT (ac rfl (aQ (aa rfl) (aI X.O (X.fn rfl rfl) (X.keep rfl) rfl (cM X).sim (ac rfl (aa rfl) (ac rfl (aI X.O (X.bi rfl rfl (by decide) rfl) ay rfl ct (ac rfl (aa rfl) ai)) ai))) (fun _ _=>rfl)) ai)) (ew (eJ X.O (X.bi rfl rfl (by decide) rfl) rfl (ac rfl ax ai)) (ez rfl) i8 (aQ (aa rfl) (aI X.O (X.fn rfl rfl) (X.keep rfl) rfl (cM X).sim (ac rfl (aa rfl) (ac rfl (aI X.O (X.bi rfl rfl (by decide) rfl) ay rfl ct (ac rfl (aa rfl) ai)) ai))) (fun _ _=>rfl)) (fun _ _=>rfl) rfl) i4))
    aw)) aw)
    (af (aB (cA (gH (jm (aL (aa rfl) aC bx rfl) (kn (aL (aI X.O (X.fn rfl rfl) (X.keep rfl) rfl (cM X).sim (ac rfl (aa rfl) (ac rfl ax ai))) ax yl rfl)))) ax (aI X.O (X.fn rfl rfl) (X.keep rfl) rfl (cM X).sim (ac rfl (aa rfl) (ac rfl ax ai)))) (a7 rfl) (fun _=>rfl) (fun _=>rfl) (fun _=>rfl))
    (af (aO (ew (eJ X.O (X.bi rfl rfl (by decide) rfl) rfl (ac rfl (aa rfl) ai)) (ez rfl) i8 (aQ (aa rfl) (aI X.O (X.fn rfl rfl) (X.keep rfl) rfl (cM X).sim (ac rfl (aa rfl) (ac rfl (aI X.O (X.bi rfl rfl (by decide) rfl) ay rfl ct (ac rfl (aa rfl) ai)) ai))) (fun _ _=>rfl)) (fun _ _=>rfl) rfl))
    aw))))))
  have kA:∀ {C:Cx}{P:Params}{d:Nat}(X:Law (_root_.MP.whole.heap_1_39 P) 67 C),XC C (d + 1) (.ref 890) dH:=by
   intro C P d X
   have R:=rz X
   refine dF X.O (X.look rfl) rfl (X.look rfl) rfl rfl rfl (gK fun a b=>rfl) rfl rfl rfl rfl ?_
   exact(af (jn (aS (ac rfl (aI X.O (X.bi rfl rfl (by decide) rfl) ay rfl ct (ac rfl (aa rfl) ai)) (ac rfl (cQ (ew (ey (aa rfl)) (ez rfl) (pM (aL (aa rfl) (bR X.O rfl (cW X)) gF rfl)) (aa rfl) (fun _ _=>rfl) rfl) (bT ai) bx rfl) ai))) (fun _=>rfl) (fun env he=>by cases env;cases he;rfl) rfl)
    (af (bS (aL (aa rfl) aC bx rfl) (af (aO (tx (cQ (aa rfl) ax gF rfl) (ni (aa rfl))))
    aw) aw)
    (af (bS (aL (aa rfl) (aS (ac rfl aC (ac rfl aC ai))) i5 rfl) (af (aO (ni (aa rfl)))
    aw) aw)
    (af (bS (aL (aa rfl) aC bx rfl) (af (aO (CK (yh (cQ (aa rfl) ax gF rfl) (yh (cQ (aQ (aa rfl) ax (fun _ _=>rfl)) (bR X.O rfl (cW X)) gF rfl) (zX (cQ (aQ (aa rfl) ax (fun _ _=>rfl)) (aQ (aa rfl) ax (fun _ _=>rfl)) gF rfl))))))
    aw) aw)
    (af (bS (gH (i6 (aL (aa rfl) ax ou rfl) (lR (aL (aa rfl) aC bx rfl)))) (af (aO fy)
    aw) aw)
    (af (aO (cA (aL (aa rfl) (aS (ac rfl aC (ac rfl aC ai))) i5 rfl) (ni (aa rfl)) (cQ (dq (aa rfl) yk ay rfl yi (ac rfl (aQ (aa rfl) ax (fun _ _=>rfl)) ai) (fun _=>rfl) rfl rfl) (aa rfl) gF rfl)))
    aw))))))
  have uv:∀ {C:Cx}{P:Params}{d:Nat}(X:Law (_root_.MP.whole.heap_1_39 P) 67 C),XC C (d + 1) (.ref 895) kt:=by
   intro C P d X
   have R:=rz X
   refine dF X.O (X.look rfl) rfl (X.look rfl) rfl rfl rfl (gK fun a b=>rfl) rfl rfl rfl rfl ?_
   exact(af (jn (aS (ac rfl (aI X.O (X.bi rfl rfl (by decide) rfl) ay rfl ct (ac rfl (aa rfl) ai)) (ac rfl (aI X.O (X.bi rfl rfl (by decide) rfl) ay rfl ct (ac rfl (ew (ey (aa rfl)) (ez rfl) (pM (aL (aa rfl) fy vS rfl)) (aa rfl) (fun _ _=>rfl) rfl) ai)) ai))) (fun _=>rfl) (fun env he=>by cases env;cases he;rfl) rfl)
    (af (bS (aL (aa rfl) aC bx rfl) (af (aO (aQ (aa rfl) (cA (yn (aQ (aa rfl) ax (fun _ _=>rfl)) (fun _ _=>rfl)) ax ax) (fun _ _=>rfl)))
    aw) aw)
    (af (bS (aL (aa rfl) (aS (ac rfl aC (ac rfl aC ai))) i5 rfl) (af (aB (aI X.O (X.bi rfl rfl (by decide) rfl) ay rfl ct (ac rfl (ew (eJ X.O (X.bi rfl rfl (by decide) rfl) rfl (ac rfl (aa rfl) ai)) (ez rfl) (pM (aL (aQ (aa rfl) (aa rfl) (fun _ _=>rfl)) (eW (aa rfl) cU (gG (aa rfl)) cU (by first|exact⟨true,fun _ _=>rfl⟩|exact⟨false,fun _ _=>rfl⟩)) rI rfl)) (aa rfl) (fun _ _=>rfl) rfl) ai)) (a7 rfl) (fun _=>rfl) (fun _=>rfl) (fun _=>rfl))
    (af (aO (cQ (aa rfl) (cA (aL (aa rfl) aC bx rfl) ax (aa rfl)) bx rfl))
    aw)) aw)
    (af (bS (aL (aa rfl) aC bx rfl) (af (aO (tx (cQ (aa rfl) (cF (aa rfl) ax pK) ou rfl) (aQ (aa rfl) (nh ax) (fun _ _=>rfl))))
    aw) aw)
    (af (aO (aQ (vQ (fR aC (cQ (aa rfl) (aa rfl) bx rfl) (fR aC (cQ (aa rfl) ax yl rfl) (fR aC (cQ (aa rfl) ax bx rfl) (fR aC (cQ (cF (aa rfl) ax nj) ax bx rfl) pL))))) (aa rfl) (fun _ _=>rfl)))
    aw)))))
  have iD:∀ {C:Cx}{P:Params}{d:Nat}(X:Law (_root_.MP.whole.heap_1_39 P) 67 C) (n:Nat),XC C (d + n + 1) (.ref 900) (cf n):=by
   intro C P d X n
   have R:=rz X
   induction n with
   | zero=>exact BC
   | succ n ih=>
    show XC C ((d + n) + 1 + 1) (.ref 900) (ci [CW "bank",CW "t",CW "world"] (f9 (cf n)))
    refine dF X.O (X.look rfl) rfl (X.look rfl) rfl rfl rfl (iA fun a b c=>rfl) rfl rfl rfl rfl ?_
    exact(af (aB (X.x_meth (ag X) (aa rfl) rfl rfl rfl rfl (uu X).sim (ac rfl (aa rfl) ai) (fun _=>rfl) rfl rfl) (a7 rfl) (fun _=>rfl) (fun _=>rfl) (fun _=>rfl))
     (af (bS (aL (aa rfl) (aS (ac rfl aC (ac rfl aC ai))) i5 rfl) (af (aO (cQ (aa rfl) aC bx rfl))
     aw) aw)
     (af (bS (aL (aa rfl) aC bx rfl) (af (aO (aQ (aa rfl) (aa rfl) (fun _ _=>rfl)))
     aw) aw)
     (af (nk (ew (ey (X.x_meth (ag X) (aa rfl) rfl rfl rfl rfl (pX X).sim (ac rfl (aa rfl) ai) (fun _=>rfl) rfl rfl)) (ez rfl) i8 (aI X.O (X.fn rfl rfl) (X.keep rfl) rfl ih.sim (ac rfl (aa rfl) (ac rfl (aa rfl) (ac rfl (aa rfl) ai)))) (fun _ _=>rfl) rfl) (a7 rfl) (fun _=>rfl) (fun env he=>by cases env;cases he;rfl) (fun env he=>by cases env;cases he;rfl))
     (af (bS (aL (aa rfl) aC bx rfl) (af (aO (cA (yn (aQ (aa rfl) ax (fun _ _=>rfl)) (fun _ _=>rfl)) (aQ (aa rfl) ax (fun _ _=>rfl)) (aQ (aa rfl) ax (fun _ _=>rfl))))
     aw) aw)
     (af (bS (aL (aa rfl) (aS (ac rfl aC (ac rfl aC (ac rfl aC ai)))) i5 rfl) (af (aO (cA (aL (aa rfl) aC bx rfl) (ni (aQ (aa rfl) ax (fun _ _=>rfl))) (cA (aL (aa rfl) aC bx rfl) (cQ fy (aa rfl) rI rfl) (cQ fy (aa rfl) i5 rfl))))
     aw) aw)
     (af (bS (aL (aa rfl) aC bx rfl) (af (aO (tx (aQ (aa rfl) ax (fun _ _=>rfl)) (ni (aQ (aa rfl) ax (fun _ _=>rfl)))))
     aw) aw)
     (af (bS (aL (aa rfl) (aS (ac rfl aC (ac rfl aC ai))) i5 rfl) (af (aO (cQ (cQ (aQ (aa rfl) ax (fun _ _=>rfl)) (aQ (aa rfl) ax (fun _ _=>rfl)) bx rfl) (cQ (aa rfl) aC bx rfl) bx rfl))
     aw) aw)
     (af (aO (cQ (ew (eJ X.O (X.bi rfl rfl (by decide) rfl) rfl (ac rfl (aI X.O (X.bi rfl rfl (by decide) rfl) ay rfl ct (ac rfl (aa rfl) ai)) ai)) (ez rfl) (pM (aL (aQ (aa rfl) (aa rfl) (fun _ _=>rfl)) (eW (aa rfl) cU (gG (aa rfl)) cU (by first|exact⟨true,fun _ _=>rfl⟩|exact⟨false,fun _ _=>rfl⟩)) i5 rfl)) (aa rfl) (fun _ _=>rfl) rfl) (bT ai) bx rfl))
     aw)))))))))
  have oI:∀ {C:Cx}{P:Params}{d:Nat}(X:Law (_root_.MP.whole.heap_1_39 P) 67 C),XC C (d + 1) (.ref 907) fp:=by
   intro C P d X
   have R:=rz X
   refine dF X.O (X.look rfl) rfl (X.look rfl) rfl rfl rfl (iA fun a b c=>rfl) rfl rfl rfl rfl ?_
   exact(af (aB (bT ai) (a7 rfl) (fun _=>rfl) (fun _=>rfl) (fun _=>rfl))
    (af (i7 (eJ X.O (X.bi rfl rfl (by decide) rfl) rfl (ac rfl ax ai)) (a7 rfl) (af (i7 (ey (aS (ac rfl (aS (ac rfl ax (ac rfl ax (ac rfl ax ai)))) (ac rfl (aS (ac rfl ax (ac rfl ax (ac rfl ax ai)))) (ac rfl (aS (ac rfl ax (ac rfl ax (ac rfl ax ai)))) (ac rfl (aS (ac rfl ax (ac rfl ax (ac rfl ax ai)))) (ac rfl (aS (ac rfl ax (ac rfl ax (ac rfl ax ai)))) ai))))))) (a7 rfl) (af (aB (vO (fR (aa rfl) ax pL)) (a7 rfl) (fun _=>rfl) (fun _=>rfl) (fun _=>rfl))
    (af (i7 (eJ X.O (X.bi rfl rfl (by decide) rfl) rfl (ac rfl ax ai)) (a7 rfl) (af (aB (cQ (cF (cF (aa rfl) (cF ax (aa rfl) z8) BH) ax nj) ax bx rfl) (pI (aa rfl) (aQ (aa rfl) (aa rfl) (fun _ _=>rfl))) (fun _=>rfl) (fun _=>rfl) (fun _=>rfl))
    (af (aB (aQ (aa rfl) (aa rfl) (fun _ _=>rfl)) (pI (aa rfl) (aQ (aa rfl) (aa rfl) (fun _ _=>rfl))) (fun _=>rfl) (fun _=>rfl) (fun _=>rfl))
    aw)) (fun _ _=>rfl))
    (af (bU (dq (aa rfl) cZ ay rfl cY (ac rfl (aa rfl) ai) (fun _=>rfl) rfl rfl) (fun _ _=>rfl))
    aw))) (fun _ _=>rfl))
    aw) (fun _ _=>rfl))
    (af (aO (aa rfl))
    aw)))
  have mi:∀ {C:Cx}{P:Params}{d:Nat}(X:Law (_root_.MP.whole.heap_1_39 P) 67 C),XC C (d + 5) (.ref 914) dw:=by
   intro C P d X
   have R:=rz X
   refine dF X.O (X.look rfl) rfl (X.look rfl) rfl rfl rfl (iA fun a b c=>rfl) rfl rfl rfl rfl ?_
   exact(af (BI X.O R rfl (X.exc rfl) (af (aO (X.x_meth (aM X) (aa rfl) rfl rfl rfl rfl (eB X).sim (ac rfl (aa rfl) (ac rfl (aa rfl) ai)) (fun _=>rfl) rfl rfl))
    aw) Ab)
    aw)
  have oH:∀ {C:Cx}{P:Params}{d:Nat}(X:Law (_root_.MP.whole.heap_1_39 P) 67 C),XC C (d + 2) (.ref 921) gS:=by
   intro C P d X
   have R:=rz X
   refine dF X.O (X.look rfl) rfl (X.look rfl) rfl rfl rfl (iA fun a b c=>rfl) rfl rfl rfl rfl ?_
   exact(af (bS (aL (aa rfl) (aS (ac rfl aC (ac rfl aC ai))) i5 rfl) (af (aO (aa rfl))
    aw) aw)
    (af (jn (aS (ac rfl (cA (aL (aa rfl) aC bx rfl) (eW (aa rfl) cU (gG (nh ax)) cU (by first|exact⟨true,fun _ _=>rfl⟩|exact⟨false,fun _ _=>rfl⟩)) (aI X.O (X.bi rfl rfl (by decide) rfl) fN rfl zZ (ac rfl (aa rfl) ai))) (ac rfl (bT ai) ai))) (fun _=>rfl) (fun env he=>by cases env;cases he;rfl) rfl)
    (af (ym 5000 (aL (aa rfl) (bT ai) gF rfl) (af (bU (dq (aa rfl) cZ ay rfl cY (ac rfl (dq (aa rfl) BG ay rfl BF (ac rfl (aI X.O (X.fn rfl rfl) (X.keep rfl) rfl (cM X).sim (ac rfl (aa rfl) (ac rfl (aI X.O (X.bi rfl rfl (by decide) rfl) ay rfl ct (ac rfl (aa rfl) ai)) ai))) ai) (fun _=>rfl) rfl rfl) ai) (fun _=>rfl) rfl rfl) (fun _ _=>rfl))
    aw))
    (af (aO (cA (aL (aa rfl) aC bx rfl) (cF (aa rfl) (eW (aa rfl) (gG (nh ax)) cU cU (by first|exact⟨true,fun _ _=>rfl⟩|exact⟨false,fun _ _=>rfl⟩)) i4) (aa rfl)))
    aw))))
  have BV:∀ {C:Cx}{P:Params}{d:Nat}(X:Law (_root_.MP.whole.heap_1_39 P) 67 C),XC C (d + 22) (.ref 926) tA:=by
   intro C P d X
   have R:=rz X
   refine dF X.O (X.look rfl) rfl (X.look rfl) rfl rfl rfl (pW fun a=>rfl) rfl rfl rfl rfl ?_
   exact(af (nk (aS (ac rfl (vP (fR aC (vR (aa rfl) ax (by first|exact⟨true,fun _ _=>rfl⟩|exact⟨false,fun _ _=>rfl⟩)) (fR aC ax pL))) (ac rfl (aI X.O (X.fn rfl rfl) (X.keep rfl) rfl (X.x_make rfl rfl rfl (pY X)).sim ai) ai))) (yg (rK rfl (a7 rfl) (rK rfl (a7 rfl) z9)) rfl) (fun _=>rfl) (fun env he=>by cases env;cases he;rfl) (fun env he=>by cases env;cases he;rfl))
    (af (aB (bT (ac rfl (X.x_meth (ag X) (aa rfl) rfl rfl rfl rfl (fi X).sim (ac rfl aC ai) (fun _=>rfl) rfl rfl) (ac rfl (X.x_meth (ag X) (aa rfl) rfl rfl rfl rfl (fi X).sim (ac rfl aC ai) (fun _=>rfl) rfl rfl) ai))) (a7 rfl) (fun _=>rfl) (fun _=>rfl) (fun _=>rfl))
    (af (nC (ey (aS (ac rfl aC (ac rfl aC (ac rfl aC ai))))) (ez rfl) i8 (X.x_meth (ag X) (aa rfl) rfl rfl rfl rfl (dS X).sim (ac rfl (aa rfl) (ac rfl (bR X.O rfl (cW X)) ai)) (fun _=>rfl) rfl rfl) (a7 rfl) (fun _ _=>rfl) rfl (fun env he=>by cases env;cases he;rfl))
    (af (jn (aS (ac rfl (ew (ey (aS (ac rfl aC (ac rfl aC (ac rfl aC ai))))) (ez rfl) i8 (X.x_meth (ag X) (aa rfl) rfl rfl rfl rfl (dS X).sim (ac rfl (aa rfl) (ac rfl (aQ (aa rfl) ax (fun _ _=>rfl)) ai)) (fun _=>rfl) rfl rfl) (fun _ _=>rfl) rfl) (ac rfl (X.x_meth (ag X) (aa rfl) rfl rfl rfl rfl (dS X).sim (ac rfl aC (ac rfl (aQ (aa rfl) ax (fun _ _=>rfl)) ai)) (fun _=>rfl) rfl rfl) ai))) (fun _=>rfl) (fun env he=>by cases env;cases he;rfl) rfl)
    (af (jn (aS (ac rfl (aI X.O (X.fn rfl rfl) (X.keep rfl) rfl (oI X).sim (ac rfl (aa rfl) (ac rfl (aa rfl) (ac rfl (aa rfl) ai)))) (ac rfl (aI X.O (X.fn rfl rfl) (X.keep rfl) rfl (X.x_make rfl rfl rfl (iq X)).sim (ac rfl (aa rfl) (ac rfl (aI X.O (X.fn rfl rfl) (X.keep rfl) rfl (X.x_make rfl rfl rfl (mh X)).sim (ac rfl (aa rfl) ai)) ai))) ai))) (fun _=>rfl) (fun env he=>by cases env;cases he;rfl) rfl)
    (af (aB (cF (aa rfl) (bT (ac rfl (X.x_meth (ag X) (aa rfl) rfl rfl rfl rfl (d3 X).sim (ac rfl (aQ (aa rfl) ax (fun _ _=>rfl)) ai) (fun _=>rfl) rfl rfl) (ac rfl (X.x_meth (ag X) (aa rfl) rfl rfl rfl rfl (ky X).sim ai (fun _=>rfl) rfl rfl) ai))) i4) (a7 rfl) (fun _=>rfl) (fun _=>rfl) (fun _=>rfl))
    (af (i7 (eJ X.O (X.bi rfl rfl (by decide) rfl) rfl (ac rfl ax ai)) (a7 rfl) (af (aB (aQ (bR X.O rfl (kZ X)) (aI X.O (X.fn rfl rfl) (X.keep rfl) rfl (cM X).sim (ac rfl (aa rfl) (ac rfl (aI X.O (X.bi rfl rfl (by decide) rfl) ay rfl ct (ac rfl (bR X.O rfl (kZ X)) ai)) ai))) (fun _ _=>rfl)) (a7 rfl) (fun _=>rfl) (fun _=>rfl) (fun _=>rfl))
    (af (aB (aI X.O (X.fn rfl rfl) (X.keep rfl) rfl (pZ X).sim (ac rfl (aa rfl) (ac rfl (aa rfl) (ac rfl (aa rfl) (ac rfl (aa rfl) (ac rfl (aa rfl) ai)))))) (a7 rfl) (fun _=>rfl) (fun _=>rfl) (fun _=>rfl))
    (af (aB (aI X.O (X.fn rfl rfl) (X.keep rfl) rfl (mi X).sim (ac rfl (aa rfl) (ac rfl (aa rfl) (ac rfl (aa rfl) ai)))) (a7 rfl) (fun _=>rfl) (fun _=>rfl) (fun _=>rfl))
    (af (bS (aL (cQ (aa rfl) pJ kS rfl) (aI X.O (X.fn rfl rfl) (X.keep rfl) rfl (kA X).sim (ac rfl (aa rfl) (ac rfl (ew (ey (aa rfl)) (ez rfl) i8 (X.x_meth (ag X) (aa rfl) rfl rfl rfl rfl (iC X).sim (ac rfl (aa rfl) ai) (fun _=>rfl) rfl rfl) (fun _ _=>rfl) rfl) ai))) gF rfl) (af (aO fy)
    aw) aw)
    (af (bS (aL (aa rfl) pJ kS rfl) (af rJ
    aw) aw)
    (af (jn (aS (ac rfl (aI X.O (X.fn rfl rfl) (X.keep rfl) rfl (mi X).sim (ac rfl (aa rfl) (ac rfl (aa rfl) (ac rfl (aI X.O (X.fn rfl rfl) (X.keep rfl) rfl (oH X).sim (ac rfl (aa rfl) (ac rfl (aa rfl) (ac rfl (aa rfl) ai)))) ai)))) (ac rfl (X.x_meth (ag X) (aa rfl) rfl rfl rfl rfl (kU X).sim ai (fun _=>rfl) rfl rfl) ai))) (fun _=>rfl) (fun env he=>by cases env;cases he;rfl) rfl)
    (af (bS (gH (i6 (aL (aa rfl) pJ kS rfl) (i6 (aL (X.x_meth (aM X) (aa rfl) rfl rfl rfl rfl (eB X).sim (ac rfl (aa rfl) (ac rfl (aa rfl) ai)) (fun _=>rfl) rfl rfl) (aa rfl) gF rfl) (lR (aL (X.x_meth (ag X) (aa rfl) rfl rfl rfl rfl (kU X).sim ai (fun _=>rfl) rfl rfl) (aa rfl) gF rfl))))) (af (aO fy)
    aw) aw)
    (af (bS (aL (X.x_meth (ag X) (aa rfl) rfl rfl rfl rfl (iC X).sim (ac rfl (aa rfl) ai) (fun _=>rfl) rfl rfl) (cA (aL (aa rfl) aC bx rfl) (X.x_meth (ag X) (aa rfl) rfl rfl rfl rfl (iC X).sim (ac rfl (aQ (aa rfl) ax (fun _ _=>rfl)) ai) (fun _=>rfl) rfl rfl) (bR X.O rfl (cW X))) gF rfl) (af (aO fy)
    aw) aw)
    (af (i7 (ey (aa rfl)) (a7 rfl) (af (aB (aI X.O (X.fn rfl rfl) (X.keep rfl) rfl (uv X).sim (ac rfl (aa rfl) (ac rfl (ew (ey (aa rfl)) (ez rfl) i8 (aI X.O (X.fn rfl rfl) (X.keep rfl) rfl (iD X 20).sim (ac rfl (aa rfl) (ac rfl (aa rfl) (ac rfl (aa rfl) ai)))) (fun _ _=>rfl) rfl) ai))) (a7 rfl) (fun _=>rfl) (fun _=>rfl) (fun _=>rfl))
    (af (bS (gH (i6 (aL (aI X.O (X.fn rfl rfl) (X.keep rfl) rfl (iD X 20).sim (ac rfl (aa rfl) (ac rfl (aa rfl) (ac rfl (aa rfl) ai)))) (aa rfl) gF rfl) (lR (aL (aI X.O (X.fn rfl rfl) (X.keep rfl) rfl (iD X 20).sim (ac rfl (aa rfl) (ac rfl (aa rfl) (ac rfl (aa rfl) ai)))) (aa rfl) gF rfl)))) (af (aO fy)
    aw) aw)
    aw)) (fun _ _=>rfl))
    aw))))))))) (fun _ _=>rfl))
    (af (aO fy)
    aw))))))))
  exact fun {C P d} X=>BV X
 k_fill
 intro w s₀ s₁ mg mb G Y fa o pm cd doc dV kV ho hd hcd hD hmg hg args vals as hpre hlay hrd hwl hlo
 have KX:=kIn_of Y
 refine Ground.open G ?_
 intro T B D TE TW
 have hlo2:=hlo
 wrow_args hpre hlay hrd hwl hlo
 rename_i ns hs hlay0 hL1 hr1 hl2 x1 x2 a vs x3 hL ra w1 r0 hI hr hlen htrue
 have hn:ns.length≤63:=by omega
 refine MP.join (K:=_root_.MP.whole.heap_1_39 w.params) (sf:=67) KX T.g T.b T.nolimit T.builtins hmg hL hI ?_ (by rfl) rfl (by rfl) ⟨_,_,_,rfl,rfl⟩ (by rfl) (fun C X=>(walked X).s) (fun o=>MP.plain ns o hn) ?_
 ·cases r0
  exact hlo2 _ (by simp)
 ·intro s' hk hos hge
  exact⟨.inl ⟨.bool true,.bool true,[],rfl,fun _=>rfl,.bool true,postW_of (by rfl) (by wtm_val) rfl,fun _=>⟨by simp,by simp⟩⟩,.of_keep hk,hos,.of_eq (hge.trans hg)⟩
end MP
theorem PySem.Challenge.cw_qz0036_03_holds : PySem.Challenge.rw_qz0036_03.Holds :=
 MP.whole
