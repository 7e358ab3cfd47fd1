import PyProof.Rows.All
import Wide.All
import OpenK.AllK
import Wide.FinOn
import PySem.Challenge.RW_qz0036_04
/- The walk of the law over abstract values (namespace MP), the plain law, and the join.
   The compiled file must stay under its lid. The head lays a twin (MP.whole.tw.., see Open/Fast.lean, stemIn) of each of its own constants, with a proof of some
   hundred thousand terms in all; where a constant of that name stands already it lays none and goes on without. The rows «theorem MP.whole.tw..» below,
   each of them just True, do only that: nothing reads them. -/
open PySem PySem.W PyProof.Rows
set_option Elab.async false
set_option maxRecDepth 100000
set_option linter.all false
theorem MP.whole.tw16640420397587989959 : True := trivial
theorem MP.whole.tw18211412006086958186 : True := trivial
theorem MP.whole.tw9814518929934304174 : True := trivial
theorem MP.whole.tw8142485941256552511 : True := trivial
theorem MP.whole.tw7316284654644519805 : True := trivial
theorem MP.whole.tw10878789366451056887 : True := trivial
theorem MP.whole.tw11121433115929693812 : True := trivial
theorem MP.whole.tw11313384827383491997 : True := trivial
theorem MP.whole.tw7307790864599071519 : True := trivial
theorem MP.whole.tw7528107468884172026 : True := trivial
theorem MP.whole.tw7971860599773877407 : True := trivial
theorem MP.whole.tw8604492322609618780 : True := trivial
theorem MP.whole.tw7954310946529262535 : True := trivial
theorem MP.whole.tw3019938944930241639 : True := trivial
theorem MP.whole.tw7369671966740971300 : True := trivial
theorem MP.whole.tw11793920329540967858 : True := trivial
theorem MP.whole.tw8202337758482868349 : True := trivial
theorem MP.whole.tw4056265096648929153 : True := trivial
theorem MP.whole.tw426356416607016052 : True := trivial
theorem MP.whole.tw1097706632511346507 : True := trivial
theorem MP.whole.tw8130581706888515550 : True := trivial
theorem MP.whole.tw9249200334042909262 : True := trivial
theorem MP.whole.tw9386054961299423651 : True := trivial
theorem MP.whole.tw7587844661009122920 : True := trivial
theorem MP.whole.tw454970742730620294 : True := trivial
theorem MP.whole.tw8990898086422219763 : True := trivial
theorem MP.whole.tw6363454539627726825 : True := trivial
theorem MP.whole.tw15906164836942295160 : True := trivial
theorem MP.whole.tw14705440679738192629 : True := trivial
theorem MP.whole.tw4430007001504169783 : True := trivial
theorem MP.whole.tw737047311165381619 : True := trivial
theorem MP.whole.tw18140841742318848192 : True := trivial
theorem MP.whole.tw7874553460320022126 : True := trivial
theorem MP.whole.tw3712254955869313881 : True := trivial
theorem MP.whole.tw14753929753834603021 : True := trivial
theorem MP.whole.tw15116639518276897657 : True := trivial
theorem MP.whole.tw15824186949199457727 : True := trivial
theorem MP.whole.tw14206323472967510632 : True := trivial
theorem MP.whole.tw9100185529997794775 : True := trivial
theorem MP.whole.tw3415265111047010512 : True := trivial
theorem MP.whole.tw535186039941493797 : True := trivial
theorem MP.whole.tw13622903137312005784 : True := trivial
theorem MP.whole.tw18065680466326334928 : True := trivial
theorem MP.whole.tw9201683338821919874 : True := trivial
theorem MP.whole.tw3246021206623981670 : True := trivial
theorem MP.whole.tw12640513314316417336 : True := trivial
theorem MP.whole.tw16060693184072599521 : True := trivial
theorem MP.whole.tw9625798573411668067 : True := trivial
theorem MP.whole.tw8174410938685863590 : True := trivial
theorem MP.whole.tw8900467300437890454 : True := trivial
theorem MP.whole.tw7041771105315432492 : True := trivial
theorem MP.whole.tw14976881091233267868 : True := trivial
theorem MP.whole.tw4121338251453146458 : True := trivial
theorem MP.whole.tw7097351209681713244 : True := trivial
theorem MP.whole.tw15863833586320707844 : True := trivial
theorem MP.whole.tw2083166756718778749 : True := trivial
theorem MP.whole.tw14660693123422308398 : True := trivial
theorem MP.whole.tw2033544891358847409 : True := trivial
theorem MP.whole.tw11191747126330900900 : True := trivial
theorem MP.whole.tw4960003301826749320 : True := trivial
theorem MP.whole.tw3618431470516682914 : True := trivial
theorem MP.whole.tw14481973992888471300 : True := trivial
theorem MP.whole.tw5015140852209118979 : True := trivial
theorem MP.whole.tw15553143450731748857 : True := trivial
theorem MP.whole.tw8751385807470164316 : True := trivial
theorem MP.whole.tw4329094147391818095 : True := trivial
theorem MP.whole.tw18332720618999382984 : True := trivial
theorem MP.whole.tw7103709657430467237 : True := trivial
theorem MP.whole.tw16527148945605344889 : True := trivial
theorem MP.whole.tw1348835374073080023 : True := trivial
theorem MP.whole.tw537925319123673101 : True := trivial
theorem MP.whole.tw14518360977276570008 : True := trivial
theorem MP.whole.tw3740285677087082224 : True := trivial
theorem MP.whole.tw12217422518708411034 : True := trivial
theorem MP.whole.tw10915913489987147213 : True := trivial
theorem MP.whole.tw245698775427111587 : True := trivial
theorem MP.whole.tw1092272833010483217 : True := trivial
theorem MP.whole.tw11062904477533257325 : True := trivial
theorem MP.whole.tw12889677258728375912 : True := trivial
theorem MP.whole.tw4627122051276386199 : True := trivial
theorem MP.whole.tw10122152476768396255 : True := trivial
theorem MP.whole.tw11758566855407513415 : True := trivial
theorem MP.whole.tw6167672218037630073 : True := trivial
theorem MP.whole.tw39472726980520295 : True := trivial
theorem MP.whole.tw3580095323306782198 : True := trivial
theorem MP.whole.tw5774644114660685926 : True := trivial
theorem MP.whole.tw17106930267516549867 : True := trivial
theorem MP.whole.tw3075158137777475229 : True := trivial
theorem MP.whole.tw15525111230997845379 : True := trivial
theorem MP.whole.tw18203957950098374102 : True := trivial
theorem MP.whole.tw14106044737271394188 : True := trivial
theorem MP.whole.tw13366658189342808972 : True := trivial
theorem MP.whole.tw5545177201174618946 : True := trivial
theorem MP.whole.tw11455548721743343554 : True := trivial
theorem MP.whole.tw10694857226983677347 : True := trivial
theorem MP.whole.tw1122198877562931044 : True := trivial
theorem MP.whole.tw7997558661413782243 : True := trivial
theorem MP.whole.tw2217186071070090333 : True := trivial
theorem MP.whole.tw598456991234575589 : True := trivial
theorem MP.whole.tw9171775296372292532 : True := trivial
theorem MP.whole.tw12019168663517850557 : True := trivial
theorem MP.whole.tw9174089485330808981 : True := trivial
theorem MP.whole.tw16298811371578178689 : True := trivial
theorem MP.whole.tw6167746455413455414 : True := trivial
theorem MP.whole.tw1353153412765854243 : True := trivial
theorem MP.whole.tw12337190863792526838 : True := trivial
theorem MP.whole.tw12738031306225404929 : True := trivial
theorem MP.whole.tw2552305236805180056 : True := trivial
theorem MP.whole.tw9594866904698227092 : True := trivial
theorem MP.whole.tw15000692110580739790 : True := trivial
theorem MP.whole.tw10497121958535761038 : True := trivial
theorem MP.whole.tw18356998670121850388 : True := trivial
theorem MP.whole.tw7916738733002563974 : True := trivial
theorem MP.whole.tw13713799576146360964 : True := trivial
theorem MP.whole.tw11627990299993148232 : True := trivial
theorem MP.whole.tw23981007574090181 : True := trivial
theorem MP.whole.tw15275661299300725654 : True := trivial
theorem MP.whole.tw10634900237866036959 : True := trivial
theorem MP.whole.tw11651578186376368637 : True := trivial
theorem MP.whole.tw18417663997630738171 : True := trivial
theorem MP.whole.tw17265339400378182577 : True := trivial
theorem MP.whole.tw14370221275263502259 : True := trivial
theorem MP.whole.tw13942075926457134932 : True := trivial
theorem MP.whole.tw9323646453970906595 : True := trivial
theorem MP.whole.tw14768890315695266139 : True := trivial
theorem MP.whole.tw6397653503283887783 : True := trivial
theorem MP.whole.tw11002560875109786308 : True := trivial
theorem MP.whole.tw7712641932525065653 : True := trivial
theorem MP.whole.tw10957893741109569925 : True := trivial
theorem MP.whole.tw1713428654884181128 : True := trivial
theorem MP.whole.tw13790894967859482944 : True := trivial
theorem MP.whole.tw904097594285195468 : True := trivial
theorem MP.whole.tw6668832958166482270 : True := trivial
theorem MP.whole.tw3920127822413846874 : True := trivial
theorem MP.whole.tw8911434909955891573 : True := trivial
theorem MP.whole.tw14815636774477485864 : True := trivial
theorem MP.whole.tw10229036734313710912 : True := trivial
theorem MP.whole.tw6946191952239097636 : True := trivial
theorem MP.whole.tw5680044790518847070 : True := trivial
theorem MP.whole.tw9406537908780017056 : True := trivial
theorem MP.whole.tw4517578426747934478 : True := trivial
theorem MP.whole.tw10110745684503776847 : True := trivial
theorem MP.whole.tw7867692689351063256 : True := trivial
theorem MP.whole.tw9794696419574402060 : True := trivial
theorem MP.whole.tw10735444298036744536 : True := trivial
theorem MP.whole.tw3728192558554617025 : True := trivial
theorem MP.whole.tw6907936773063244728 : True := trivial
theorem MP.whole.tw4974781081527286901 : True := trivial
theorem MP.whole.tw10162003482850966131 : True := trivial
theorem MP.whole.tw3499024026575464899 : True := trivial
theorem MP.whole.tw4941512411787796455 : True := trivial
theorem MP.whole.tw7396951777099876099 : True := trivial
theorem MP.whole.tw10590421695237868617 : True := trivial
theorem MP.whole.tw1436880327596580117 : True := trivial
theorem MP.whole.tw14065672333364701672 : True := trivial
theorem MP.whole.tw11010215511546098551 : True := trivial
theorem MP.whole.tw13280073920327288766 : True := trivial
theorem MP.whole.tw18132039373162399976 : True := trivial
theorem MP.whole.tw16954260573660057824 : True := trivial
theorem MP.whole.tw5112266337393507577 : True := trivial
theorem MP.whole.tw11086223563872664327 : True := trivial
theorem MP.whole.tw9565265742537680816 : True := trivial
theorem MP.whole.tw310086310783806689 : True := trivial
theorem MP.whole.tw5103962477176562671 : True := trivial
theorem MP.whole.tw11832855953852137095 : True := trivial
theorem MP.whole.tw4646353316851640394 : True := trivial
theorem MP.whole.tw16075115081377070891 : True := trivial
theorem MP.whole.tw6145924281490506904 : True := trivial
theorem MP.whole.tw9523470040077126392 : True := trivial
theorem MP.whole.tw10485948133001535710 : True := trivial
theorem MP.whole.tw3511044921016532622 : True := trivial
theorem MP.whole.tw11355277107485597560 : True := trivial
theorem MP.whole.tw434605959337307796 : True := trivial
theorem MP.whole.tw1540672716983506405 : True := trivial
theorem MP.whole.tw15408275205313157333 : True := trivial
theorem MP.whole.tw7131663330836129738 : True := trivial
theorem MP.whole.tw2245820836641905438 : True := trivial
theorem MP.whole.tw15592001757702876907 : True := trivial
theorem MP.whole.tw14434123778000293288 : True := trivial
theorem MP.whole.tw5922325713313563040 : True := trivial
theorem MP.whole.tw15535992441571499467 : True := trivial
theorem MP.whole.tw2787552083588598299 : True := trivial
theorem MP.whole.tw10317074559512629011 : True := trivial
theorem MP.whole.tw5132545031430791077 : True := trivial
theorem MP.whole.tw11658895938223484200 : True := trivial
theorem MP.whole.tw6947582008772946259 : True := trivial
theorem MP.whole.tw1631054018804095731 : True := trivial
theorem MP.whole.tw18263056447181583387 : True := trivial
theorem MP.whole.tw5019426082538068770 : True := trivial
theorem MP.whole.tw8737468312361833446 : True := trivial
theorem MP.whole.tw3763678094368100444 : True := trivial
theorem MP.whole.tw4771364705392527873 : True := trivial
theorem MP.whole.tw13557486154386693016 : True := trivial
theorem MP.whole.tw13087241791222440732 : True := trivial
theorem MP.whole.tw13262227846130503141 : True := trivial
theorem MP.whole.tw3068480805400059445 : True := trivial
theorem MP.whole.tw2176990687544212131 : True := trivial
theorem MP.whole.tw4895139696997182198 : True := trivial
theorem MP.whole.tw7967654656276853213 : True := trivial
theorem MP.whole.tw1517804747604210927 : True := trivial
theorem MP.whole.tw14809537725001968604 : True := trivial
theorem MP.whole.tw11718200425412636813 : True := trivial
theorem MP.whole.tw10362016924048952969 : True := trivial
theorem MP.whole.tw2822803690531288474 : True := trivial
theorem MP.whole.tw8086528557134723681 : True := trivial
theorem MP.whole.tw18087214644366939587 : True := trivial
theorem MP.whole.tw12549024871495109215 : True := trivial
theorem MP.whole.tw15539693093386262939 : True := trivial
theorem MP.whole.tw639882199738262332 : True := trivial
theorem MP.whole.tw15375857414812739913 : True := trivial
theorem MP.whole.tw12257063348667498842 : True := trivial
theorem MP.whole.tw7790333329934797849 : True := trivial
theorem MP.whole.tw3934282566411484291 : True := trivial
theorem MP.whole.tw2502001262596472250 : True := trivial
theorem MP.whole.tw4368231194107563510 : True := trivial
theorem MP.whole.tw4911028445102538797 : True := trivial
theorem MP.whole.tw10477908619810547373 : True := trivial
theorem MP.whole.tw14443297128364408005 : True := trivial
theorem MP.whole.tw16915690938627530014 : True := trivial
theorem MP.whole.tw8144291344484043844 : True := trivial
theorem MP.whole.tw7009045014465043636 : True := trivial
theorem MP.whole.tw1875618652428842692 : True := trivial
theorem MP.whole.tw9909074011504368002 : True := trivial
theorem MP.whole.tw11842772934983543022 : True := trivial
theorem MP.whole.tw14776326056809437551 : True := trivial
theorem MP.whole.tw4292195030943378913 : True := trivial
theorem MP.whole.tw6345160264057693560 : True := trivial
theorem MP.whole.tw7095070450813458245 : True := trivial
theorem MP.whole.tw9442834787084177620 : True := trivial
theorem MP.whole.tw7826108053178127896 : True := trivial
theorem MP.whole.tw4039016319079359227 : True := trivial
theorem MP.whole.tw1990816635172562355 : True := trivial
theorem MP.whole.tw9416123173500728336 : True := trivial
theorem MP.whole.tw17699115071223931993 : True := trivial
theorem MP.whole.tw1529582237242202620 : True := trivial
theorem MP.whole.tw11960625635597474712 : True := trivial
theorem MP.whole.tw18263305037239849993 : True := trivial
theorem MP.whole.tw9378756817720711147 : True := trivial
theorem MP.whole.tw3601137773307823367 : True := trivial
theorem MP.whole.tw3864134590872725640 : True := trivial
theorem MP.whole.tw14877030553836682475 : True := trivial
theorem MP.whole.tw16944161800704778268 : True := trivial
theorem MP.whole.tw10488314531893026150 : True := trivial
theorem MP.whole.tw10170980485231615866 : True := trivial
theorem MP.whole.tw10458113741993573761 : True := trivial
theorem MP.whole.tw5182807878609814410 : True := trivial
theorem MP.whole.tw3477682625617528739 : True := trivial
theorem MP.whole.tw18002787920338989142 : True := trivial
theorem MP.whole.tw13098678191502804371 : True := trivial
theorem MP.whole.tw2182223734648548355 : True := trivial
theorem MP.whole.tw15594423050595359043 : True := trivial
theorem MP.whole.tw4419642549590744072 : True := trivial
theorem MP.whole.tw7267539632891432825 : True := trivial
theorem MP.whole.tw1556723699308119052 : True := trivial
theorem MP.whole.tw16902089783391617110 : True := trivial
theorem MP.whole.tw11536237278636989059 : True := trivial
theorem MP.whole.tw7256006190797093634 : True := trivial
theorem MP.whole.tw2094825621216228877 : True := trivial
theorem MP.whole.tw5137714408855250728 : True := trivial
theorem MP.whole.tw10892696715393626159 : True := trivial
theorem MP.whole.tw9242231353727144680 : True := trivial
theorem MP.whole.tw136460315029098760 : True := trivial
theorem MP.whole.tw9577319273757345770 : True := trivial
theorem MP.whole.tw1143465365569875291 : True := trivial
theorem MP.whole.tw12927174266454497697 : True := trivial
theorem MP.whole.tw2984567999310480623 : True := trivial
theorem MP.whole.tw13857569645109433777 : True := trivial
theorem MP.whole.tw10854123191386390484 : True := trivial
theorem MP.whole.tw10491034923813957067 : True := trivial
theorem MP.whole.tw10303544791682316814 : True := trivial
theorem MP.whole.tw1363291059684332932 : True := trivial
theorem MP.whole.tw15309133504709120879 : True := trivial
theorem MP.whole.tw7461323100911961095 : True := trivial
theorem MP.whole.tw9914639592683038413 : True := trivial
theorem MP.whole.tw10268494659599807341 : True := trivial
theorem MP.whole.tw3630309415892990086 : True := trivial
theorem MP.whole.tw5113288521360122128 : True := trivial
theorem MP.whole.tw16005975109848300791 : True := trivial
theorem MP.whole.tw1360997912282859692 : True := trivial
theorem MP.whole.tw6038055959593901794 : True := trivial
theorem MP.whole.tw11661785789870378504 : True := trivial
theorem MP.whole.tw9266809181514043037 : True := trivial
theorem MP.whole.tw3595034861294263293 : True := trivial
theorem MP.whole.tw10775813569607849305 : True := trivial
theorem MP.whole.tw4886345071490966516 : True := trivial
theorem MP.whole.tw10149798422269134646 : True := trivial
theorem MP.whole.tw15073441306425046799 : True := trivial
theorem MP.whole.tw1633646174563387934 : True := trivial
theorem MP.whole.tw4207869259613826461 : True := trivial
theorem MP.whole.tw11754478736651859321 : True := trivial
theorem MP.whole.tw10196344384077321007 : True := trivial
theorem MP.whole.tw18027535006251317534 : True := trivial
theorem MP.whole.tw4387844125363269850 : True := trivial
theorem MP.whole.tw9095246302229928319 : True := trivial
theorem MP.whole.tw210077916963051789 : True := trivial
theorem MP.whole.tw11580954230609273747 : True := trivial
theorem MP.whole.tw1385053184692205648 : True := trivial
theorem MP.whole.tw17871335023973137921 : True := trivial
theorem MP.whole.tw15885339858179862419 : True := trivial
theorem MP.whole.tw12456994776279509947 : True := trivial
theorem MP.whole.tw16943521326209646096 : True := trivial
theorem MP.whole.tw11892988650487920249 : True := trivial
theorem MP.whole.tw6093289069011434216 : True := trivial
theorem MP.whole.tw9429754798954896423 : True := trivial
theorem MP.whole.tw100874273006489034 : True := trivial
theorem MP.whole.tw6615510103776227857 : True := trivial
theorem MP.whole.tw15838876083912577294 : True := trivial
theorem MP.whole.tw13360995322548531635 : True := trivial
theorem MP.whole.tw17870516371003285571 : True := trivial
theorem MP.whole.tw4951125049983209927 : True := trivial
theorem MP.whole.tw4359419459999709247 : True := trivial
theorem MP.whole.tw2548838403000521382 : True := trivial
theorem MP.whole.tw18280280092699936561 : True := trivial
theorem MP.whole.tw4602247169121470968 : True := trivial
theorem MP.whole.tw3989883728580053302 : True := trivial
theorem MP.whole.tw8596287707416057273 : True := trivial
theorem MP.whole.tw10468146560526547841 : True := trivial
theorem MP.whole.tw17857308348872166551 : True := trivial
theorem MP.whole.tw17109538668256847569 : True := trivial
theorem MP.whole.tw13431132124988562847 : True := trivial
theorem MP.whole.tw17634335711937993649 : True := trivial
theorem MP.whole.tw11838758933074138862 : True := trivial
theorem MP.whole.tw9439075766726335059 : True := trivial
theorem MP.whole.tw15921969038936081846 : True := trivial
theorem MP.whole.tw9761435547533716795 : True := trivial
theorem MP.whole.tw6597098483207404208 : True := trivial
theorem MP.whole.tw6999518854865712040 : True := trivial
theorem MP.whole.tw10500478589417737765 : True := trivial
theorem MP.whole.tw7206423064296170819 : True := trivial
theorem MP.whole.tw7014019678472423596 : True := trivial
theorem MP.whole.tw730836134981973028 : True := trivial
theorem MP.whole.tw11688738048017922044 : True := trivial
theorem MP.whole.tw8023401063059814117 : True := trivial
theorem MP.whole.tw2479591111603319483 : True := trivial
theorem MP.whole.tw6241194518319618493 : True := trivial
theorem MP.whole.tw1518233558622591771 : True := trivial
theorem MP.whole.tw2732649793894733786 : True := trivial
theorem MP.whole.tw4108535887834191457 : True := trivial
theorem MP.whole.tw8507070384691743903 : True := trivial
theorem MP.whole.tw8545280044309886424 : True := trivial
theorem MP.whole.tw17051050753674984653 : True := trivial
theorem MP.whole.tw9775132352605721324 : True := trivial
theorem MP.whole.tw4195791541495768771 : True := trivial
theorem MP.whole.tw14488457695620515006 : True := trivial
theorem MP.whole.tw12899298690896034082 : True := trivial
theorem MP.whole.tw4420784026298501273 : True := trivial
theorem MP.whole.tw17885164013428339599 : True := trivial
theorem MP.whole.tw262598387084529371 : True := trivial
theorem MP.whole.tw1403095553516746196 : True := trivial
theorem MP.whole.tw13243331845386438257 : True := trivial
theorem MP.whole.tw15580494764442203506 : True := trivial
theorem MP.whole.tw14257542716404260859 : True := trivial
theorem MP.whole.tw8069063814193569524 : True := trivial
theorem MP.whole.tw8643610774876203032 : True := trivial
theorem MP.whole.tw16453537557661972632 : True := trivial
theorem MP.whole.tw7076260260835058286 : True := trivial
theorem MP.whole.tw6262943963471144030 : True := trivial
theorem MP.whole.tw17190433494037108853 : True := trivial
theorem MP.whole.tw7121246350568566 : True := trivial
theorem MP.whole.tw17505082164283854283 : True := trivial
theorem MP.whole.tw4129479263623233749 : True := trivial
theorem MP.whole.tw14912126529193317397 : True := trivial
theorem MP.whole.tw10164701422916640666 : True := trivial
theorem MP.whole.tw9893338113704469750 : True := trivial
theorem MP.whole.tw2940673317727757974 : True := trivial
theorem MP.whole.tw2569500176192568872 : True := trivial
theorem MP.whole.tw13736617010049676221 : True := trivial
theorem MP.whole.tw2179839737860561846 : True := trivial
theorem MP.whole.tw11860950160310254512 : True := trivial
theorem MP.whole.tw8819870542630791916 : True := trivial
theorem MP.whole.tw7838178176789425405 : True := trivial
theorem MP.whole.tw6912438041819810435 : True := trivial
theorem MP.whole.tw11366213974661094195 : True := trivial
theorem MP.whole.tw13881403361909018007 : True := trivial
theorem MP.whole.tw3113107849394438955 : True := trivial
theorem MP.whole.tw3664487331805154729 : True := trivial
theorem MP.whole.tw6768339423356798933 : True := trivial
theorem MP.whole.tw8712728196159949512 : True := trivial
theorem MP.whole.tw866662445945355810 : True := trivial
theorem MP.whole.tw282552903025547556 : True := trivial
theorem MP.whole.tw11839380154274159118 : True := trivial
theorem MP.whole.tw15811576567478203847 : True := trivial
theorem MP.whole.tw2165501128871309391 : True := trivial
theorem MP.whole.tw1472204857396396548 : True := trivial
theorem MP.whole.tw882109658586706225 : True := trivial
theorem MP.whole.tw1268259593986019756 : True := trivial
theorem MP.whole.tw10904206868816305142 : True := trivial
theorem MP.whole.tw16351463978682138810 : True := trivial
theorem MP.whole.tw2364367802934831998 : True := trivial
theorem MP.whole.tw9771710130038002055 : True := trivial
theorem MP.whole.tw10679686690252066875 : True := trivial
theorem MP.whole.tw6277018566354102131 : True := trivial
theorem MP.whole.tw14609469896769689703 : True := trivial
theorem MP.whole.tw16038876416214525218 : True := trivial
theorem MP.whole.tw416924223309098783 : True := trivial
theorem MP.whole.tw2242666700263382285 : True := trivial
theorem MP.whole.tw9045089639756947392 : True := trivial
theorem MP.whole.tw9342584823550549837 : True := trivial
theorem MP.whole.tw5932563111146491315 : True := trivial
theorem MP.whole.tw3873729647683719468 : True := trivial
theorem MP.whole.tw4448219478521783202 : True := trivial
theorem MP.whole.tw9478349542320188321 : True := trivial
theorem MP.whole.tw14140392966441884750 : True := trivial
theorem MP.whole.tw14639030628582159218 : True := trivial
theorem MP.whole.tw9802907670320347263 : True := trivial
theorem MP.whole.tw12367064295531467791 : True := trivial
theorem MP.whole.tw1238131093701384320 : True := trivial
theorem MP.whole.tw13315381540372122978 : True := trivial
theorem MP.whole.tw14674641698983902983 : True := trivial
theorem MP.whole.tw6864123413064674201 : True := trivial
theorem MP.whole.tw13563936401347325546 : True := trivial
theorem MP.whole.tw12693442580774316143 : True := trivial
theorem MP.whole.tw4926899278232336947 : True := trivial
theorem MP.whole.tw14913175184650640390 : True := trivial
theorem MP.whole.tw6119870277234665186 : True := trivial
theorem MP.whole.tw9779408281047520070 : True := trivial
theorem MP.whole.tw13300927197681524472 : True := trivial
theorem MP.whole.tw16984998574669010434 : True := trivial
theorem MP.whole.tw24745948233286731 : True := trivial
theorem MP.whole.tw12749807960614800728 : True := trivial
theorem MP.whole.tw17024941473641613701 : True := trivial
theorem MP.whole.tw10367877892361123402 : True := trivial
theorem MP.whole.tw18061286060578504602 : True := trivial
theorem MP.whole.tw15006370420774144620 : True := trivial
theorem MP.whole.tw11295436792713968594 : True := trivial
theorem MP.whole.tw12901847047908420727 : True := trivial
theorem MP.whole.tw14696751187743003349 : True := trivial
theorem MP.whole.tw6122707247507118987 : True := trivial
theorem MP.whole.tw537649161087087360 : True := trivial
theorem MP.whole.tw6978131314692395375 : True := trivial
theorem MP.whole.tw1134618147935148685 : True := trivial
theorem MP.whole.tw3040030039349454488 : True := trivial
theorem MP.whole.tw4261295174875720418 : True := trivial
theorem MP.whole.tw10410879787795056400 : True := trivial
theorem MP.whole.tw5726070181727060219 : True := trivial
theorem MP.whole.tw6390745294528853136 : True := trivial
theorem MP.whole.tw12293711875997208986 : True := trivial
theorem MP.whole.tw17970601416503601936 : True := trivial
theorem MP.whole.tw12249952628730286122 : True := trivial
theorem MP.whole.tw11131139017894626667 : True := trivial
theorem MP.whole.tw3406323889948957014 : True := trivial
theorem MP.whole.tw283800746570821906 : True := trivial
theorem MP.whole.tw8257527056892129424 : True := trivial
theorem MP.whole.tw7543696965891956079 : True := trivial
theorem MP.whole.tw3201377506433341316 : True := trivial
theorem MP.whole.tw18305489240268368982 : True := trivial
theorem MP.whole.tw15635542325385306640 : True := trivial
theorem MP.whole.tw1021458828437222458 : True := trivial
theorem MP.whole.tw1737141533691062943 : True := trivial
theorem MP.whole.tw14570540316704017727 : True := trivial
theorem MP.whole.tw10026327511292519448 : True := trivial
theorem MP.whole.tw15037222947875657868 : True := trivial
theorem MP.whole.tw6831736845677386144 : True := trivial
theorem MP.whole.tw11851284442456765241 : True := trivial
theorem MP.whole.tw5119228100487319160 : True := trivial
theorem MP.whole.tw3258698282225220291 : True := trivial
theorem MP.whole.tw15783095737028483363 : True := trivial
theorem MP.whole.tw11272360431115433378 : True := trivial
theorem MP.whole.tw5377815141324968687 : True := trivial
theorem MP.whole.tw18127677749588830648 : True := trivial
theorem MP.whole.tw9745383892156638093 : True := trivial
theorem MP.whole.tw16891756031085551370 : True := trivial
theorem MP.whole.tw1059416500053668109 : True := trivial
theorem MP.whole.tw1077394142803502447 : True := trivial
theorem MP.whole.tw11770256437834124435 : True := trivial
theorem MP.whole.tw14816288406120790079 : True := trivial
theorem MP.whole.tw6295705931727097255 : True := trivial
theorem MP.whole.tw13624143987387489506 : True := trivial
theorem MP.whole.tw13081713304376161005 : True := trivial
theorem MP.whole.tw5834521465228123778 : True := trivial
theorem MP.whole.tw8446410344521310637 : True := trivial
theorem MP.whole.tw14717857394897887129 : True := trivial
theorem MP.whole.tw966865955781532884 : True := trivial
theorem MP.whole.tw2063328090553996597 : True := trivial
theorem MP.whole.tw8666463346683896654 : True := trivial
theorem MP.whole.tw15107661342640901340 : True := trivial
theorem MP.whole.tw6149213671355141690 : True := trivial
theorem MP.whole.tw15793827592672132058 : True := trivial
theorem MP.whole.tw10437397541836817876 : True := trivial
theorem MP.whole.tw8897313951475470765 : True := trivial
theorem MP.whole.tw2244844951368459115 : True := trivial
theorem MP.whole.tw10139866750323734441 : True := trivial
theorem MP.whole.tw5204236765933005085 : True := trivial
theorem MP.whole.tw6061230556355950757 : True := trivial
theorem MP.whole.tw3905063104899921719 : True := trivial
theorem MP.whole.tw1088294424547949088 : True := trivial
theorem MP.whole.tw4089356749981490956 : True := trivial
theorem MP.whole.tw15462600107603647132 : True := trivial
theorem MP.whole.tw8710938831698318580 : True := trivial
theorem MP.whole.tw8116170944613148255 : True := trivial
theorem MP.whole.tw11369238766716066785 : True := trivial
theorem MP.whole.tw17492543184564668967 : True := trivial
theorem MP.whole.tw69579177952598707 : True := trivial
theorem MP.whole.tw8294443872277221760 : True := trivial
theorem MP.whole.tw7845801273442411297 : True := trivial
theorem MP.whole.tw15174847658020754464 : True := trivial
theorem MP.whole.tw14260099777979290529 : True := trivial
theorem MP.whole.tw11127684664239452459 : True := trivial
theorem MP.whole.tw1014257516988483941 : True := trivial
theorem MP.whole.tw16980068157574671840 : True := trivial
theorem MP.whole.tw7946544368856036735 : True := trivial
theorem MP.whole.tw3846615659391949974 : True := trivial
theorem MP.whole.tw5789451819199143789 : True := trivial
theorem MP.whole.tw9283296251993623018 : True := trivial
theorem MP.whole.tw4447670460276656666 : True := trivial
theorem MP.whole.tw12419042221605260545 : True := trivial
theorem MP.whole.tw15603749961723448101 : True := trivial
theorem MP.whole.tw10578742326921015726 : True := trivial
theorem MP.whole.tw16387737324213061444 : True := trivial
theorem MP.whole.tw13772031043101785759 : True := trivial
theorem MP.whole.tw11701599865356891967 : True := trivial
theorem MP.whole.tw3906111830154891191 : True := trivial
theorem MP.whole.tw2710612418043816393 : True := trivial
theorem MP.whole.tw2764261138198120079 : True := trivial
theorem MP.whole.tw4026162347487518915 : True := trivial
theorem MP.whole.tw7629973761440222373 : True := trivial
theorem MP.whole.tw17379226930871255744 : True := trivial
theorem MP.whole.tw17014370455804259096 : True := trivial
theorem MP.whole.tw17440463544606546173 : True := trivial
theorem MP.whole.tw11392712122228431095 : True := trivial
theorem MP.whole.tw246874795302524818 : True := trivial
theorem MP.whole.tw12526705723494169032 : True := trivial
theorem MP.whole.tw13331921463534961009 : True := trivial
theorem MP.whole.tw11836807683461266559 : True := trivial
theorem MP.whole.tw5094403910630414448 : True := trivial
theorem MP.whole.tw16350423834730642510 : True := trivial
theorem MP.whole.tw9598787166059583489 : True := trivial
theorem MP.whole.tw18050383441886796951 : True := trivial
theorem MP.whole.tw8932536509958305497 : True := trivial
theorem MP.whole.tw5498418387781166214 : True := trivial
theorem MP.whole.tw8888685585918584938 : True := trivial
theorem MP.whole.tw59580408587836482 : True := trivial
theorem MP.whole.tw3326340702713616093 : True := trivial
theorem MP.whole.tw17248538820747367689 : True := trivial
theorem MP.whole.tw14364121023391649478 : True := trivial
theorem MP.whole.tw8883809070380239559 : True := trivial
theorem MP.whole.tw15578716493365352680 : True := trivial
theorem MP.whole.tw2687814709035156651 : True := trivial
theorem MP.whole.tw17779125865137580003 : True := trivial
theorem MP.whole.tw12627722327297378147 : True := trivial
theorem MP.whole.tw17512621011150562457 : True := trivial
theorem MP.whole.tw14290659787764236301 : True := trivial
theorem MP.whole.tw10715730790747282378 : True := trivial
theorem MP.whole.tw4172860782841694178 : True := trivial
theorem MP.whole.tw3895459910022571887 : True := trivial
theorem MP.whole.tw16524744971960510456 : True := trivial
theorem MP.whole.tw15032297636327985053 : True := trivial
theorem MP.whole.tw9211355348580777155 : True := trivial
theorem MP.whole.tw15903174344737870044 : True := trivial
theorem MP.whole.tw9256130121130987874 : True := trivial
theorem MP.whole.tw6479253586119296863 : True := trivial
theorem MP.whole.tw14949014592268875531 : True := trivial
theorem MP.whole.tw274002627286569506 : True := trivial
theorem MP.whole.tw8391195663223511305 : True := trivial
theorem MP.whole.tw1114529334029488106 : True := trivial
theorem MP.whole.tw13439392482706006833 : True := trivial
theorem MP.whole.tw6172855627539151938 : True := trivial
theorem MP.whole.tw16100423912675825076 : True := trivial
theorem MP.whole.tw12268776276178349056 : True := trivial
theorem MP.whole.tw5353650001130756754 : True := trivial
theorem MP.whole.tw8352633516243658120 : True := trivial
theorem MP.whole.tw5192549257538854393 : True := trivial
theorem MP.whole.tw6245828097099833589 : True := trivial
theorem MP.whole.tw2854035070447711041 : True := trivial
theorem MP.whole.tw14689417958596029786 : True := trivial
theorem MP.whole.tw12446382588149266253 : True := trivial
theorem MP.whole.tw6378340237370235204 : True := trivial
theorem MP.whole.tw9159446170914273937 : True := trivial
theorem MP.whole.tw4044842074024772564 : True := trivial
theorem MP.whole.tw2797528823634428501 : True := trivial
theorem MP.whole.tw8248817727805769104 : True := trivial
theorem MP.whole.tw17056877570469996491 : True := trivial
theorem MP.whole.tw3056407155880376314 : True := trivial
theorem MP.whole.tw6719776382308543190 : True := trivial
theorem MP.whole.tw10888757566994568482 : True := trivial
theorem MP.whole.tw8354567293141202275 : True := trivial
theorem MP.whole.tw3514897923990496382 : True := trivial
theorem MP.whole.tw17051533579205307213 : True := trivial
theorem MP.whole.tw701658895346505823 : True := trivial
theorem MP.whole.tw3320566229878870399 : True := trivial
theorem MP.whole.tw6357911059381364369 : True := trivial
theorem MP.whole.tw16862451670214688375 : True := trivial
theorem MP.whole.tw17753603620678653331 : True := trivial
theorem MP.whole.tw6852373358338490559 : True := trivial
theorem MP.whole.tw1826179867051157521 : True := trivial
theorem MP.whole.tw2252180981993552698 : True := trivial
theorem MP.whole.tw15153043117147143395 : True := trivial
theorem MP.whole.tw12130369216174434146 : True := trivial
theorem MP.whole.tw5027061180008114217 : True := trivial
theorem MP.whole.tw6002211833766105328 : True := trivial
theorem MP.whole.tw239349732626457162 : True := trivial
theorem MP.whole.tw13360671708911622789 : True := trivial
theorem MP.whole.tw11205617672539014710 : True := trivial
theorem MP.whole.tw4539525725025614521 : True := trivial
theorem MP.whole.tw18138467013686245424 : True := trivial
theorem MP.whole.tw12239281326335936067 : True := trivial
theorem MP.whole.tw2074474742383119881 : True := trivial
theorem MP.whole.tw9674171378893159163 : True := trivial
theorem MP.whole.tw4802868199624975209 : True := trivial
theorem MP.whole.tw8604919353540967792 : True := trivial
theorem MP.whole.tw933660512276110581 : True := trivial
theorem MP.whole.tw7488230962559622467 : True := trivial
theorem MP.whole.tw1124438385221795907 : True := trivial
theorem MP.whole.tw8598805851070397642 : True := trivial
theorem MP.whole.tw13182527076455574913 : True := trivial
theorem MP.whole.tw9899786779193977576 : True := trivial
theorem MP.whole.tw762864591098114323 : True := trivial
theorem MP.whole.tw7861793755519602968 : True := trivial
theorem MP.whole.tw2483470593019472555 : True := trivial
theorem MP.whole.tw14522706548217642447 : True := trivial
theorem MP.whole.tw13670063368934647283 : True := trivial
theorem MP.whole.tw5191341529944076385 : True := trivial
theorem MP.whole.tw11606073670960365847 : True := trivial
theorem MP.whole.tw14723095522331959650 : True := trivial
theorem MP.whole.tw10136006390539358181 : True := trivial
theorem MP.whole.tw11230743517326220246 : True := trivial
theorem MP.whole.tw7067144941349985256 : True := trivial
theorem MP.whole.tw13918986262427367322 : True := trivial
theorem MP.whole.tw5529841201861726245 : True := trivial
theorem MP.whole.tw4923694010237287044 : True := trivial
theorem MP.whole.tw5704828286932305025 : True := trivial
theorem MP.whole.tw7662075667445942996 : True := trivial
theorem MP.whole.tw7370266084198635363 : True := trivial
theorem MP.whole.tw10316780419739668886 : True := trivial
theorem MP.whole.tw4267893065977734962 : True := trivial
theorem MP.whole.tw13945603622188503177 : True := trivial
theorem MP.whole.tw1033306038098355994 : True := trivial
theorem MP.whole.tw10155804781277149544 : True := trivial
theorem MP.whole.tw1716359512102610189 : True := trivial
theorem MP.whole.tw16265676149585654183 : True := trivial
theorem MP.whole.tw15256907919201820052 : True := trivial
theorem MP.whole.tw13748110044990413774 : True := trivial
theorem MP.whole.tw6692549244875652957 : True := trivial
theorem MP.whole.tw17523880798112600411 : True := trivial
theorem MP.whole.tw9859922400205251671 : True := trivial
theorem MP.whole.tw3856444032860957652 : True := trivial
theorem MP.whole.tw3572781506012012067 : True := trivial
theorem MP.whole.tw7412021459631973464 : True := trivial
theorem MP.whole.tw13466312381603912889 : True := trivial
theorem MP.whole.tw17206871657064980487 : True := trivial
theorem MP.whole.tw4610095285912782515 : True := trivial
theorem MP.whole.tw16701449462541050402 : True := trivial
theorem MP.whole.tw16324247830594213446 : True := trivial
theorem MP.whole.tw5291366057037632450 : True := trivial
theorem MP.whole.tw13387840489828389557 : True := trivial
theorem MP.whole.tw9036812502628978168 : True := trivial
theorem MP.whole.tw412565365456929076 : True := trivial
theorem MP.whole.tw7049923985300151963 : True := trivial
theorem MP.whole.tw9311916111225766609 : True := trivial
theorem MP.whole.tw11504124707927178758 : True := trivial
theorem MP.whole.tw2456310330539236759 : True := trivial
theorem MP.whole.tw5780886637716907618 : True := trivial
theorem MP.whole.tw6555362662841376376 : True := trivial
theorem MP.whole.tw13060238820781095113 : True := trivial
theorem MP.whole.tw15217128738630543312 : True := trivial
theorem MP.whole.tw11087120342421805542 : True := trivial
theorem MP.whole.tw2847430611412322379 : True := trivial
theorem MP.whole.tw16372520872061807101 : True := trivial
theorem MP.whole.tw13190694504033469276 : True := trivial
theorem MP.whole.tw12966759270213811127 : True := trivial
theorem MP.whole.tw4775529078281481016 : True := trivial
theorem MP.whole.tw16853975107050274302 : True := trivial
theorem MP.whole.tw6225821670934493337 : True := trivial
theorem MP.whole.tw11784679345078051912 : True := trivial
theorem MP.whole.tw2490120052689019444 : True := trivial
theorem MP.whole.tw15502854565935298183 : True := trivial
theorem MP.whole.tw330889558400724892 : True := trivial
theorem MP.whole.tw14952342933300113524 : True := trivial
theorem MP.whole.tw16501078349610305179 : True := trivial
theorem MP.whole.tw8666266038762911400 : True := trivial
theorem MP.whole.tw11515103096100370739 : True := trivial
theorem MP.whole.tw7339528923026100628 : True := trivial
theorem MP.whole.tw18158719498973428734 : True := trivial
theorem MP.whole.tw551553939825552336 : True := trivial
theorem MP.whole.tw9378671036444491188 : True := trivial
theorem MP.whole.tw4026530399035151658 : True := trivial
theorem MP.whole.tw2903419488097106071 : True := trivial
theorem MP.whole.tw9955972387280114901 : True := trivial
theorem MP.whole.tw10730521669927180262 : True := trivial
theorem MP.whole.tw7121600863024754974 : True := trivial
theorem MP.whole.tw7698736871275262683 : True := trivial
theorem MP.whole.tw18409587984731484554 : True := trivial
theorem MP.whole.tw14601349892595425809 : True := trivial
theorem MP.whole.tw5775066186124413193 : True := trivial
theorem MP.whole.tw3050313157638565346 : True := trivial
theorem MP.whole.tw6194921048012117196 : True := trivial
theorem MP.whole.tw18347330114582018161 : True := trivial
theorem MP.whole.tw14499191812270313968 : True := trivial
theorem MP.whole.tw1096553873374058553 : True := trivial
theorem MP.whole.tw7835753324458295230 : True := trivial
theorem MP.whole.tw1258339720357918022 : True := trivial
theorem MP.whole.tw7654736311733865990 : True := trivial
theorem MP.whole.tw12419815106124945084 : True := trivial
theorem MP.whole.tw8883304082727963717 : True := trivial
theorem MP.whole.tw8473231799035715336 : True := trivial
theorem MP.whole.tw15331905247248505655 : True := trivial
theorem MP.whole.tw4865723655064773391 : True := trivial
theorem MP.whole.tw1379542136162688857 : True := trivial
theorem MP.whole.tw7739660165227270908 : True := trivial
theorem MP.whole.tw9262895383036294185 : True := trivial
theorem MP.whole.tw15517722967838015759 : True := trivial
theorem MP.whole.tw13669288529829541142 : True := trivial
theorem MP.whole.tw7849576247447202983 : True := trivial
theorem MP.whole.tw3219718452442609805 : True := trivial
theorem MP.whole.tw10608807211328906189 : True := trivial
theorem MP.whole.tw14278214191747070609 : True := trivial
theorem MP.whole.tw2821039115427881023 : True := trivial
theorem MP.whole.tw4426383103181558775 : True := trivial
theorem MP.whole.tw8074518209718470194 : True := trivial
theorem MP.whole.tw9081162070876734849 : True := trivial
theorem MP.whole.tw944903812097186073 : True := trivial
theorem MP.whole.tw10787368879338117923 : True := trivial
theorem MP.whole.tw17638703444134116285 : True := trivial
theorem MP.whole.tw17606522200150632866 : True := trivial
theorem MP.whole.tw489705536577068129 : True := trivial
theorem MP.whole.tw2161925809939611285 : True := trivial
theorem MP.whole.tw7534062359868931530 : True := trivial
theorem MP.whole.tw4501353065983993701 : True := trivial
theorem MP.whole.tw9832683722665589271 : True := trivial
theorem MP.whole.tw10436861876314247346 : True := trivial
theorem MP.whole.tw4918949981731421868 : True := trivial
theorem MP.whole.tw5427442930632312678 : True := trivial
theorem MP.whole.tw11516564639674243091 : True := trivial
theorem MP.whole.tw12224641202527915042 : True := trivial
theorem MP.whole.tw12127870979380725428 : True := trivial
theorem MP.whole.tw1271440862833273293 : True := trivial
theorem MP.whole.tw5421858541736484686 : True := trivial
theorem MP.whole.tw16933758732597157555 : True := trivial
theorem MP.whole.tw13800220033915501589 : True := trivial
theorem MP.whole.tw3281753052280834534 : True := trivial
theorem MP.whole.tw13739798908496557252 : True := trivial
theorem MP.whole.tw11218606221257449980 : True := trivial
theorem MP.whole.tw16524885534699477933 : True := trivial
theorem MP.whole.tw18098796947066647423 : True := trivial
theorem MP.whole.tw8560150977288514739 : True := trivial
theorem MP.whole.tw17877457270742503888 : True := trivial
theorem MP.whole.tw7686155053927692519 : True := trivial
theorem MP.whole.tw17543692718118968508 : True := trivial
theorem MP.whole.tw16391323225649457891 : True := trivial
theorem MP.whole.tw10197365465062337340 : True := trivial
theorem MP.whole.tw7396813501205984095 : True := trivial
theorem MP.whole.tw13237282062760116008 : True := trivial
theorem MP.whole.tw617865382575495038 : True := trivial
theorem MP.whole.tw11135958470435261283 : True := trivial
theorem MP.whole.tw12696506351951492351 : True := trivial
theorem MP.whole.tw14494260925935059171 : True := trivial
theorem MP.whole.tw14915878619516355232 : True := trivial
theorem MP.whole.tw14630910277276594295 : True := trivial
theorem MP.whole.tw4428541016214262855 : True := trivial
theorem MP.whole.tw1058074241764537386 : True := trivial
theorem MP.whole.tw11067311904187049499 : True := trivial
theorem MP.whole.tw15673705597066300626 : True := trivial
theorem MP.whole.tw14024872751880614527 : True := trivial
theorem MP.whole.tw7670895389082915032 : True := trivial
theorem MP.whole.tw1394762798098521677 : True := trivial
theorem MP.whole.tw7506000009230385897 : True := trivial
theorem MP.whole.tw9550119299872896225 : True := trivial
theorem MP.whole.tw8704490174771146958 : True := trivial
theorem MP.whole.tw1346683535329822626 : True := trivial
theorem MP.whole.tw8232217128142409780 : True := trivial
theorem MP.whole.tw10062213512985976250 : True := trivial
theorem MP.whole.tw6959788449748837470 : True := trivial
theorem MP.whole.tw6173151653382077054 : True := trivial
theorem MP.whole.tw10540994830868950421 : True := trivial
theorem MP.whole.tw15770612699467687015 : True := trivial
theorem MP.whole.tw6844657536108330527 : True := trivial
theorem MP.whole.tw8915785561739348076 : True := trivial
theorem MP.whole.tw13817104550917891392 : True := trivial
theorem MP.whole.tw14661054994896030650 : True := trivial
theorem MP.whole.tw13506302209953791339 : True := trivial
theorem MP.whole.tw4918961498734219054 : True := trivial
theorem MP.whole.tw5639965823197776856 : True := trivial
theorem MP.whole.tw10632819044967617134 : True := trivial
theorem MP.whole.tw5724950696436897765 : True := trivial
theorem MP.whole.tw5217649196009907349 : True := trivial
theorem MP.whole.tw14750908233178329264 : True := trivial
theorem MP.whole.tw4624872650141986274 : True := trivial
theorem MP.whole.tw14305143319226141593 : True := trivial
theorem MP.whole.tw17424478839877098211 : True := trivial
theorem MP.whole.tw13697486473785639841 : True := trivial
theorem MP.whole.tw10121377161835686316 : True := trivial
theorem MP.whole.tw6727808831136303292 : True := trivial
theorem MP.whole.tw1962596969435379568 : True := trivial
theorem MP.whole.tw11760526429363170737 : True := trivial
theorem MP.whole.tw14734239008814398934 : True := trivial
theorem MP.whole.tw10717065099146700082 : True := trivial
theorem MP.whole.tw3869751077358388753 : True := trivial
theorem MP.whole.tw5497473200097017327 : True := trivial
theorem MP.whole.tw17454223582377205346 : True := trivial
theorem MP.whole.tw15102994231935478523 : True := trivial
theorem MP.whole.tw8389989213603745863 : True := trivial
theorem MP.whole.tw15816004500566925825 : True := trivial
theorem MP.whole.tw16402452722222435313 : True := trivial
theorem MP.whole.tw10789622535286032697 : True := trivial
theorem MP.whole.tw4938687530881592902 : True := trivial
theorem MP.whole.tw9254563399798081222 : True := trivial
theorem MP.whole.tw1199649315051957421 : True := trivial
theorem MP.whole.tw8167142331431546910 : True := trivial
theorem MP.whole.tw5371291945766603130 : True := trivial
theorem MP.whole.tw745783253404374660 : True := trivial
theorem MP.whole.tw12939002289586669696 : True := trivial
theorem MP.whole.tw5383892074499476170 : True := trivial
theorem MP.whole.tw15205623602074881057 : True := trivial
theorem MP.whole.tw9146916493480370621 : True := trivial
theorem MP.whole.tw15158237536499078330 : True := trivial
theorem MP.whole.tw4068246227322642317 : True := trivial
theorem MP.whole.tw6742885887784769336 : True := trivial
theorem MP.whole.tw17256154683780615258 : True := trivial
theorem MP.whole.tw5211484579207417350 : True := trivial
theorem MP.whole.tw8186416732526952258 : True := trivial
theorem MP.whole.tw8136025322671364015 : True := trivial
theorem MP.whole.tw1488235511063747712 : True := trivial
theorem MP.whole.tw18391980991622649749 : True := trivial
theorem MP.whole.tw8117178354029995520 : True := trivial
theorem MP.whole.tw16908566989216811714 : True := trivial
theorem MP.whole.tw18434240720315052848 : True := trivial
theorem MP.whole.tw9556438995163216398 : True := trivial
theorem MP.whole.tw7400935726590705628 : True := trivial
theorem MP.whole.tw16211425922563020432 : True := trivial
theorem MP.whole.tw9933542773194459387 : True := trivial
theorem MP.whole.tw8304705536514645034 : True := trivial
theorem MP.whole.tw14998356775502463716 : True := trivial
theorem MP.whole.tw12487603006982396172 : True := trivial
theorem MP.whole.tw17981603609529422124 : True := trivial
theorem MP.whole.tw16357950044083447368 : True := trivial
theorem MP.whole.tw513589106807206758 : True := trivial
theorem MP.whole.tw7038547243582872279 : True := trivial
theorem MP.whole.tw8468860561323590274 : True := trivial
theorem MP.whole.tw6545738647378860469 : True := trivial
theorem MP.whole.tw2106697822509723433 : True := trivial
theorem MP.whole.tw8868264492359988864 : True := trivial
theorem MP.whole.tw1813039608927049270 : True := trivial
theorem MP.whole.tw16472792552412695786 : True := trivial
theorem MP.whole.tw8624715171973094907 : True := trivial
theorem MP.whole.tw4311763148414175236 : True := trivial
theorem MP.whole.tw3941062587425825168 : True := trivial
theorem MP.whole.tw17382561333692172764 : True := trivial
theorem MP.whole.tw15339452961966826918 : True := trivial
theorem MP.whole.tw644137320983503246 : True := trivial
theorem MP.whole.tw15907029519720989095 : True := trivial
theorem MP.whole.tw6373714969737148737 : True := trivial
theorem MP.whole.tw2107031350822301166 : True := trivial
theorem MP.whole.tw8721711528511044376 : True := trivial
theorem MP.whole.tw18244505636783064375 : True := trivial
theorem MP.whole.tw5475608391532142224 : True := trivial
theorem MP.whole.tw8434462879479715285 : True := trivial
theorem MP.whole.tw11384752974074596510 : True := trivial
theorem MP.whole.tw9496974257285458097 : True := trivial
theorem MP.whole.tw4184657329161063113 : True := trivial
theorem MP.whole.tw15815225344243589660 : True := trivial
theorem MP.whole.tw6896942394572739409 : True := trivial
theorem MP.whole.tw4509722928127218809 : True := trivial
theorem MP.whole.tw169108059856016516 : True := trivial
theorem MP.whole.tw8270157203148981263 : True := trivial
theorem MP.whole.tw8091605093954784094 : True := trivial
theorem MP.whole.tw1327498006284892281 : True := trivial
theorem MP.whole.tw13508525588785354556 : True := trivial
theorem MP.whole.tw4949093134871837705 : True := trivial
theorem MP.whole.tw6350764063962138437 : True := trivial
theorem MP.whole.tw18187966720588493263 : True := trivial
theorem MP.whole.tw2052048693115794393 : True := trivial
theorem MP.whole.tw11369613879791487867 : True := trivial
theorem MP.whole.tw15929491797275849835 : True := trivial
theorem MP.whole.tw10097961521042822879 : True := trivial
theorem MP.whole.tw14260413102602555817 : True := trivial
theorem MP.whole.tw3444144805405759795 : True := trivial
theorem MP.whole.tw3930631524604169772 : True := trivial
theorem MP.whole.tw4874525553328090975 : True := trivial
theorem MP.whole.tw5729056497303523640 : True := trivial
theorem MP.whole.tw11373285297803751963 : True := trivial
theorem MP.whole.tw4979336573424115136 : True := trivial
theorem MP.whole.tw6066108129204666165 : True := trivial
theorem MP.whole.tw1268986345317801627 : True := trivial
theorem MP.whole.tw3382340685868638559 : True := trivial
theorem MP.whole.tw9254199226820092773 : True := trivial
theorem MP.whole.tw7078880217497753854 : True := trivial
theorem MP.whole.tw8887412419399157952 : True := trivial
theorem MP.whole.tw16965203124569902160 : True := trivial
theorem MP.whole.tw11423391280384981812 : True := trivial
theorem MP.whole.tw17225033280046974958 : True := trivial
theorem MP.whole.tw8933628092621944510 : True := trivial
theorem MP.whole.tw137570679139596689 : True := trivial
theorem MP.whole.tw18077919358213743220 : True := trivial
theorem MP.whole.tw739858012407030826 : True := trivial
theorem MP.whole.tw10590834467231344085 : True := trivial
theorem MP.whole.tw3193523783555556450 : True := trivial
theorem MP.whole.tw16727024113890704479 : True := trivial
theorem MP.whole.tw7844045273991600552 : True := trivial
theorem MP.whole.tw7682240591361928177 : True := trivial
theorem MP.whole.tw3670726659886282070 : True := trivial
theorem MP.whole.tw14749638314029418532 : True := trivial
theorem MP.whole.tw16396168851686822261 : True := trivial
theorem MP.whole.tw3066278622282427947 : True := trivial
theorem MP.whole.tw18251518110712463214 : True := trivial
theorem MP.whole.tw16101039042853385948 : True := trivial
theorem MP.whole.tw16956107320671259687 : True := trivial
theorem MP.whole.tw8559352689092242403 : True := trivial
theorem MP.whole.tw15516469635851234095 : True := trivial
theorem MP.whole.tw4036036337973411293 : True := trivial
theorem MP.whole.tw9531797365653613742 : True := trivial
theorem MP.whole.tw16802887506295491202 : True := trivial
theorem MP.whole.tw5725465611435216378 : True := trivial
theorem MP.whole.tw15305655815742757684 : True := trivial
theorem MP.whole.tw16227140396679044952 : True := trivial
theorem MP.whole.tw1420934495730981486 : True := trivial
theorem MP.whole.tw16539556501945515222 : True := trivial
theorem MP.whole.tw16107962524879666580 : True := trivial
theorem MP.whole.tw3429368325464728903 : True := trivial
theorem MP.whole.tw941401216712864297 : True := trivial
theorem MP.whole.tw17811627233884978400 : True := trivial
theorem MP.whole.tw2968392000997548023 : True := trivial
theorem MP.whole.tw9026303332920900425 : True := trivial
theorem MP.whole.tw4683718942782962923 : True := trivial
theorem MP.whole.tw6286239622297086162 : True := trivial
theorem MP.whole.tw4928426240423714477 : True := trivial
theorem MP.whole.tw15179379936816860590 : True := trivial
theorem MP.whole.tw15582936081055298747 : True := trivial
theorem MP.whole.tw15650280425247468195 : True := trivial
theorem MP.whole.tw4806858311247501482 : True := trivial
theorem MP.whole.tw16869332183378918513 : True := trivial
theorem MP.whole.tw10718956801304598968 : True := trivial
theorem MP.whole.tw3506549860032863437 : True := trivial
theorem MP.whole.tw7096590522614534285 : True := trivial
theorem MP.whole.tw15899361447249876291 : True := trivial
theorem MP.whole.tw2809569608152852569 : True := trivial
theorem MP.whole.tw4930574793014884541 : True := trivial
theorem MP.whole.tw14112279448427401161 : True := trivial
theorem MP.whole.tw9259412361252550892 : True := trivial
theorem MP.whole.tw5957743290148033095 : True := trivial
theorem MP.whole.tw10988402347488876786 : True := trivial
theorem MP.whole.tw1985662536847222141 : True := trivial
theorem MP.whole.tw18075288309313888774 : True := trivial
theorem MP.whole.tw3645431884193629959 : True := trivial
theorem MP.whole.tw774424767959002662 : True := trivial
theorem MP.whole.tw13403319738742948699 : True := trivial
theorem MP.whole.tw18059119242199965263 : True := trivial
theorem MP.whole.tw2961595070798079227 : True := trivial
theorem MP.whole.tw344832967357864725 : True := trivial
theorem MP.whole.tw1660403679364332815 : True := trivial
theorem MP.whole.tw516716592459428009 : True := trivial
theorem MP.whole.tw617478944199277770 : True := trivial
theorem MP.whole.tw17834951897796209378 : True := trivial
theorem MP.whole.tw8189554375156952098 : True := trivial
theorem MP.whole.tw396519461463301144 : True := trivial
theorem MP.whole.tw6308959069904357092 : True := trivial
theorem MP.whole.tw15041185404206290827 : True := trivial
theorem MP.whole.tw1375732204423677993 : True := trivial
theorem MP.whole.tw12917149648757750113 : True := trivial
theorem MP.whole.tw7186954751788073942 : True := trivial
theorem MP.whole.tw18148517361371173513 : True := trivial
theorem MP.whole.tw5430382879114159410 : True := trivial
theorem MP.whole.tw14196918487854523891 : True := trivial
theorem MP.whole.tw3472036301274911476 : True := trivial
theorem MP.whole.tw11729478533527643100 : True := trivial
theorem MP.whole.tw12872707452118415513 : True := trivial
theorem MP.whole.tw4632554591228982786 : True := trivial
theorem MP.whole.tw4302164609331052456 : True := trivial
theorem MP.whole.tw2443647770654456502 : True := trivial
theorem MP.whole.tw4358588838675741850 : True := trivial
theorem MP.whole.tw157974735062063736 : True := trivial
theorem MP.whole.tw7952738743420856527 : True := trivial
theorem MP.whole.tw14684958957409024231 : True := trivial
theorem MP.whole.tw18363785839744358444 : True := trivial
theorem MP.whole.tw9788566524920380688 : True := trivial
theorem MP.whole.tw4270536760853642978 : True := trivial
theorem MP.whole.tw3545880694823317306 : True := trivial
theorem MP.whole.tw3981517800020352653 : True := trivial
theorem MP.whole.tw4939912212996765514 : True := trivial
theorem MP.whole.tw14461038344251278400 : True := trivial
theorem MP.whole.tw6682896340419142587 : True := trivial
theorem MP.whole.tw5801034833711820240 : True := trivial
theorem MP.whole.tw3102847909898857460 : True := trivial
theorem MP.whole.tw10648724822886599243 : True := trivial
theorem MP.whole.tw18077754675126812253 : True := trivial
theorem MP.whole.tw4337422169801217722 : True := trivial
theorem MP.whole.tw219096690266504547 : True := trivial
theorem MP.whole.tw11935630035745771922 : True := trivial
theorem MP.whole.tw6659077482984817150 : True := trivial
theorem MP.whole.tw13874575174243002598 : True := trivial
theorem MP.whole.tw3995195117579520007 : True := trivial
theorem MP.whole.tw5810635347850117628 : True := trivial
theorem MP.whole.tw7994817327402451921 : True := trivial
theorem MP.whole.tw13050527804839730776 : True := trivial
theorem MP.whole.tw14221066003942975451 : True := trivial
theorem MP.whole.tw11606543426082128290 : True := trivial
theorem MP.whole.tw13701658190912115485 : True := trivial
theorem MP.whole.tw16138761708906636303 : True := trivial
theorem MP.whole.tw13284927660817161738 : True := trivial
theorem MP.whole.tw11572809014621756983 : True := trivial
theorem MP.whole.tw3763236397452603861 : True := trivial
theorem MP.whole.tw15530447901289099533 : True := trivial
theorem MP.whole.tw18025356539746152602 : True := trivial
theorem MP.whole.tw3619249241157864313 : True := trivial
theorem MP.whole.tw11564580900613251469 : True := trivial
theorem MP.whole.tw7460177615792596723 : True := trivial
theorem MP.whole.tw26895047805245402 : True := trivial
theorem MP.whole.tw18049679724118889280 : True := trivial
theorem MP.whole.tw15315375812374870362 : True := trivial
theorem MP.whole.tw5488173781367762447 : True := trivial
theorem MP.whole.tw8320054790193573119 : True := trivial
theorem MP.whole.tw11075048917645632002 : True := trivial
theorem MP.whole.tw15693506308506572788 : True := trivial
theorem MP.whole.tw4042549389768607074 : True := trivial
theorem MP.whole.tw9056055631290123018 : True := trivial
theorem MP.whole.tw6693968122047481142 : True := trivial
theorem MP.whole.tw15658602634449774995 : True := trivial
theorem MP.whole.tw11140075565460494742 : True := trivial
theorem MP.whole.tw10790866828804642744 : True := trivial
theorem MP.whole.tw13142115217889057863 : True := trivial
theorem MP.whole.tw18198586329084502739 : True := trivial
theorem MP.whole.tw6732477505895843632 : True := trivial
theorem MP.whole.tw3247894503332081493 : True := trivial
theorem MP.whole.tw7462291670854095613 : True := trivial
theorem MP.whole.tw592145353473950948 : True := trivial
theorem MP.whole.tw8460511396581969895 : True := trivial
theorem MP.whole.tw3669619264751820945 : True := trivial
theorem MP.whole.tw14869902444879117856 : True := trivial
theorem MP.whole.tw13678986468875199615 : True := trivial
theorem MP.whole.tw11990680582376457973 : True := trivial
theorem MP.whole.tw9742420318796776252 : True := trivial
theorem MP.whole.tw8335407633611653142 : True := trivial
theorem MP.whole.tw3597801887901094199 : True := trivial
theorem MP.whole.tw5077810006952739428 : True := trivial
theorem MP.whole.tw9369865665962410232 : True := trivial
theorem MP.whole.tw8742935010507818104 : True := trivial
theorem MP.whole.tw961887491408057313 : True := trivial
theorem MP.whole.tw2522479971656549692 : True := trivial
theorem MP.whole.tw640037774594116992 : True := trivial
theorem MP.whole.tw10549059371901872351 : True := trivial
theorem MP.whole.tw14005809947477663806 : True := trivial
theorem MP.whole.tw13260195073965858645 : True := trivial
theorem MP.whole.tw13330783485787222260 : True := trivial
theorem MP.whole.tw15687855491617526471 : True := trivial
theorem MP.whole.tw8925486447652695264 : True := trivial
theorem MP.whole.tw7160022319357528402 : True := trivial
theorem MP.whole.tw8160635036870909892 : True := trivial
theorem MP.whole.tw14675993498629232141 : True := trivial
theorem MP.whole.tw3524206300144201001 : True := trivial
theorem MP.whole.tw18387247225501830840 : True := trivial
theorem MP.whole.tw17304192716225313906 : True := trivial
theorem MP.whole.tw10003090974591651684 : True := trivial
theorem MP.whole.tw15892934010429369075 : True := trivial
theorem MP.whole.tw12616359843595663488 : True := trivial
theorem MP.whole.tw12915738595795893953 : True := trivial
theorem MP.whole.tw9408252976440724441 : True := trivial
theorem MP.whole.tw6926919444975052649 : True := trivial
theorem MP.whole.tw16415081350138173006 : True := trivial
theorem MP.whole.tw3111911013829798496 : True := trivial
theorem MP.whole.tw9240502220215599233 : True := trivial
theorem MP.whole.tw5213526395334075641 : True := trivial
theorem MP.whole.tw15753210790757284952 : True := trivial
theorem MP.whole.tw9749497501988612028 : True := trivial
theorem MP.whole.tw5656811219333847253 : True := trivial
theorem MP.whole.tw14395924415146879660 : True := trivial
theorem MP.whole.tw2810871320960860202 : True := trivial
theorem MP.whole.tw8316235940176483469 : True := trivial
theorem MP.whole.tw14904081404657896922 : True := trivial
theorem MP.whole.tw16237179758811604136 : True := trivial
theorem MP.whole.tw2918271452300019573 : True := trivial
theorem MP.whole.tw2895351663566835954 : True := trivial
theorem MP.whole.tw2389917075174220977 : True := trivial
theorem MP.whole.tw14777415507328460323 : True := trivial
theorem MP.whole.tw12171484509957947391 : True := trivial
theorem MP.whole.tw3388427331092280258 : True := trivial
theorem MP.whole.tw3740480609071011336 : True := trivial
theorem MP.whole.tw9510026951540968635 : True := trivial
theorem MP.whole.tw17238489491474677793 : True := trivial
theorem MP.whole.tw6215864748379594011 : True := trivial
theorem MP.whole.tw3518167370796350762 : True := trivial
theorem MP.whole.tw15873147012536984972 : True := trivial
theorem MP.whole.tw17595539948261126650 : True := trivial
theorem MP.whole.tw5563146954606134823 : True := trivial
theorem MP.whole.tw14206156565451328266 : True := trivial
theorem MP.whole.tw6982381336405501840 : True := trivial
theorem MP.whole.tw16264315968304248332 : True := trivial
theorem MP.whole.tw11874593183904102952 : True := trivial
theorem MP.whole.tw10924344538715808845 : True := trivial
theorem MP.whole.tw5101067445412296593 : True := trivial
theorem MP.whole.tw15298360062578714199 : True := trivial
theorem MP.whole.tw7234622372444233621 : True := trivial
theorem MP.whole.tw12269985361911971040 : True := trivial
theorem MP.whole.tw9014737821849472083 : True := trivial
theorem MP.whole.tw5233131469080835280 : True := trivial
theorem MP.whole.tw10723930957429668114 : True := trivial
theorem MP.whole.tw3221729655806623695 : True := trivial
theorem MP.whole.tw7327076432060419762 : True := trivial
theorem MP.whole.tw8457713776873265231 : True := trivial
theorem MP.whole.tw13276680880042546332 : True := trivial
theorem MP.whole.tw15231371248072774453 : True := trivial
theorem MP.whole.tw14847834594342099763 : True := trivial
theorem MP.whole.tw13317999358732800799 : True := trivial
theorem MP.whole.tw13246051417141651280 : True := trivial
theorem MP.whole.tw3382907420970119740 : True := trivial
theorem MP.whole.tw12033152473689740927 : True := trivial
theorem MP.whole.tw4955431094080569176 : True := trivial
theorem MP.whole.tw7383129431886640568 : True := trivial
theorem MP.whole.tw16563636766185496969 : True := trivial
theorem MP.whole.tw916574656478871912 : True := trivial
theorem MP.whole.tw17045818943711452508 : True := trivial
theorem MP.whole.tw8366093527506371949 : True := trivial
theorem MP.whole.tw11599484877869228064 : True := trivial
theorem MP.whole.tw3982764435818277645 : True := trivial
theorem MP.whole.tw13196607207831331845 : True := trivial
theorem MP.whole.tw17465883766131711851 : True := trivial
theorem MP.whole.tw680480694409927110 : True := trivial
theorem MP.whole.tw14279852019905696370 : True := trivial
theorem MP.whole.tw15152747475650065254 : True := trivial
theorem MP.whole.tw2583825693770452519 : True := trivial
theorem MP.whole.tw5845624263389960279 : True := trivial
theorem MP.whole.tw2977406701040049413 : True := trivial
theorem MP.whole.tw5406763762690847204 : True := trivial
theorem MP.whole.tw17414001158740737393 : True := trivial
theorem MP.whole.tw3772832591762757666 : True := trivial
theorem MP.whole.tw4106893072513677661 : True := trivial
theorem MP.whole.tw6030632819682362580 : True := trivial
theorem MP.whole.tw3024654248628421614 : True := trivial
theorem MP.whole.tw5368027922659548460 : True := trivial
theorem MP.whole.tw10361374805759801967 : True := trivial
theorem MP.whole.tw9471606414599304660 : True := trivial
theorem MP.whole.tw9543766128438123712 : True := trivial
theorem MP.whole.tw12250972742799349713 : True := trivial
theorem MP.whole.tw3496433836905729407 : True := trivial
theorem MP.whole.tw8956742449203534782 : True := trivial
theorem MP.whole.tw12208059595830375301 : True := trivial
theorem MP.whole.tw13893105100957150550 : True := trivial
theorem MP.whole.tw10387393339196622709 : True := trivial
theorem MP.whole.tw1364212425921017465 : True := trivial
theorem MP.whole.tw8420137011113987575 : True := trivial
theorem MP.whole.tw12234248755271818161 : True := trivial
theorem MP.whole.tw3584054608543210541 : True := trivial
theorem MP.whole.tw6703930180215635301 : True := trivial
theorem MP.whole.tw12468871165087719977 : True := trivial
theorem MP.whole.tw10597122993359903143 : True := trivial
theorem MP.whole.tw9231479519757875725 : True := trivial
theorem MP.whole.tw8621528927897798814 : True := trivial
theorem MP.whole.tw3978778291215290901 : True := trivial
theorem MP.whole.tw14280795577071019241 : True := trivial
theorem MP.whole.tw14405408782020089284 : True := trivial
theorem MP.whole.tw13450422639646953252 : True := trivial
theorem MP.whole.tw6200406894621912352 : True := trivial
theorem MP.whole.tw3106080300601753083 : True := trivial
theorem MP.whole.tw660688076528564634 : True := trivial
theorem MP.whole.tw2588257514115907347 : True := trivial
theorem MP.whole.tw4925417955354132977 : True := trivial
theorem MP.whole.tw11093049206356289237 : True := trivial
theorem MP.whole.tw1319561660322321011 : True := trivial
theorem MP.whole.tw845730448816763285 : True := trivial
theorem MP.whole.tw7600889636088949779 : True := trivial
theorem MP.whole.tw2356639476888012744 : True := trivial
theorem MP.whole.tw6443956550856388795 : True := trivial
theorem MP.whole.tw14898199784610307657 : True := trivial
theorem MP.whole.tw2008805676680645789 : True := trivial
theorem MP.whole.tw1727708894898578400 : True := trivial
theorem MP.whole.tw9035020256211771015 : True := trivial
theorem MP.whole.tw13686983132405606751 : True := trivial
theorem MP.whole.tw14910617437770753205 : True := trivial
theorem MP.whole.tw17838654531797478104 : True := trivial
theorem MP.whole.tw724945106444225692 : True := trivial
theorem MP.whole.tw11584162592564362010 : True := trivial
theorem MP.whole.tw1910192376913287777 : True := trivial
theorem MP.whole.tw6633225434761394973 : True := trivial
theorem MP.whole.tw2273185430189504268 : True := trivial
theorem MP.whole.tw6843316544333663157 : True := trivial
theorem MP.whole.tw8928544116516950833 : True := trivial
theorem MP.whole.tw2735373205220856035 : True := trivial
theorem MP.whole.tw10783459486126147838 : True := trivial
theorem MP.whole.tw3693035561048344961 : True := trivial
theorem MP.whole.tw7417334264412295281 : True := trivial
theorem MP.whole.tw7594761945877848204 : True := trivial
theorem MP.whole.tw14217178824238727048 : True := trivial
theorem MP.whole.tw15743819551751980064 : True := trivial
theorem MP.whole.tw9361916553111846522 : True := trivial
theorem MP.whole.tw14763574288224315366 : True := trivial
set_option tactic.hygienic false
set_option backward.eqns.nonrecursive false
noncomputable section
set_option maxHeartbeats 4000000
namespace MP

inductive V where
  | none | bool (b : Bool) | int (i : Int) | str (s : Str) | tup (vs : List V) | ref (l : Nat)

noncomputable abbrev TK := Str × List Int × Int × Int

inductive AObj where
  | list (xs : List V)
  | dictS (kvs : List (Str × V))
  | dictI (kvs : List (Int × V))
  | dictT (kvs : List (TK × V))
  | inst (C : Addr) (fs : List (Str × V))
  | opq
  | frz (o : Obj) (xs : List V)
noncomputable abbrev Hp := List AObj

inductive Out (α : Type) where
  | ok (a : α) (H : Hp)
  | exc (H : Hp)
  | bad
noncomputable def Out.bind {α β : Type} (o : Out α) (k : α → Hp → Out β) : Out β := match o with
  | .ok a H => k a H
  | .exc H => .exc H
  | .bad => .bad
noncomputable abbrev Fm := List (Str × V)
noncomputable abbrev FE := Fm → Hp → Out V
inductive Fl where
  | next | ret (v : V) | cont | brk
inductive OutS where
  | ok (f : Fl) (m : Fm) (H : Hp)
  | exc (m : Fm) (H : Hp)
  | bad
noncomputable def Out.bindS {α : Type} (m : Fm) (o : Out α) (k : α → Hp → OutS) : OutS := match o with
  | .ok a H => k a H
  | .exc H => .exc m H
  | .bad => .bad
noncomputable def OutS.bind (o : OutS) (k : Fl → Fm → Hp → OutS) : OutS := match o with
  | .ok a m H => k a m H
  | .exc m H => .exc m H
  | .bad => .bad
noncomputable abbrev FS := Fm → Hp → OutS

noncomputable abbrev Rho := List (Addr × Addr)
noncomputable def muts (ρ : Rho) (b : Addr) : Prop := ∃ p ∈ ρ, b = p.1 ∨ b = p.2

mutual
inductive RepV (ρ : Rho) (h : Heap) : V → Value → Prop
  | none : RepV ρ h .none .none
  | bool (b) : RepV ρ h (.bool b) (.bool b)
  | int (i t) : RepV ρ h (.int i) (.int i t)
  | str (x t) : RepV ρ h (.str x) (.str x t)
  | tup {vs a o items n} : ¬ muts ρ a → h.get? a = some o → o.cls = .type "tuple" → o.data = .seq items n → RepVs ρ h vs items.toList → RepV ρ h (.tup vs) (.ref a)
  | ref {l a d} : ρ[l]? = some (a, d) → RepV ρ h (.ref l) (.ref a)
inductive RepVs (ρ : Rho) (h : Heap) : List V → List Value → Prop
  | nil : RepVs ρ h [] []
  | cons {v x vs xs} : RepV ρ h v x → RepVs ρ h vs xs → RepVs ρ h (v :: vs) (x :: xs)
end

noncomputable def inFr (l : List Env) (b : Addr) : Prop := ∃ env ∈ l, env.frame = some b

noncomputable def Keep (W X : Addr → Prop) (h h' : Heap) : Prop :=
  h.objs.size ≤ h'.objs.size ∧ ∀ b o, h.get? b = some o → ¬ W b → ∃ sl, h'.get? b = some { o with slots := sl } ∧ (¬ X b → sl = o.slots)

theorem Keep.refl (W X : Addr → Prop) (h : Heap) : Keep W X h h := ⟨Nat.le_refl _, fun _ o e _ => ⟨o.slots, e, fun _ => rfl⟩⟩
theorem Keep.exact {W X : Addr → Prop} {h h' : Heap} (k : Keep W X h h') {b : Addr} {o : Obj} (e : h.get? b = some o) (hw : ¬ W b) (hx : ¬ X b) : h'.get? b = some o := by
  obtain ⟨sl, e', q⟩ := k.2 b o e hw
  rw [q hx] at e'
  exact e'
theorem Keep.trans {W W' W'' X : Addr → Prop} {h₁ h₂ h₃ : Heap} (x : Keep W X h₁ h₂) (y : Keep W' X h₂ h₃) (hw : ∀ b, b < h₁.objs.size → W' b → W'' b) (hw' : ∀ b, W b → W'' b) : Keep W'' X h₁ h₃ := by
  refine ⟨Nat.le_trans x.1 y.1, fun b o e n => ?_⟩
  obtain ⟨sl, e1, q1⟩ := x.2 b o e (fun z => n (hw' b z))
  obtain ⟨sl2, e2, q2⟩ := y.2 b _ e1 (fun z => n (hw b (Heap.lt_size e) z))
  exact ⟨sl2, e2, fun z => (q2 z).trans (q1 z)⟩
theorem Keep.mono {W W' X : Addr → Prop} {h₁ h₂ : Heap} (x : Keep W X h₁ h₂) (hw : ∀ b, W b → W' b) : Keep W' X h₁ h₂ :=
  ⟨x.1, fun b o e n => x.2 b o e fun z => n (hw b z)⟩

noncomputable def NT (h : Heap) (b : Addr) : Prop := ∀ o, h.get? b = some o → o.cls = .type "tuple" → ∀ xs n, o.data = .seq xs n → False

theorem RepVs.ind {ρ : Rho} {h : Heap} {P : List V → List Value → Prop} (n : P [] []) (c : ∀ {v x vs xs}, RepV ρ h v x → RepVs ρ h vs xs → P vs xs → P (v :: vs) (x :: xs)) {vs xs} (r : RepVs ρ h vs xs) : P vs xs :=
  RepVs.rec (motive_1 := fun _ _ _ => True) (motive_2 := fun vs xs _ => P vs xs) trivial (fun _ => trivial) (fun _ _ => trivial) (fun _ _ => trivial) (fun _ _ _ _ _ _ => trivial) (fun _ => trivial) n (fun r rs _ ih => c r rs ih) r
theorem RepV.keep {ρ ρ' : Rho} {h h' : Heap} {W X : Addr → Prop} (k : Keep W X h h') (nt : ∀ b, W b → ¬ muts ρ b → NT h b) (pre : ∀ (l : Nat) (p : Addr × Addr), ρ[l]? = some p → ρ'[l]? = some p)
    (nm : ∀ b, b < h.objs.size → ¬ muts ρ b → ¬ muts ρ' b := by exact fun _ _ z => z) {v x} (r : RepV ρ h v x) : RepV ρ' h' v x := by
  refine RepV.rec (motive_1 := fun v x _ => RepV ρ' h' v x) (motive_2 := fun vs xs _ => RepVs ρ' h' vs xs) .none .bool .int .str ?_ (fun q => .ref (pre _ _ q)) .nil (fun _ _ r rs => .cons r rs) r
  intro _ _ _ _ _ m e c d _ ih
  obtain ⟨sl, e', _⟩ := k.2 _ _ e fun w => nt _ w m _ e c _ _ d
  exact .tup (nm _ (Heap.lt_size e) m) e' c d ih
theorem RepVs.keep {ρ ρ' : Rho} {h h' : Heap} {W X : Addr → Prop} (k : Keep W X h h') (nt : ∀ b, W b → ¬ muts ρ b → NT h b) (pre : ∀ (l : Nat) (p : Addr × Addr), ρ[l]? = some p → ρ'[l]? = some p)
    (nm : ∀ b, b < h.objs.size → ¬ muts ρ b → ¬ muts ρ' b := by exact fun _ _ z => z) {vs xs} (r : RepVs ρ h vs xs) : RepVs ρ' h' vs xs :=
  r.ind .nil fun r _ ih => .cons (r.keep k nt pre nm) ih
theorem RepVs.invN {ρ h xs} (r : RepVs ρ h [] xs) : xs = [] := by cases r; rfl
theorem RepVs.inv {ρ h v vs xs} (r : RepVs ρ h (v :: vs) xs) : ∃ y ys, xs = y :: ys ∧ RepV ρ h v y ∧ RepVs ρ h vs ys := by
  cases r with
  | cons a b => exact ⟨_, _, rfl, a, b⟩
theorem RepVs.length {ρ h vs xs} (r : RepVs ρ h vs xs) : vs.length = xs.length := r.ind (P := fun vs xs => vs.length = xs.length) rfl fun _ _ ih => congrArg (· + 1) ih
theorem RepVs.append {ρ h vs xs ws ys} (r : RepVs ρ h vs xs) (q : RepVs ρ h ws ys) : RepVs ρ h (vs ++ ws) (xs ++ ys) :=
  r.ind (P := fun vs xs => RepVs ρ h (vs ++ ws) (xs ++ ys)) q fun r _ ih => .cons r ih
theorem RepVs.get {ρ h} {vs : List V} {xs : List Value} (r : RepVs ρ h vs xs) : ∀ {i : Nat} {v : V}, vs[i]? = some v → ∃ x : Value, xs[i]? = some x ∧ RepV ρ h v x := by
  refine r.ind (P := fun vs xs => ∀ {i : Nat} {v : V}, vs[i]? = some v → ∃ x : Value, xs[i]? = some x ∧ RepV ρ h v x) (fun e => by cases e) ?_
  intro v x vs xs r rs ih i w e
  cases i with
  | zero => cases e; exact ⟨_, rfl, r⟩
  | succ i => exact ih (i := i) e
theorem RepVs.take {ρ h vs xs} (r : RepVs ρ h vs xs) : ∀ n, RepVs ρ h (vs.take n) (xs.take n) := by
  refine r.ind (P := fun vs xs => ∀ n, RepVs ρ h (vs.take n) (xs.take n)) (fun n => by cases n <;> exact .nil) fun r _ ih n => ?_
  cases n with
  | zero => exact .nil
  | succ n => exact .cons r (ih n)
theorem RepVs.drop {ρ h vs xs} (r : RepVs ρ h vs xs) : ∀ n, RepVs ρ h (vs.drop n) (xs.drop n) := by
  refine r.ind (P := fun vs xs => ∀ n, RepVs ρ h (vs.drop n) (xs.drop n)) (fun n => by cases n <;> exact .nil) fun r rs ih n => ?_
  cases n with
  | zero => exact .cons r rs
  | succ n => exact ih n
theorem RepVs.reverse {ρ h vs xs} (r : RepVs ρ h vs xs) : RepVs ρ h vs.reverse xs.reverse :=
  r.ind (P := fun vs xs => RepVs ρ h vs.reverse xs.reverse) .nil fun r _ ih => by rw [List.reverse_cons, List.reverse_cons]; exact ih.append (.cons r .nil)
theorem RepVs.set {ρ h vs xs} (r : RepVs ρ h vs xs) {v x} (q : RepV ρ h v x) : ∀ i, RepVs ρ h (vs.set i v) (xs.set i x) := by
  refine r.ind (P := fun vs xs => ∀ i, RepVs ρ h (vs.set i v) (xs.set i x)) (fun _ => .nil) fun r rs ih i => ?_
  cases i with
  | zero => exact .cons q rs
  | succ i => exact .cons r (ih i)
end MP
namespace MP
section
variable {prog : Program} {w : World} {A : Around} {E : Value → Shared → Prop} {s : Shared}

noncomputable def IsTK (prog : Program) (w : World) (h : Heap) (k : TK) (a : Addr) : Prop :=
  ∃ o items n t b t2 t3, h.get? a = some o ∧ o.cls = .type "tuple" ∧ o.data = .seq items n ∧ items.toList = [.str k.1 t, .ref b, .int k.2.2.1 t2, .int k.2.2.2 t3] ∧ IsTupleKey (intKind prog w) h k.2.1 b
theorem IsTK.inj {h : Heap} {a : Addr} {x y : TK} (hx : IsTK prog w h x a) (hy : IsTK prog w h y a) : x = y := by
  obtain ⟨o, it, n, t, b, t2, t3, g, c, d, e, i⟩ := hx
  obtain ⟨o', it', n', t', b', t2', t3', g', c', d', e', i'⟩ := hy
  rw [g] at g'; cases g'
  rw [d] at d'; cases d'
  rw [e] at e'
  simp only [List.cons.injEq, Value.str.injEq, Value.ref.injEq, Value.int.injEq, and_true] at e'
  obtain ⟨⟨e1, _⟩, e2, ⟨e3, _⟩, e4, _⟩ := e'
  subst e2
  have := i.inj i'
  obtain ⟨x1, x2, x3, x4⟩ := x
  obtain ⟨y1, y2, y3, y4⟩ := y
  simp only at e1 e3 e4 this
  rw [e1, e3, e4, this]
theorem IsTK.keeps {h h' : Heap} {k : TK} {a d : Addr} {o : Obj} {es ep} (x : IsTK prog w h k a) (ho : h.get? d = some o) (hd : o.data = .dict es ep) (hs : Heap.SameBut d h h') : IsTK prog w h' k a := by
  obtain ⟨o', it, n, t, b, t2, t3, g, c, dd, e, i⟩ := x
  have hne : a ≠ d := by
    rintro rfl
    rw [g] at ho; cases ho
    rw [dd] at hd; cases hd
  exact ⟨o', it, n, t, b, t2, t3, (hs.2 a hne).trans g, c, dd, e, i.keeps ho hd hs⟩
noncomputable def tkHash (prog : Program) (w : World) (k : TK) : Int := reduceHash (Builtin.Tuple.tupleHashOf [hashStr w k.1, tupleKeyHash (intKind prog w) k.2.1, hashInt k.2.2.1, hashInt k.2.2.2])

theorem tk_hash {k : TK} {a : Addr} {Q : Int → Shared → Prop} (hu : A.units + 1 < cLine) (hk : IsTK prog w s.heap k a) (h : Q (tkHash prog w k) { s with toks := s.toks + (k.2.1.length + 5) }) :
    wpAny (model prog w) A (pyHash (.ref a)) Q E s := by
  obtain ⟨o, it, n, t, b, t2, t3, ho, hc, hd, e, hi⟩ := hk
  have hT : s.TypeIs (.ref a) "tuple" := ⟨o, ho, hc⟩
  unfold pyHash
  first | unfold pyHashByItsType | skip
  first | refine wpAny_bind (wpAny_cRoomFor_or (.inr (by omega)) ?_) | skip
  refine wpAny_bind (wpAny_specialOf hT F.slot_tuple_hash.lookup ?_)
  show wpAny _ _ (if (some (Value.builtin "tuple.__hash__") == some Value.none) = true then _ else _) Q E s
  rw [if_neg (by rw [beq_builtin_none]; exact Bool.false_ne_true)]
  refine wpAny_bind (wpAny_specialOf hT F.slot_tuple_hash.lookup ?_)
  show wpAny _ _ (callSpecialIfBoundUnlessNone? (.ref a) "__hash__" _ >>= _) Q E s
  refine wpAny_bind (wpAny_callSpecialIfBoundUnlessNone?_slot hT F.slot_tuple_hash (wpAny_call_entry F.slot_tuple_hash hT F.entry_tuple_hash ?_ (F.args_tuple_hash_1 _)))
  show wpAny _ _ (Builtin.Tuple.tupleItemsOf (.ref a) >>= _) _ _ s
  refine wpAny_bind (wpAny_tupleItemsOf ho hd ?_)
  refine wpAny_bind ?_
  rw [← Array.forIn_toList, e]
  simp only [List.forIn_cons, List.forIn_nil]
  refine wpAny_bind (wpAny_bind (wpAny_pyHash_str ?_))
  refine wpAny_pure (wpAny_bind (wpAny_bind (wpAny_pyHash_tuple (by show A.units + 1 < _; exact hu) hi ?_)))
  refine wpAny_pure (wpAny_bind (wpAny_bind (wpAny_pyHash_int ?_)))
  refine wpAny_pure (wpAny_bind (wpAny_bind (wpAny_pyHash_int ?_)))
  refine wpAny_pure (wpAny_pure ?_)
  show wpAny _ _ (retInt (Builtin.Tuple.tupleHashOf [hashStr w k.1, tupleKeyHash (intKind prog w) k.2.1, hashInt k.2.2.1, hashInt k.2.2.2])) _ _ _
  refine wpAny_ret_mkInt ?_
  show wpAny _ _ (if (decide (-(2 : Int) ^ 63 ≤ Builtin.Tuple.tupleHashOf [hashStr w k.1, tupleKeyHash (intKind prog w) k.2.1, hashInt k.2.2.1, hashInt k.2.2.2]) && decide (Builtin.Tuple.tupleHashOf [hashStr w k.1, tupleKeyHash (intKind prog w) k.2.1, hashInt k.2.2.1, hashInt k.2.2.2] < 2 ^ 63)) = true then _ else _) Q E _
  have et : s.toks + 1 + (k.2.1.length + 1) + 1 + 1 + 1 = s.toks + (k.2.1.length + 5) := by omega
  unfold tkHash reduceHash at h
  rw [← et] at h
  by_cases hr : (decide (-(2 : Int) ^ 63 ≤ Builtin.Tuple.tupleHashOf [hashStr w k.1, tupleKeyHash (intKind prog w) k.2.1, hashInt k.2.2.1, hashInt k.2.2.2]) && decide (Builtin.Tuple.tupleHashOf [hashStr w k.1, tupleKeyHash (intKind prog w) k.2.1, hashInt k.2.2.1, hashInt k.2.2.2] < 2 ^ 63)) = true
  · rw [if_pos hr]
    rw [if_pos hr] at h
    exact wpAny_pure h
  · rw [if_neg hr]
    rw [if_neg hr] at h
    exact wpAny_bind (wpAny_rule (wpAny_pure h))

theorem tk_tree {x y : TK} {a b : Addr} {P : Fin → Shared → Prop} (hu : A.units < cLine) (hx : IsTK prog w s.heap x a) (hy : IsTK prog w s.heap y b) (h : P (.done (.ret (.bool (decide (x = y))))) s) :
    wpAny (model prog w) A (Builtin.«tuple.__eq__» ⟨[.ref a, .ref b], []⟩) P E s := by
  obtain ⟨o, it, n, t, c, t2, t3, ho, hc, hd, e, hi⟩ := hx
  obtain ⟨o', it', n', t', c', t2', t3', ho', hc', hd', e', hi'⟩ := hy
  obtain ⟨x1, x2, x3, x4⟩ := x
  obtain ⟨y1, y2, y3, y4⟩ := y
  dsimp only at e e' hi hi'
  show wpAny _ _ (isInstance (.ref b) (.type "tuple") >>= _) _ _ s
  refine wpAny_bind (wpAny_isInstance (T := "tuple") ⟨o', ho', hc'⟩ isSubtype_tuple_tuple ?_)
  simp only [Bool.not_true, Bool.false_eq_true, if_false]
  refine wpAny_bind (wpAny_tupleItemsOf ho hd ?_)
  refine wpAny_bind (wpAny_tupleItemsOf ho' hd' ?_)
  refine wpAny_bind ?_
  have hsz : (it.size == it'.size) = true := by
    rw [← Array.length_toList, ← Array.length_toList, e, e']; rfl
  show wpAny _ _ (forIn (List.zip it.toList it'.toList) _ _) _ _ _
  rw [e, e']
  simp only [List.zip_cons_cons, List.zip_nil_left, List.forIn_cons, List.forIn_nil]
  refine wpAny_bind (wpAny_bind (wpAny_eqBool_str ?_))
  by_cases h1 : x1 = y1
  · rw [decide_eq_true h1]
    simp only [Bool.not_true, Bool.false_eq_true, if_false]
    refine wpAny_pure (wpAny_bind (wpAny_bind (wpAny_eqBool_tuple hu hi hi' ?_)))
    by_cases h2 : x2 = y2
    · rw [decide_eq_true h2]
      simp only [Bool.not_true, Bool.false_eq_true, if_false]
      refine wpAny_pure (wpAny_bind (wpAny_bind ((intKind prog w).eqBool (a := x3) (b := y3) (by simp [intKind, Value.isInt]) (by simp [intKind, Value.isInt]) ?_)))
      by_cases h3 : x3 = y3
      · rw [decide_eq_true h3]
        simp only [Bool.not_true, Bool.false_eq_true, if_false]
        refine wpAny_pure (wpAny_bind (wpAny_bind ((intKind prog w).eqBool (a := x4) (b := y4) (by simp [intKind, Value.isInt]) (by simp [intKind, Value.isInt]) ?_)))
        by_cases h4 : x4 = y4
        · rw [decide_eq_true h4]
          simp only [Bool.not_true, Bool.false_eq_true, if_false]
          refine wpAny_pure (wpAny_pure (wpAny_pure ?_))
          show P (.done (.ret (.bool (it.size == it'.size)))) s
          rw [hsz]
          rw [decide_eq_true (by rw [h1, h2, h3, h4])] at h
          exact h
        · rw [decide_eq_false h4]
          simp only [Bool.not_false, if_true]
          rw [decide_eq_false (fun q => h4 (by injection q with _ q; injection q with _ q; injection q with _ q))] at h
          exact wpAny_bind (wpAny_pure (wpAny_pure (wpAny_pure (wpAny_pure h))))
      · rw [decide_eq_false h3]
        simp only [Bool.not_false, if_true]
        rw [decide_eq_false (fun q => h3 (by injection q with _ q; injection q with _ q; injection q with q _))] at h
        exact wpAny_bind (wpAny_pure (wpAny_pure (wpAny_pure (wpAny_pure h))))
    · rw [decide_eq_false h2]
      simp only [Bool.not_false, if_true]
      rw [decide_eq_false (fun q => h2 (by injection q with _ q; injection q with q _))] at h
      exact wpAny_bind (wpAny_pure (wpAny_pure (wpAny_pure (wpAny_pure h))))
  · rw [decide_eq_false h1]
    simp only [Bool.not_false, if_true]
    rw [decide_eq_false (fun q => h1 (by injection q with q _))] at h
    exact wpAny_bind (wpAny_pure (wpAny_pure (wpAny_pure (wpAny_pure h))))

theorem tk_eq {x y : TK} {a b : Addr} {Q : Bool → Shared → Prop} (hu : A.units + 1 < cLine) (hx : IsTK prog w s.heap x a) (hy : IsTK prog w s.heap y b) (h : Q (decide (x = y)) s) :
    wpAny (model prog w) A (eqBool (.ref a) (.ref b)) Q E s := by
  have hTx : s.TypeIs (.ref a) "tuple" := by obtain ⟨o, _, _, _, _, _, _, g, c, _⟩ := hx; exact ⟨o, g, c⟩
  have hTy : s.TypeIs (.ref b) "tuple" := by obtain ⟨o, _, _, _, _, _, _, g, c, _⟩ := hy; exact ⟨o, g, c⟩
  unfold eqBool
  try with_reducible refine wpAny_holding ?_
  show wpAny _ _ (if (Value.ref a == Value.ref b) = true then _ else _) Q E s
  by_cases hab : (Value.ref a == Value.ref b) = true
  · rw [if_pos hab]
    have e : a = b := by have := eq_of_beq hab; injection this
    subst e
    obtain rfl := hx.inj hy
    exact wpAny_bind (wpAny_rule (wpAny_pure (by simpa using h)))
  · rw [if_neg hab]
    exact wpAny_bind (wpAny_richCompare_same_room (op := .Eq) hTx hTy F.slot_tuple_eq
      (wpAny_call_entry F.slot_tuple_eq hTx F.entry_tuple_eq (tk_tree (by show A.units + 1 < _; exact hu) hx hy ⟨_, rfl, (fun e => nomatch e), wpAny_truthy_bool h⟩) (F.args_tuple_eq_2 _ _)) (by omega))

theorem quiet_tuple (n : Nat) {K : Type} [DecidableEq K] {knd : PySem.KeyKind prog w K} {ks : List K} {a : Addr} {Q : Bool → Shared → Prop} (hk : IsTupleKey knd s.heap ks a) (h : Q true s) : wpAny (model prog w) A (eqIsQuiet (n + 1) (.ref a)) Q E s := by
  have hT := hk.typeIs
  obtain ⟨o, items, n', ho, _, hd, hi⟩ := hk
  unfold eqIsQuiet
  refine wpAny_bind (wpAny_specialOf hT F.slot_tuple_eq.lookup ?_)
  show wpAny _ _ (isInstance (.ref a) (.type "tuple") >>= _) _ _ s
  refine wpAny_bind (wpAny_isInstance hT isSubtype_tuple_tuple ?_)
  simp only [Bool.not_true, Bool.false_eq_true, if_false]
  refine wpAny_bind (wpAny_seqItems ho hd ?_)
  refine wpAny_bind ?_
  show wpAny _ _ (forIn items _ _) _ _ s
  rw [← Array.forIn_toList]
  refine wpAny_forIn_list _ (fun rest r s' => r.1 = none ∧ s' = s ∧ ∀ v ∈ rest, carriedByValue v = true) _ ?_ ?_ _ _ ⟨rfl, rfl, hi.byValue⟩
  · rintro v rest r s' ⟨hr, rfl, hall⟩
    rw [eqIsQuiet_byValue _ (hall v List.mem_cons_self)]
    refine wpAny_bind (wpAny_pure ?_)
    simp only [Bool.not_true, Bool.false_eq_true, if_false]
    exact wpAny_pure ⟨rfl, rfl, fun u hu' => hall u (List.mem_cons_of_mem _ hu')⟩
  · rintro ⟨r1, r2⟩ s' ⟨hr, rfl, _⟩
    simp only at hr
    subst hr
    exact wpAny_pure h
theorem tk_quiet {k : TK} {a : Addr} {Q : Bool → Shared → Prop} (hk : IsTK prog w s.heap k a) (h : Q true s) : wpAny (model prog w) A (eqIsQuiet 8 (.ref a)) Q E s := by
  obtain ⟨o, it, n, t, b, t2, t3, ho, hc, hd, e, hi⟩ := hk
  have hT : s.TypeIs (.ref a) "tuple" := ⟨o, ho, hc⟩
  unfold eqIsQuiet
  refine wpAny_bind (wpAny_specialOf hT F.slot_tuple_eq.lookup ?_)
  show wpAny _ _ (isInstance (.ref a) (.type "tuple") >>= _) _ _ s
  refine wpAny_bind (wpAny_isInstance hT isSubtype_tuple_tuple ?_)
  simp only [Bool.not_true, Bool.false_eq_true, if_false]
  refine wpAny_bind (wpAny_seqItems ho hd ?_)
  refine wpAny_bind ?_
  show wpAny _ _ (forIn it _ _) _ _ s
  rw [← Array.forIn_toList, e]
  simp only [List.forIn_cons, List.forIn_nil]
  rw [eqIsQuiet_byValue _ (v := .str k.1 t) rfl, eqIsQuiet_byValue _ (v := .int k.2.2.1 t2) rfl, eqIsQuiet_byValue _ (v := .int k.2.2.2 t3) rfl]
  refine wpAny_bind (wpAny_bind (wpAny_pure ?_))
  simp only [Bool.not_true, Bool.false_eq_true, if_false]
  refine wpAny_pure (wpAny_bind (wpAny_bind (quiet_tuple 6 hi ?_)))
  simp only [Bool.not_true, Bool.false_eq_true, if_false]
  refine wpAny_pure (wpAny_bind (wpAny_bind (wpAny_pure ?_)))
  simp only [Bool.not_true, Bool.false_eq_true, if_false]
  refine wpAny_pure (wpAny_bind (wpAny_bind (wpAny_pure ?_)))
  simp only [Bool.not_true, Bool.false_eq_true, if_false]
  refine wpAny_pure (wpAny_pure ?_)
  exact wpAny_pure h

noncomputable def tkKind (prog : Program) (w : World) : HeapKind prog w TK where
  is := IsTK prog w
  hash := tkHash prog w
  draws := fun k => k.2.1.length + 5
  room := fun A => A.units + 1 < cLine
  inj := fun hx hy => hx.inj hy
  keeps := fun x ho hd hs => x.keeps ho hd hs
  pyHash := fun hu hk h => tk_hash hu hk h
  eqBool := fun hu hx hy h => tk_eq hu hx hy h
  quiet := fun hk h => tk_quiet hk h
end
end MP
namespace MP

structure Cx where
  prog : Program
  w : World
  K : Frag
  mg : Str → Option Value
  mb : Str → Option Value
  h0 : Heap
  gens : Array GenState
  drawn : Drawn
  os : OsState
  sf : Addr
structure Cx.Ok (C : Cx) : Prop where
  kin : C.K.In C.h0
  g : C.h0.Ns mainGlobals C.mg
  b : C.h0.Ns builtinsNs C.mb
  nolimit : C.h0.NoLimit
  sys : sysModules < C.h0.objs.size

noncomputable def Names (ρ : Rho) (h : Heap) (fs : List (Str × V)) (mm : Str → Option Value) : Prop :=
  ∀ x, (∀ v, fs.lookup x = some v → ∃ y, mm x = some y ∧ RepV ρ h v y) ∧ (fs.lookup x = none → mm x = none)

noncomputable def tkV (k : TK) : V := .tup [.str k.1, .tup (k.2.1.map .int), .int k.2.2.1, .int k.2.2.2]
noncomputable def RepO (C : Cx) (ρ : Rho) (h : Heap) : AObj → Addr → Addr → Prop
  | .list xs, a, d => a = d ∧ ∃ n items sl, h.get? a = some ⟨.type "list", none, .seq items n, sl⟩ ∧ RepVs ρ h xs items.toList
  | .dictS kvs, a, d => a = d ∧ ∃ vs, h.DictOf (strKind C.prog C.w) a ((kvs.map (·.1)).zip vs) ∧ RepVs ρ h (kvs.map (·.2)) vs
  | .dictI kvs, a, d => a = d ∧ ∃ vs, h.DictOf (intKind C.prog C.w) a ((kvs.map (·.1)).zip vs) ∧ RepVs ρ h (kvs.map (·.2)) vs
  | .dictT kvs, a, d => a = d ∧ ∃ (o : Obj) (es : Array DictEntry) (ep : Nat) (xs : List (TK × Addr × Value)), h.get? a = some o ∧ (o.ExactDict ∧ o.data = .dict es ep ∧ es.toList = xs.map (entryOfKey (tkKind C.prog C.w)) ∧ (xs.map (·.1)).Nodup ∧ kvs.map (·.1) = xs.map (·.1)) ∧ (∀ x ∈ xs, RepV ρ h (tkV x.1) (.ref x.2.1)) ∧ RepVs ρ h (kvs.map (·.2)) (xs.map (·.2.2))
  | .frz o xs, a, d => a = d ∧ h.get? a = some o ∧ ∃ items n, o.cls = .type "list" ∧ o.data = .seq items n ∧ RepVs ρ h xs items.toList
  | .opq, a, d => a = d ∧ ∃ o, h.get? a = some o ∧ ∃ x y : Value, o = { cls := .type "tuple", data := .seq #[x, y] }
  | .inst K fs, a, d => (∃ sl, h.get? a = some ⟨.ref K, some d, .plain, sl⟩) ∧ ∃ o es n, h.get? d = some o ∧ o.data = .dict es n ∧ StrKeys es ∧ es.size ≤ fs.length ∧ Names ρ h fs (nsFind es)

structure Rep (C : Cx) (ρ : Rho) (H : Hp) (h : Heap) : Prop where
  len : ρ.length = H.length
  obj : ∀ (l : Nat) (o : AObj) (p : Addr × Addr), H[l]? = some o → ρ[l]? = some p → RepO C ρ h o p.1 p.2
  apart : ∀ (l l' : Nat) (p p' : Addr × Addr), l ≠ l' → ρ[l]? = some p → ρ[l']? = some p' → p.1 ≠ p'.1 ∧ p.1 ≠ p'.2 ∧ p.2 ≠ p'.1 ∧ p.2 ≠ p'.2

/-- an address that the old part does not hold -/
noncomputable def Free (h0 : Heap) (a : Addr) : Prop := h0.get? a = none ∧ (a = sysModules → h0.objs.size ≤ sysModules)
theorem Free.ge {h0 : Heap} {a : Addr} (h : h0.objs.size ≤ a) : Free h0 a := ⟨by
  cases q : h0.get? a with
  | none => rfl
  | some o => exact absurd (Heap.lt_size q) (Nat.not_lt.mpr h), fun e => e ▸ h⟩
theorem Free.no {h0 : Heap} {a : Addr} {o : Obj} (x : Free h0 a) (e : h0.get? a = some o) : False := by rw [x.1] at e; cases e

structure St (C : Cx) (l : List Env) (ρ : Rho) (H : Hp) (s : Shared) : Prop where
  old : ∀ b o, C.h0.get? b = some o → s.heap.get? b = some o
  hi : ∀ p ∈ ρ, Free C.h0 p.1 ∧ Free C.h0 p.2
  lo : C.h0.objs.size ≤ s.heap.objs.size
  rest : s.gens = C.gens ∧ s.drawn = C.drawn ∧ s.os = C.os
  rep : Rep C ρ H s.heap
  frs : s.heap.FunFrames C.h0 l
  frm : ∀ b, inFr l b → ¬ muts ρ b

/-- from one state to a later one; W: what else may have been written -/
structure Ev (C : Cx) (l : List Env) (W : Addr → Prop) (ρ : Rho) (s : Shared) (ρ' : Rho) (H' : Hp) (s' : Shared) : Prop where
  st : St C l ρ' H' s'
  pre : ∃ t, ρ' = ρ ++ t ∧ ∀ p ∈ t, s.heap.objs.size ≤ p.1 ∧ s.heap.objs.size ≤ p.2
  keep : Keep (fun b => muts ρ b ∨ W b) (inFr l) s.heap s'.heap

noncomputable def No : Addr → Prop := fun _ => False

theorem Ev.refl {C l ρ H s} {W : Addr → Prop} (x : St C l ρ H s) : Ev C l W ρ s ρ H s := ⟨x, ⟨[], by simp, fun _ h => nomatch h⟩, Keep.refl ..⟩
theorem muts_append {ρ t : Rho} {b : Addr} : muts (ρ ++ t) b ↔ muts ρ b ∨ muts t b := by
  simp only [muts, List.mem_append]
  constructor
  · rintro ⟨p, hp | hp, e⟩
    · exact .inl ⟨p, hp, e⟩
    · exact .inr ⟨p, hp, e⟩
  · rintro (⟨p, hp, e⟩ | ⟨p, hp, e⟩)
    · exact ⟨p, .inl hp, e⟩
    · exact ⟨p, .inr hp, e⟩
theorem Ev.trans {C l W ρ s ρ₁ H₁ s₁ ρ₂ H₂ s₂} (x : Ev C l W ρ s ρ₁ H₁ s₁) (y : Ev C l W ρ₁ s₁ ρ₂ H₂ s₂) : Ev C l W ρ s ρ₂ H₂ s₂ := by
  obtain ⟨t, rfl, ht⟩ := x.pre
  obtain ⟨t2, rfl, ht2⟩ := y.pre
  refine ⟨y.st, ⟨t ++ t2, by rw [List.append_assoc], fun p hp => ?_⟩, x.keep.trans y.keep (fun b hb => ?_) fun b hb => hb⟩
  · rcases List.mem_append.mp hp with hp | hp
    · exact ht p hp
    · exact ⟨Nat.le_trans x.keep.1 (ht2 p hp).1, Nat.le_trans x.keep.1 (ht2 p hp).2⟩
  · rintro (h | h)
    · rcases muts_append.mp h with h | ⟨p, hp, e⟩
      · exact .inl h
      · have := ht p hp
        rcases e with rfl | rfl
        · exact absurd hb (Nat.not_lt.mpr this.1)
        · exact absurd hb (Nat.not_lt.mpr this.2)
    · exact .inr h
theorem Ev.mono {C l W W' ρ s ρ₁ H₁ s₁} (x : Ev C l W ρ s ρ₁ H₁ s₁) (h : ∀ b, W b → W' b) : Ev C l W' ρ s ρ₁ H₁ s₁ :=
  ⟨x.st, x.pre, x.keep.mono fun b hb => hb.imp id (h b)⟩
theorem Ev.no {C l W ρ s ρ₁ H₁ s₁} (x : Ev C l No ρ s ρ₁ H₁ s₁) : Ev C l W ρ s ρ₁ H₁ s₁ := x.mono fun _ h => h.elim
theorem Ev.look {C l W ρ s ρ₁ H₁ s₁} (x : Ev C l W ρ s ρ₁ H₁ s₁) (i : Nat) (p : Addr × Addr) (e : ρ[i]? = some p) : ρ₁[i]? = some p := by
  obtain ⟨t, rfl, _⟩ := x.pre
  rw [List.getElem?_append_left (List.getElem?_eq_some_iff.mp e).1]; exact e
theorem Ev.nm {C l W ρ s ρ₁ H₁ s₁} (x : Ev C l W ρ s ρ₁ H₁ s₁) (b : Addr) (hb : b < s.heap.objs.size) (n : ¬ muts ρ b) : ¬ muts ρ₁ b := fun q => by
  obtain ⟨t, rfl, ht⟩ := x.pre
  rcases muts_append.mp q with q | ⟨p, hp, z⟩
  · exact n q
  · have := ht p hp
    rcases z with rfl | rfl
    · exact absurd hb (Nat.not_lt.mpr this.1)
    · exact absurd hb (Nat.not_lt.mpr this.2)
theorem RepV.ev {C l W ρ s ρ₁ H H₁ s₁ v y} (r : RepV ρ s.heap v y) (st : St C l ρ H s) (x : Ev C l W ρ s ρ₁ H₁ s₁) (hw : ∀ b, W b → NT s.heap b) : RepV ρ₁ s₁.heap v y :=
  let _ := st
  RepV.keep x.keep (fun b hb m => hb.elim (fun z => absurd z m) (hw b)) x.look x.nm r
theorem RepVs.ev {C l W ρ s ρ₁ H H₁ s₁ v y} (r : RepVs ρ s.heap v y) (st : St C l ρ H s) (x : Ev C l W ρ s ρ₁ H₁ s₁) (hw : ∀ b, W b → NT s.heap b) : RepVs ρ₁ s₁.heap v y :=
  let _ := st
  RepVs.keep x.keep (fun b hb m => hb.elim (fun z => absurd z m) (hw b)) x.look x.nm r
theorem RepV.ev0 {C l ρ s ρ₁ H H₁ s₁ v y} (r : RepV ρ s.heap v y) (st : St C l ρ H s) (x : Ev C l No ρ s ρ₁ H₁ s₁) : RepV ρ₁ s₁.heap v y := r.ev st x fun _ h => h.elim
theorem RepVs.ev0 {C l ρ s ρ₁ H H₁ s₁ v y} (r : RepVs ρ s.heap v y) (st : St C l ρ H s) (x : Ev C l No ρ s ρ₁ H₁ s₁) : RepVs ρ₁ s₁.heap v y := r.ev st x fun _ h => h.elim

/-- an own SortFault in flight, born at n or later: without an entry yet, or with one, whose mark is fl -/
noncomputable def FlyAt (C : Cx) (n : Nat) (e : Addr) (fl : Value) (h : Heap) : Prop :=
  n ≤ e ∧ ∃ oe vs T oT ts, n ≤ T ∧ h.get? e = some oe ∧ oe.cls = .ref C.sf ∧ oe.data = .fields vs ∧ vs[1]? = some (.ref T) ∧ T ≠ e ∧ h.get? T = some oT ∧ oT.data = .fields ts ∧ ts[3]? = some fl
noncomputable def FlyNew (C : Cx) (n : Nat) (e : Addr) (h : Heap) : Prop :=
  n ≤ e ∧ ∃ oe vs, h.get? e = some oe ∧ oe.cls = .ref C.sf ∧ oe.data = .fields vs ∧ vs[1]? = some .none
noncomputable def Fly (C : Cx) (fr : Option Addr) (n : Nat) (e : Addr) (h : Heap) : Prop :=
  FlyNew C n e h ∨ FlyAt C n e .none h ∨ ∃ L, fr = some L ∧ FlyAt C n e (rawInt L) h
theorem FlyAt.mono {C : Cx} {n n' : Nat} {e : Addr} {fl : Value} {h : Heap} (x : FlyAt C n e fl h) (hn : n' ≤ n) : FlyAt C n' e fl h := by
  obtain ⟨a, oe, vs, T, oT, ts, b, r⟩ := x
  exact ⟨Nat.le_trans hn a, oe, vs, T, oT, ts, Nat.le_trans hn b, r⟩
theorem Fly.mono {C : Cx} {fr : Option Addr} {n n' : Nat} {e : Addr} {h : Heap} (x : Fly C fr n e h) (hn : n' ≤ n) : Fly C fr n' e h := by
  rcases x with ⟨a, r⟩ | x | ⟨L, q, x⟩
  · exact .inl ⟨Nat.le_trans hn a, r⟩
  · exact .inr (.inl (x.mono hn))
  · exact .inr (.inr ⟨L, q, x.mono hn⟩)
theorem Fly.any {C : Cx} {fr : Option Addr} {n : Nat} {e : Addr} {h : Heap} (x : Fly C none n e h) : Fly C fr n e h := by
  rcases x with x | x | ⟨L, q, x⟩
  · exact .inl x
  · exact .inr (.inl x)
  · cases q

noncomputable def Bud (d : Nat) (A : Around) : Prop := A.depth + 2 * d < 900 ∧ A.units + 20 * d < 9800 ∧ A.handled = none
theorem Bud.room {d : Nat} {A : Around} (b : Bud d A) : A.depth < recursionLimit := by have := b.1; show _ < 1000; omega
theorem Bud.units {d : Nat} {A : Around} (b : Bud d A) : A.units < cLine := by have := b.2.1; show _ < 9900; omega

noncomputable def ownA (env : Env) (b : Addr) : Prop := b = env.locals ∨ ∃ x, env.cells.lookup x = some b

structure FrOk (C : Cx) (env : Env) (l : List Env) (m : Fm) (ρ : Rho) (h : Heap) : Prop where
  kind : env.scope.kind = .function
  glob : env.globals = mainGlobals
  bui : env.builtins = builtinsNs
  top : ∃ e0 r, l = e0 :: r ∧ e0.frame = env.frame
  loc : ∃ mm, h.Ns env.locals mm ∧ ∀ x v, m.lookup x = some v → env.kindOf x = some .local → ∃ y, mm x = some y ∧ RepV ρ h v y
  cel : ∀ x v, m.lookup x = some v → (env.kindOf x = some .cell ∨ env.kindOf x = some .free) → ∃ c y, env.cells.lookup x = some c ∧ h.IsCell c (some y) ∧ RepV ρ h v y
  celX : ∀ x c, env.cells.lookup x = some c → ∃ ov, h.IsCell c ov
  celI : ∀ x x' c, env.cells.lookup x = some c → env.cells.lookup x' = some c → x = x'
  hiL : C.h0.objs.size ≤ env.locals ∧ ¬ muts ρ env.locals
  hiC : ∀ x c, env.cells.lookup x = some c → C.h0.objs.size ≤ c ∧ ¬ muts ρ c
  celE : ∀ x, env.kindOf x = some .cell → (env.cells.lookup x).isSome = true

noncomputable def PostE (C : Cx) (l : List Env) (fr : Option Addr) (ρ : Rho) (s : Shared) (Q : Value → Shared → Prop) (E : Value → Shared → Prop) : Out V → Prop
  | .ok v H' => ∀ ρ' y s', Ev C l No ρ s ρ' H' s' → RepV ρ' s'.heap v y → Q y s'
  | .exc H' => ∀ ρ' e s', Ev C l No ρ s ρ' H' s' → Fly C fr s.heap.objs.size e s'.heap → E (.ref e) s'
  | .bad => False
/-- the same for a list of values -/
noncomputable def PostL (C : Cx) (l : List Env) (fr : Option Addr) (ρ : Rho) (s : Shared) (Q : List Value → Shared → Prop) (E : Value → Shared → Prop) : Out (List V) → Prop
  | .ok v H' => ∀ ρ' y s', Ev C l No ρ s ρ' H' s' → RepVs ρ' s'.heap v y → Q y s'
  | .exc H' => ∀ ρ' e s', Ev C l No ρ s ρ' H' s' → Fly C fr s.heap.objs.size e s'.heap → E (.ref e) s'
  | .bad => False
inductive RepF (ρ : Rho) (h : Heap) : Fl → Flow → Prop
  | next : RepF ρ h .next .next
  | cont : RepF ρ h .cont .cont
  | brk : RepF ρ h .brk .brk
  | ret {v y} : RepV ρ h v y → RepF ρ h (.ret v) (.ret y)
noncomputable def PostS (C : Cx) (env : Env) (l : List Env) (ρ : Rho) (s : Shared) (Q : Flow → Shared → Prop) (E : Value → Shared → Prop) : OutS → Prop
  | .ok f m' H' => ∀ ρ' F s', Ev C l (ownA env) ρ s ρ' H' s' → FrOk C env l m' ρ' s'.heap → RepF ρ' s'.heap f F → Q F s'
  | .exc m' H' => ∀ ρ' e s', Ev C l (ownA env) ρ s ρ' H' s' → FrOk C env l m' ρ' s'.heap → Fly C env.frame s.heap.objs.size e s'.heap → E (.ref e) s'
  | .bad => False

theorem PostE.shift {C l fr ρ s Q E o ρ₁ H₁ s₁} (p : PostE C l fr ρ s Q E o) (x : Ev C l No ρ s ρ₁ H₁ s₁) : PostE C l fr ρ₁ s₁ Q E o := by
  cases o with
  | ok v H => exact fun ρ' y s' e r => p ρ' y s' (x.trans e) r
  | exc H => exact fun ρ' y s' e r => p ρ' y s' (x.trans e) (r.mono x.keep.1)
  | bad => exact p
theorem PostL.shift {C l fr ρ s Q E o ρ₁ H₁ s₁} (p : PostL C l fr ρ s Q E o) (x : Ev C l No ρ s ρ₁ H₁ s₁) : PostL C l fr ρ₁ s₁ Q E o := by
  cases o with
  | ok v H => exact fun ρ' y s' e r => p ρ' y s' (x.trans e) r
  | exc H => exact fun ρ' y s' e r => p ρ' y s' (x.trans e) (r.mono x.keep.1)
  | bad => exact p
theorem PostS.shift {C env l ρ s Q E o ρ₁ H₁ s₁} (p : PostS C env l ρ s Q E o) (x : Ev C l (ownA env) ρ s ρ₁ H₁ s₁) : PostS C env l ρ₁ s₁ Q E o := by
  cases o with
  | ok f m H => exact fun ρ' y s' e fr r => p ρ' y s' (x.trans e) fr r
  | exc m H => exact fun ρ' y s' e fr r => p ρ' y s' (x.trans e) fr (r.mono x.keep.1)
  | bad => exact p

theorem PostE.bind {C l fr ρ s Q E} {o : Out V} {k : V → Hp → Out V} {Q1 : Value → Shared → Prop} (p : PostE C l fr ρ s Q E (o.bind k))
    (h : ∀ v H1 ρ1 y s1, o = .ok v H1 → Ev C l No ρ s ρ1 H1 s1 → RepV ρ1 s1.heap v y → PostE C l fr ρ1 s1 Q E (k v H1) → Q1 y s1) : PostE C l fr ρ s Q1 E o := by
  cases o with
  | ok v H => exact fun ρ' y s' e r => h v H ρ' y s' rfl e r (p.shift e)
  | exc H => exact p
  | bad => exact p
theorem PostE.bindL {C l fr ρ s Q E} {o : Out (List V)} {k : List V → Hp → Out V} {Q1 : List Value → Shared → Prop} (p : PostE C l fr ρ s Q E (o.bind k))
    (h : ∀ v H1 ρ1 y s1, o = .ok v H1 → Ev C l No ρ s ρ1 H1 s1 → RepVs ρ1 s1.heap v y → PostE C l fr ρ1 s1 Q E (k v H1) → Q1 y s1) : PostL C l fr ρ s Q1 E o := by
  cases o with
  | ok v H => exact fun ρ' y s' e r => h v H ρ' y s' rfl e r (p.shift e)
  | exc H => exact p
  | bad => exact p
theorem PostL.bind {C l fr ρ s Q E} {o : Out V} {k : V → Hp → Out (List V)} {Q1 : Value → Shared → Prop} (p : PostL C l fr ρ s Q E (o.bind k))
    (h : ∀ v H1 ρ1 y s1, o = .ok v H1 → Ev C l No ρ s ρ1 H1 s1 → RepV ρ1 s1.heap v y → PostL C l fr ρ1 s1 Q E (k v H1) → Q1 y s1) : PostE C l fr ρ s Q1 E o := by
  cases o with
  | ok v H => exact fun ρ' y s' e r => h v H ρ' y s' rfl e r (p.shift e)
  | exc H => exact p
  | bad => exact p
theorem PostL.bindL {C l fr ρ s Q E} {o : Out (List V)} {k : List V → Hp → Out (List V)} {Q1 : List Value → Shared → Prop} (p : PostL C l fr ρ s Q E (o.bind k))
    (h : ∀ v H1 ρ1 y s1, o = .ok v H1 → Ev C l No ρ s ρ1 H1 s1 → RepVs ρ1 s1.heap v y → PostL C l fr ρ1 s1 Q E (k v H1) → Q1 y s1) : PostL C l fr ρ s Q1 E o := by
  cases o with
  | ok v H => exact fun ρ' y s' e r => h v H ρ' y s' rfl e r (p.shift e)
  | exc H => exact p
  | bad => exact p
/-- a frame stands where only the store is written -/
theorem FrOk.ev {C env l m ρ s ρ₁ H H₁ s₁} (x : FrOk C env l m ρ s.heap) (st : St C l ρ H s) (e : Ev C l No ρ s ρ₁ H₁ s₁) : FrOk C env l m ρ₁ s₁.heap := by
  have nm : ∀ b o, s.heap.get? b = some o → ¬ muts ρ b → ¬ muts ρ₁ b := fun b o g n => e.nm b (Heap.lt_size g) n
  have cellK : ∀ c ov, s.heap.IsCell c ov → ¬ muts ρ c → s₁.heap.IsCell c ov := by
    rintro c ov ⟨o, g, d⟩ n
    obtain ⟨sl, g', _⟩ := e.keep.2 c o g (fun z => z.elim n id)
    exact ⟨_, g', d⟩
  refine ⟨x.kind, x.glob, x.bui, x.top, ?_, ?_, ?_, x.celI, ⟨x.hiL.1, ?_⟩, ?_, x.celE⟩
  · obtain ⟨mm, ⟨o, es, ep, g, d, k, f⟩, hm⟩ := x.loc
    obtain ⟨sl, g', _⟩ := e.keep.2 _ o g (fun z => z.elim x.hiL.2 id)
    refine ⟨mm, ⟨_, es, ep, g', d, k, f⟩, fun y v hv hk => ?_⟩
    obtain ⟨z, hz, r⟩ := hm y v hv hk
    exact ⟨z, hz, r.ev0 st e⟩
  · intro y v hv hk
    obtain ⟨c, z, hc, ic, r⟩ := x.cel y v hv hk
    exact ⟨c, z, hc, cellK c _ ic (x.hiC y c hc).2, r.ev0 st e⟩
  · intro y c hc
    obtain ⟨ov, ic⟩ := x.celX y c hc
    exact ⟨ov, cellK c _ ic (x.hiC y c hc).2⟩
  · obtain ⟨mm, ⟨o, es, ep, g, _⟩, _⟩ := x.loc
    exact nm _ o g x.hiL.2
  · intro y c hc
    obtain ⟨ov, o, g, d⟩ := x.celX y c hc
    exact ⟨(x.hiC y c hc).1, nm _ o g (x.hiC y c hc).2⟩

theorem PostS.bindE {C env l ρ s Q E H} {m : Fm} {o : Out V} {k : V → Hp → OutS} {Q1 : Value → Shared → Prop} (p : PostS C env l ρ s Q E (o.bindS m k)) (st : St C l ρ H s) (fr : FrOk C env l m ρ s.heap)
    (h : ∀ v H1 ρ1 y s1, o = .ok v H1 → Ev C l No ρ s ρ1 H1 s1 → FrOk C env l m ρ1 s1.heap → RepV ρ1 s1.heap v y → PostS C env l ρ1 s1 Q E (k v H1) → Q1 y s1) : PostE C l env.frame ρ s Q1 E o := by
  cases o with
  | ok v H => exact fun ρ' y s' e r => h v H ρ' y s' rfl e (fr.ev st e) r (p.shift e.no)
  | exc H => exact fun ρ' y s' e r => p ρ' y s' e.no (fr.ev st e) r
  | bad => exact p
theorem PostS.bind {C env l ρ s Q E} {o : OutS} {k : Fl → Fm → Hp → OutS} {Q1 : Flow → Shared → Prop} (p : PostS C env l ρ s Q E (o.bind k))
    (h : ∀ f m H1 ρ1 F s1, o = .ok f m H1 → Ev C l (ownA env) ρ s ρ1 H1 s1 → FrOk C env l m ρ1 s1.heap → RepF ρ1 s1.heap f F → PostS C env l ρ1 s1 Q E (k f m H1) → Q1 F s1) : PostS C env l ρ s Q1 E o := by
  cases o with
  | ok v m H => exact fun ρ' y s' e fr r => h v m H ρ' y s' rfl e fr r (p.shift e)
  | exc m H => exact p
  | bad => exact p

theorem PostE.any {C l fr ρ s Q E o} (p : PostE C l fr ρ s Q E o) : PostE C l none ρ s Q E o := by
  cases o with
  | ok v H => exact p
  | exc H => exact fun ρ' y s' e r => p ρ' y s' e r.any
  | bad => exact p
theorem PostE.mono {C l fr ρ s Q Q' E o} (p : PostE C l fr ρ s Q E o) (h : ∀ F s', Q F s' → Q' F s') : PostE C l fr ρ s Q' E o := by
  cases o with
  | ok v H => exact fun ρ' y s' e r => h _ _ (p ρ' y s' e r)
  | exc H => exact p
  | bad => exact p

/-- what an expression, a block, a def does -/
noncomputable def SimE (C : Cx) (d : Nat) (sc : Scope) (e : Expr) (f : FE) : Prop :=
  ∀ (A : Around) (env : Env) (l : List Env) (m : Fm) (ρ : Rho) (H : Hp) (s : Shared) (Q E : Value → Shared → Prop),
    Bud d A → A.frames = some l → env.scope = sc → FrOk C env l m ρ s.heap → St C l ρ H s → PostE C l env.frame ρ s Q E (f m H) → wpAny (model C.prog C.w) A (eval e env) Q E s
noncomputable def SimT (C : Cx) (d : Nat) (sc : Scope) (e : Expr) (f : FE) : Prop :=
  ∀ (A : Around) (env : Env) (l : List Env) (m : Fm) (ρ : Rho) (H : Hp) (s : Shared) (Q : Bool → Shared → Prop) (E : Value → Shared → Prop),
    Bud d A → A.frames = some l → env.scope = sc → FrOk C env l m ρ s.heap → St C l ρ H s → PostE C l env.frame ρ s (fun v s' => ∃ b, v = .bool b ∧ Q b s') E (f m H) → wpAny (model C.prog C.w) A (isTrue e env (eval e env)) Q E s
noncomputable def SimL (C : Cx) (d : Nat) (sc : Scope) (es : List Expr) (f : Fm → Hp → Out (List V)) : Prop :=
  ∀ (A : Around) (env : Env) (l : List Env) (m : Fm) (ρ : Rho) (H : Hp) (s : Shared) (Q : List Value → Shared → Prop) (E : Value → Shared → Prop) (pos : Pos),
    Bud d A → A.frames = some l → env.scope = sc → FrOk C env l m ρ s.heap → St C l ρ H s → PostL C l env.frame ρ s Q E (f m H) → wpAny (model C.prog C.w) A (spliced (backTo pos (starEach es env))) Q E s
noncomputable def SimS (C : Cx) (d : Nat) (sc : Scope) (st : Stmt) (f : FS) : Prop :=
  ∀ (A : Around) (env : Env) (l : List Env) (m : Fm) (ρ : Rho) (H : Hp) (s : Shared) (Q : Flow → Shared → Prop) (E : Value → Shared → Prop),
    Bud d A → A.frames = some l → env.scope = sc → FrOk C env l m ρ s.heap → St C l ρ H s → PostS C env l ρ s Q E (f m H) → wpAny (model C.prog C.w) A (exec st env) Q E s
noncomputable def SimB (C : Cx) (d : Nat) (sc : Scope) (b : List Stmt) (f : FS) : Prop :=
  ∀ (A : Around) (env : Env) (l : List Env) (m : Fm) (ρ : Rho) (H : Hp) (s : Shared) (Q : Flow → Shared → Prop) (E : Value → Shared → Prop),
    Bud d A → A.frames = some l → env.scope = sc → FrOk C env l m ρ s.heap → St C l ρ H s → PostS C env l ρ s Q E (f m H) → wpAny (model C.prog C.w) A (execs b env) Q E s
noncomputable def SimF (C : Cx) (d : Nat) (f : Value) (F : List V → Hp → Out V) : Prop :=
  ∀ (A : Around) (l : List Env) (vs : List V) (xs : List Value) (ρ : Rho) (H : Hp) (s : Shared) (Q E : Value → Shared → Prop),
    Bud d A → A.frames = some l → St C l ρ H s → RepVs ρ s.heap vs xs → PostE C l none ρ s Q E (F vs H) → wpAny (model C.prog C.w) A (call f xs []) Q E s
end MP
namespace MP

theorem St.tok {C l ρ H s} {t : Nat} (x : St C l ρ H s) : St C l ρ H { s with toks := t } := ⟨x.old, x.hi, x.lo, x.rest, x.rep, x.frs, x.frm⟩
theorem Ev.tok {C l ρ H s} {W : Addr → Prop} {t : Nat} (x : St C l ρ H s) : Ev C l W ρ s ρ H { s with toks := t } := ⟨x.tok, ⟨[], by simp, fun _ h => nomatch h⟩, Keep.refl ..⟩

section
variable {C : Cx} {d : Nat} {sc : Scope}

noncomputable def fC (v : V) : FE := fun _ H => .ok v H
theorem simE_none {k pos} : SimE C d sc (.Constant .none k pos) (fC .none) := by
  intro A env l m ρ H s Q E _ _ _ _ st p
  exact wpAny_pure (p ρ _ s (.refl st) .none)
theorem simE_bool {k pos b} : SimE C d sc (.Constant (.bool b) k pos) (fC (.bool b)) := by
  intro A env l m ρ H s Q E _ _ _ _ st p
  exact wpAny_pure (p ρ _ s (.refl st) (.bool b))
theorem simE_int {k pos i} : SimE C d sc (.Constant (.int i) k pos) (fC (.int i)) := by
  intro A env l m ρ H s Q E _ _ _ _ st p
  exact wpAny_mkInt (p ρ _ _ (.tok st) (.int i _))
theorem simE_str {k pos x} : SimE C d sc (.Constant (.str x) k pos) (fC (.str x)) := by
  intro A env l m ρ H s Q E _ _ _ _ st p
  exact wpAny_mkText (p ρ _ _ (.tok st) (.str x _))

noncomputable def fVar (x : Str) : FE := fun m H => match m.lookup x with
  | some v => .ok v H
  | none => .bad
noncomputable def isLoc (sc : Scope) (x : Str) : Bool := !(x == ("__debug__" : Str)) && !(x == ("__classdict__" : Str)) && (match sc.names.lookup x with | some .local => true | some .cell => true | some .free => true | _ => false)
theorem load_var {A : Around} {env : Env} {l : List Env} {m : Fm} {ρ : Rho} {H : Hp} {s : Shared} {Q E : Value → Shared → Prop} {x : Str} {f' : Option Addr} (hx : isLoc sc x = true) (he : env.scope = sc) (fr : FrOk C env l m ρ s.heap) (st : St C l ρ H s)
    (p : PostE C l f' ρ s Q E (fVar x m H)) : wpAny (model C.prog C.w) A (loadName env x) Q E s := by
  subst he
  unfold fVar at p
  cases hm : m.lookup x with
  | none => rw [hm] at p; exact p.elim
  | some v =>
    rw [hm] at p
    unfold isLoc at hx
    simp only [Bool.and_eq_true, Bool.not_eq_true'] at hx
    obtain ⟨⟨_, hcd⟩, hx⟩ := hx
    cases hk : env.scope.names.lookup x with
    | none => rw [hk] at hx; cases hx
    | some k =>
      rw [hk] at hx
      cases k with
      | «local» =>
        obtain ⟨mm, hn, hm'⟩ := fr.loc
        obtain ⟨y, hy, r⟩ := hm' x v hm hk
        exact wpAny_loadName_local fr.kind hk hn hy (p ρ _ s (.refl st) r)
      | cell =>
        obtain ⟨c, y, hc, ic, r⟩ := fr.cel x v hm (.inl hk)
        exact wpAny_loadName_cell fr.kind hk hc ic (p ρ _ s (.refl st) r)
      | free =>
        obtain ⟨c, y, hc, ic, r⟩ := fr.cel x v hm (.inr hk)
        exact wpAny_loadName_free fr.kind hk hc ic (p ρ _ s (.refl st) r) hcd
      | _ => cases hx
theorem simE_var {x pos} (hx : isLoc sc x = true) : SimE C d sc (.Name x pos) (fVar x) := by
  intro A env l m ρ H s Q E _ _ he fr st p
  refine wpAny_Name (load_var hx he fr st p) ?_
  unfold isLoc at hx
  simp only [Bool.and_eq_true, Bool.not_eq_true'] at hx
  exact hx.1.1

noncomputable def isGlob (sc : Scope) (x : Str) : Bool := !(x == ("__debug__" : Str)) && (match sc.names.lookup x with | some .globalImplicit => true | _ => false)
/-- a global name, its value -/
theorem name_glob {A : Around} {env : Env} {l : List Env} {m : Fm} {ρ : Rho} {H : Hp} {s : Shared} {Q E : Value → Shared → Prop} {x : Str} {pos : Pos} {y : Value} (O : C.Ok) (hx : isGlob sc x = true) (hy : C.mg x = some y) (he : env.scope = sc) (fr : FrOk C env l m ρ s.heap) (st : St C l ρ H s)
    (p : Q y s) : wpAny (model C.prog C.w) A (eval (.Name x pos) env) Q E s := by
  subst he
  unfold isGlob at hx
  simp only [Bool.and_eq_true, Bool.not_eq_true'] at hx
  obtain ⟨hd, hx⟩ := hx
  refine wpAny_Name ?_ hd
  have hk : env.kindOf x = some .globalImplicit := by
    unfold Env.kindOf
    cases q : env.scope.names.lookup x with
    | none => rw [q] at hx; cases hx
    | some k => rw [q] at hx; cases k <;> first | rfl | cases hx
  rw [loadName_read fr.kind hk]
  exact Calls.loadGlobal_global (mg := C.mg) (by rw [fr.glob]; exact O.g.keeps st.old) hy p
theorem name_bi {A : Around} {env : Env} {l : List Env} {m : Fm} {ρ : Rho} {H : Hp} {s : Shared} {Q E : Value → Shared → Prop} {x : Str} {pos : Pos} {y : Value} (O : C.Ok) (hx : isGlob sc x = true) (hn : C.mg x = none) (hy : C.mb x = some y) (he : env.scope = sc) (fr : FrOk C env l m ρ s.heap) (st : St C l ρ H s)
    (p : Q y s) : wpAny (model C.prog C.w) A (eval (.Name x pos) env) Q E s := by
  subst he
  unfold isGlob at hx
  simp only [Bool.and_eq_true, Bool.not_eq_true'] at hx
  obtain ⟨hd, hx⟩ := hx
  refine wpAny_Name ?_ hd
  have hk : env.kindOf x = some .globalImplicit := by
    unfold Env.kindOf
    cases q : env.scope.names.lookup x with
    | none => rw [q] at hx; cases hx
    | some k => rw [q] at hx; cases k <;> first | rfl | cases hx
  rw [loadName_read fr.kind hk]
  exact Calls.loadGlobal_builtin (mg := C.mg) (mb := C.mb) (by rw [fr.glob]; exact O.g.keeps st.old) hn (by rw [fr.bui]; exact O.b.keeps st.old) hy p
/-- a global that holds a value of ours -/
noncomputable def GlobV (C : Cx) (x : Str) (v : V) : Prop := ∃ y, C.mg x = some y ∧ ∀ (ρ : Rho) h, (∀ p ∈ ρ, Free C.h0 p.1 ∧ Free C.h0 p.2) → (∀ b o, C.h0.get? b = some o → h.get? b = some o) → RepV ρ h v y
theorem simE_glob {x pos v} (O : C.Ok) (hx : isGlob sc x = true) (g : GlobV C x v) : SimE C d sc (.Name x pos) (fC v) := by
  intro A env l m ρ H s Q E _ _ he fr st p
  obtain ⟨y, hy, r⟩ := g
  exact name_glob O hx hy he fr st (p ρ _ s (.refl st) (r _ _ st.hi st.old))

/-- lists of expressions -/
noncomputable def fNil : Fm → Hp → Out (List V) := fun _ H => .ok [] H
noncomputable def fCons (f : FE) (g : Fm → Hp → Out (List V)) : Fm → Hp → Out (List V) := fun m H => (f m H).bind fun v H => (g m H).bind fun vs H => .ok (v :: vs) H
theorem simL_nil : SimL C d sc [] fNil := by
  intro A env l m ρ H s Q E pos _ _ _ _ st p
  exact wpAny_pure (p ρ _ s (.refl st) .nil)
noncomputable def noStar : Expr → Bool
  | .Starred .. => false
  | _ => true
theorem starEach_cons {e : Expr} {r : List Expr} {env : Env} (h : noStar e = true) : starEach (e :: r) env = (false, eval e env) :: starEach r env := by
  cases e <;> first | rfl | cases h
theorem simL_cons {e r f g} (he : noStar e = true) (h1 : SimE C d sc e f) (h2 : SimL C d sc r g) : SimL C d sc (e :: r) (fCons f g) := by
  intro A env l m ρ H s Q E pos hb ha hs fr st p
  rw [starEach_cons he]
  show wpAny _ _ (do let v ← eval e env; let here ← pure [v]; return here ++ (← holding here (spliced (backTo pos (starEach r env))))) Q E s
  refine wpAny_bind (h1 A env l m ρ H s _ E hb ha hs fr st (PostL.bind p fun v H1 ρ1 y s1 _ e1 r1 p1 => ?_))
  refine wpAny_bind (wpAny_pure (wpAny_bind (wpAny_holding (h2 A env l m ρ1 H1 s1 _ E pos hb ha hs (fr.ev st e1) e1.st (PostL.bindL p1 fun vs H2 ρ2 ys s2 _ e2 r2 p2 => ?_)))))
  exact wpAny_pure (p2 ρ2 _ s2 (.refl e2.st) (.cons (r1.ev0 e1.st e2) r2))

/-- a new immutable object -/
theorem Keep.push {W X : Addr → Prop} (h : Heap) (o : Obj) : Keep W X h (h.push o) :=
  ⟨by rw [Heap.size_push]; omega, fun _ o' e _ => ⟨o'.slots, Heap.get?_push_of_some _ e, fun _ => rfl⟩⟩
theorem Rep.keepNo {C ρ H h h'} {X : Addr → Prop} (R : Rep C ρ H h) (k : Keep No X h h') (hx : ∀ b, X b → ¬ muts ρ b) : Rep C ρ H h' := by
  refine ⟨R.len, fun i o p ho hp => ?_, R.apart⟩
  have nt : ∀ b, No b → ¬ muts ρ b → NT h b := fun _ h => h.elim
  have m1 : muts ρ p.1 := ⟨p, List.mem_of_getElem? hp, .inl rfl⟩
  have m2 : muts ρ p.2 := ⟨p, List.mem_of_getElem? hp, .inr rfl⟩
  have ex : ∀ {b o}, muts ρ b → h.get? b = some o → h'.get? b = some o := fun m g => k.exact g id fun x => hx _ x m
  have r := R.obj i o p ho hp
  cases o with
  | list xs =>
    obtain ⟨e, n, items, sl, g, rs⟩ := r
    exact ⟨e, n, items, sl, ex m1 g, rs.keep k nt fun _ _ z => z⟩
  | dictS kvs =>
    obtain ⟨e, vs, ⟨o, es, ep, g, x⟩, rs⟩ := r
    exact ⟨e, vs, ⟨o, es, ep, ex m1 g, x⟩, rs.keep k nt fun _ _ z => z⟩
  | dictI kvs =>
    obtain ⟨e, vs, ⟨o, es, ep, g, x⟩, rs⟩ := r
    exact ⟨e, vs, ⟨o, es, ep, ex m1 g, x⟩, rs.keep k nt fun _ _ z => z⟩
  | dictT kvs =>
    obtain ⟨e, o, es, ep, xs, g, x, ks, rs⟩ := r
    exact ⟨e, o, es, ep, xs, ex m1 g, x, fun y hy => (ks y hy).keep k nt fun _ _ z => z, rs.keep k nt fun _ _ z => z⟩
  | opq =>
    obtain ⟨e, o, g, x⟩ := r
    exact ⟨e, o, ex m1 g, x⟩
  | frz o xs =>
    obtain ⟨e, g, items, n, c, dd, rs⟩ := r
    exact ⟨e, ex m1 g, items, n, c, dd, rs.keep k nt fun _ _ z => z⟩
  | inst K fs =>
    obtain ⟨⟨sl, g⟩, od, es, n, gd, hd, sk, sz, nm⟩ := r
    exact ⟨⟨sl, ex m1 g⟩, od, es, n, ex m2 gd, hd, sk, sz, fun x => ⟨fun v hv => let ⟨y, hy, r⟩ := (nm x).1 v hv; ⟨y, hy, r.keep k nt fun _ _ z => z⟩, (nm x).2⟩⟩
/-- nothing of the store is written; new objects may come -/
theorem Ev.keepNo {C l ρ H} {s s' : Shared} {W : Addr → Prop} (st : St C l ρ H s) (k : Keep No (inFr l) s.heap s'.heap) (hr : s'.gens = s.gens ∧ s'.drawn = s.drawn ∧ s'.os = s.os) : Ev C l W ρ s ρ H s' := by
  have hf : s'.heap.FunFrames C.h0 l := st.frs.of_keeps fun b o g hd => let ⟨sl, g', _⟩ := k.2 b o g id; ⟨_, g', rfl⟩
  refine ⟨⟨fun b o e => ?_, st.hi, Nat.le_trans st.lo k.1, ⟨hr.1.trans st.rest.1, hr.2.1.trans st.rest.2.1, hr.2.2.trans st.rest.2.2⟩, st.rep.keepNo k st.frm, hf, st.frm⟩, ⟨[], by simp, fun _ h => nomatch h⟩, k.mono fun _ h => h.elim⟩
  refine k.exact (st.old b o e) id fun x => ?_
  obtain ⟨env, he, hL⟩ := x
  have := (st.frs.mem (List.mem_filterMap.mpr ⟨env, he, hL⟩)).1
  rw [this] at e; cases e

theorem RepO.lt {C ρ h o a d} (r : RepO C ρ h o a d) : a < h.objs.size ∧ d < h.objs.size := by
  cases o with
  | list xs => obtain ⟨rfl, _, _, _, g, _⟩ := r; exact ⟨Heap.lt_size g, Heap.lt_size g⟩
  | dictS kvs => obtain ⟨rfl, _, ⟨_, _, _, g, _⟩, _⟩ := r; exact ⟨Heap.lt_size g, Heap.lt_size g⟩
  | dictI kvs => obtain ⟨rfl, _, ⟨_, _, _, g, _⟩, _⟩ := r; exact ⟨Heap.lt_size g, Heap.lt_size g⟩
  | dictT kvs => obtain ⟨rfl, _, _, _, _, g, _⟩ := r; exact ⟨Heap.lt_size g, Heap.lt_size g⟩
  | opq => obtain ⟨rfl, _, g, _⟩ := r; exact ⟨Heap.lt_size g, Heap.lt_size g⟩
  | frz o xs => obtain ⟨rfl, g, _⟩ := r; exact ⟨Heap.lt_size g, Heap.lt_size g⟩
  | inst K fs => obtain ⟨⟨_, g⟩, _, _, _, gd, _⟩ := r; exact ⟨Heap.lt_size g, Heap.lt_size gd⟩
theorem St.has {C l ρ H s} (st : St C l ρ H s) {p : Addr × Addr} {i : Nat} (hp : ρ[i]? = some p) : ∃ o, H[i]? = some o ∧ RepO C ρ s.heap o p.1 p.2 := by
  have hlt : i < H.length := by rw [← st.rep.len]; exact (List.getElem?_eq_some_iff.mp hp).1
  exact ⟨_, List.getElem?_eq_getElem hlt, st.rep.obj i _ p (List.getElem?_eq_getElem hlt) hp⟩
theorem St.muts_lt {C l ρ H s} (st : St C l ρ H s) {b : Addr} (m : muts ρ b) : b < s.heap.objs.size := by
  obtain ⟨p, hp, e⟩ := m
  obtain ⟨i, hi⟩ := List.getElem?_of_mem hp
  obtain ⟨o, _, r⟩ := st.has hi
  rcases e with rfl | rfl
  · exact r.lt.1
  · exact r.lt.2
theorem St.fresh {C l ρ H s} (st : St C l ρ H s) {b : Addr} (hb : s.heap.objs.size ≤ b) : ¬ muts ρ b := fun m => absurd (st.muts_lt m) (Nat.not_lt.mpr hb)

noncomputable def fTup (g : Fm → Hp → Out (List V)) : FE := fun m H => (g m H).bind fun vs H => if vs.length ≤ 1000000 then .ok (.tup vs) H else .bad
theorem simE_tuple {es k pos g} (h : SimL C d sc es g) : SimE C d sc (.Tuple es k pos) (fTup g) := by
  intro A env l m ρ H s Q E hb ha hs fr st p
  refine Tuple_ (h A env l m ρ H s _ E pos hb ha hs fr st (PostE.bindL p fun vs H1 ρ1 ys s1 _ e1 r1 p1 => ?_))
  by_cases hl : vs.length ≤ 1000000
  · rw [if_pos hl] at p1
    have hy : ys.length ≤ 1000000 := by rw [← r1.length]; exact hl
    refine wpAny_newObj_type (p1 ρ1 _ _ (.keepNo e1.st (Keep.push ..) ⟨rfl, rfl, rfl⟩) ?_) (by show ys.toArray.size ≤ sizeLine; rw [List.size_toArray, sizeLine_eq]; omega)
    refine .tup (e1.st.fresh (Nat.le_refl _)) (Heap.get?_push_size _ rfl) rfl rfl ?_
    exact r1.keep (Keep.push (W := No) (X := No) _ _) (fun _ h => h.elim) fun _ _ z => z
  · rw [if_neg hl] at p1; exact p1.elim
end
end MP
namespace MP

theorem Names.keep {ρ ρ' : Rho} {h h' : Heap} {W X : Addr → Prop} {fs mm} (k : Keep W X h h') (nt : ∀ b, W b → ¬ muts ρ b → NT h b) (pre : ∀ (l : Nat) (p : Addr × Addr), ρ[l]? = some p → ρ'[l]? = some p) (nm : ∀ b, b < h.objs.size → ¬ muts ρ b → ¬ muts ρ' b) (n : Names ρ h fs mm) : Names ρ' h' fs mm :=
  fun x => ⟨fun v hv => let ⟨y, hy, r⟩ := (n x).1 v hv; ⟨y, hy, r.keep k nt pre nm⟩, (n x).2⟩

/-- an object of the store lives on where its own addresses are not written -/
theorem RepO.keep {C : Cx} {ρ ρ' : Rho} {h h' : Heap} {W X : Addr → Prop} {o a d} (k : Keep W X h h') (nt : ∀ b, W b → ¬ muts ρ b → NT h b) (pre : ∀ (l : Nat) (p : Addr × Addr), ρ[l]? = some p → ρ'[l]? = some p) (nm : ∀ b, b < h.objs.size → ¬ muts ρ b → ¬ muts ρ' b)
    (ha : ¬ W a ∧ ¬ X a) (hd : ¬ W d ∧ ¬ X d) (r : RepO C ρ h o a d) : RepO C ρ' h' o a d := by
  cases o with
  | list xs =>
    obtain ⟨e, n, items, sl, g, rs⟩ := r
    exact ⟨e, n, items, sl, k.exact g ha.1 ha.2, rs.keep k nt pre nm⟩
  | dictS kvs =>
    obtain ⟨e, vs, ⟨o, es, ep, g, x⟩, rs⟩ := r
    exact ⟨e, vs, ⟨o, es, ep, k.exact g ha.1 ha.2, x⟩, rs.keep k nt pre nm⟩
  | dictI kvs =>
    obtain ⟨e, vs, ⟨o, es, ep, g, x⟩, rs⟩ := r
    exact ⟨e, vs, ⟨o, es, ep, k.exact g ha.1 ha.2, x⟩, rs.keep k nt pre nm⟩
  | dictT kvs =>
    obtain ⟨e, o, es, ep, xs, g, x, ks, rs⟩ := r
    exact ⟨e, o, es, ep, xs, k.exact g ha.1 ha.2, x, fun y hy => (ks y hy).keep k nt pre nm, rs.keep k nt pre nm⟩
  | opq =>
    obtain ⟨e, o, g, x⟩ := r
    exact ⟨e, o, k.exact g ha.1 ha.2, x⟩
  | frz o xs =>
    obtain ⟨e, g, items, n, c, dd, rs⟩ := r
    exact ⟨e, k.exact g ha.1 ha.2, items, n, c, dd, rs.keep k nt pre nm⟩
  | inst K fs =>
    obtain ⟨⟨sl, g⟩, od, es, n, gd, hdd, sk, sz, nms⟩ := r
    exact ⟨⟨sl, k.exact g ha.1 ha.2⟩, od, es, n, k.exact gd hd.1 hd.2, hdd, sk, sz, nms.keep k nt pre nm⟩

theorem St.at {C l ρ H s} (st : St C l ρ H s) {o : AObj} {i : Nat} (ho : H[i]? = some o) : ∃ p, ρ[i]? = some p ∧ RepO C ρ s.heap o p.1 p.2 := by
  have hlt : i < ρ.length := by rw [st.rep.len]; exact (List.getElem?_eq_some_iff.mp ho).1
  exact ⟨_, List.getElem?_eq_getElem hlt, st.rep.obj i _ _ ho (List.getElem?_eq_getElem hlt)⟩
theorem St.fr_lt {C l ρ H s} (st : St C l ρ H s) {b : Addr} (x : inFr l b) : C.h0.get? b = none ∧ b < s.heap.objs.size := by
  obtain ⟨env, he, hL⟩ := x
  obtain ⟨h1, o, h2, _⟩ := st.frs.mem (List.mem_filterMap.mpr ⟨env, he, hL⟩)
  exact ⟨h1, Heap.lt_size h2⟩

set_option tactic.hygienic true in
theorem Ev.grow {C l ρ H} {s s' : Shared} {W : Addr → Prop} {o : AObj} {p : Addr × Addr} (st : St C l ρ H s) (k : Keep No (inFr l) s.heap s'.heap) (hr : s'.gens = s.gens ∧ s'.drawn = s.drawn ∧ s'.os = s.os)
    (hp : s.heap.objs.size ≤ p.1 ∧ s.heap.objs.size ≤ p.2) (r : RepO C (ρ ++ [p]) s'.heap o p.1 p.2) : Ev C l W ρ s (ρ ++ [p]) (H ++ [o]) s' := by
  have pre : ∀ (i : Nat) (q : Addr × Addr), ρ[i]? = some q → (ρ ++ [p])[i]? = some q := fun i q e => by rw [List.getElem?_append_left (List.getElem?_eq_some_iff.mp e).1]; exact e
  have x := Ev.keepNo (W := W) st k hr
  have nmG : ∀ b, b < s.heap.objs.size → ¬ muts ρ b → ¬ muts (ρ ++ [p]) b := fun b hb n q => by
    rcases muts_append.mp q with q | ⟨q, hq, z⟩
    · exact n q
    · rw [List.mem_singleton.mp hq] at z
      rcases z with rfl | rfl
      · exact absurd hb (Nat.not_lt.mpr hp.1)
      · exact absurd hb (Nat.not_lt.mpr hp.2)
  have lt : ∀ {i : Nat} {q : Addr × Addr}, ρ[i]? = some q → q.1 < s.heap.objs.size ∧ q.2 < s.heap.objs.size := fun hq => let ⟨_, _, r⟩ := st.has hq; r.lt
  have at_ : ∀ {i : Nat} {q : Addr × Addr}, (ρ ++ [p])[i]? = some q → (ρ[i]? = some q) ∨ (i = ρ.length ∧ q = p) := fun {i q} e => by
    rw [List.getElem?_append] at e
    split at e
    · exact .inl e
    · rename_i hi
      have hlt := (List.getElem?_eq_some_iff.mp e).1
      simp only [List.length_singleton] at hlt
      have : i = ρ.length := by omega
      subst this
      simp at e
      exact .inr ⟨rfl, e.symm⟩
  refine ⟨⟨x.st.old, fun q hq => ?_, x.st.lo, x.st.rest, ⟨by simp [st.rep.len], fun i o' q ho hq => ?_, fun i j q q' hij hq hq' => ?_⟩, x.st.frs, fun b hb hm => ?_⟩, ⟨[p], rfl, fun q hq => by rw [List.mem_singleton.mp hq]; exact hp⟩, x.keep⟩
  · rcases List.mem_append.mp hq with hq | hq
    · exact st.hi q hq
    · rw [List.mem_singleton.mp hq]; exact ⟨.ge (Nat.le_trans st.lo hp.1), .ge (Nat.le_trans st.lo hp.2)⟩
  · rcases at_ hq with hq | ⟨rfl, rfl⟩
    · have hlt : i < H.length := by rw [← st.rep.len]; exact (List.getElem?_eq_some_iff.mp hq).1
      rw [List.getElem?_append_left hlt] at ho
      exact (st.rep.obj i o' q ho hq).keep k (fun _ h => h.elim) pre nmG ⟨id, fun z => st.frm _ z ⟨q, List.mem_of_getElem? hq, .inl rfl⟩⟩ ⟨id, fun z => st.frm _ z ⟨q, List.mem_of_getElem? hq, .inr rfl⟩⟩
    · rw [st.rep.len] at ho
      simp at ho
      subst ho
      exact r
  · rcases at_ hq with h1 | ⟨rfl, rfl⟩
    · rcases at_ hq' with h2 | ⟨rfl, e2⟩
      · exact st.rep.apart i j q q' hij h1 h2
      · subst e2; have := lt h1; exact ⟨Nat.ne_of_lt (Nat.lt_of_lt_of_le this.1 hp.1), Nat.ne_of_lt (Nat.lt_of_lt_of_le this.1 hp.2), Nat.ne_of_lt (Nat.lt_of_lt_of_le this.2 hp.1), Nat.ne_of_lt (Nat.lt_of_lt_of_le this.2 hp.2)⟩
    · rcases at_ hq' with hq' | ⟨rfl, _⟩
      · have := lt hq'; exact ⟨Nat.ne_of_gt (Nat.lt_of_lt_of_le this.1 hp.1), Nat.ne_of_gt (Nat.lt_of_lt_of_le this.2 hp.1), Nat.ne_of_gt (Nat.lt_of_lt_of_le this.1 hp.2), Nat.ne_of_gt (Nat.lt_of_lt_of_le this.2 hp.2)⟩
      · exact absurd rfl hij
  · rcases muts_append.mp hm with hm | ⟨q, hq, e⟩
    · exact st.frm b hb hm
    · rw [List.mem_singleton.mp hq] at e
      have := (st.fr_lt hb).2
      rcases e with rfl | rfl
      · exact absurd this (Nat.not_lt.mpr hp.1)
      · exact absurd this (Nat.not_lt.mpr hp.2)

theorem frames_keep {h h' base : Heap} {l : List Env} : h.FunFrames base l → (∀ b o, inFr l b → h.get? b = some o → ∃ o', h'.get? b = some o' ∧ o'.data = o.data) → h'.FunFrames base l := by
  induction l with
  | nil => intro _ _; exact trivial
  | cons env r ih =>
    intro q k
    obtain ⟨hk, ⟨L, o, hf, hn, ho, hd⟩, hr⟩ := q
    obtain ⟨o', ho', e⟩ := k L o ⟨env, .head _, hf⟩ ho
    exact ⟨hk, ⟨L, o', hf, hn, ho', fun vs => e ▸ hd vs⟩, ih hr fun b o z g => k b o (z.elim fun env' z => ⟨env', .tail _ z.1, z.2⟩) g⟩

theorem Keep.sameBut {X : Addr → Prop} {a : Addr} {h h' : Heap} (x : Heap.SameBut a h h') : Keep (fun b => b = a) X h h' :=
  ⟨Nat.le_of_eq x.1.symm, fun b o e n => ⟨o.slots, (x.2 b n).trans e, fun _ => rfl⟩⟩

/-- one object of the store is changed -/
theorem Ev.put {C l ρ H} {s s' : Shared} {W : Addr → Prop} {i : Nat} {o : AObj} {p : Addr × Addr} {a : Addr} (st : St C l ρ H s) (hp : ρ[i]? = some p) (ha : a = p.1 ∨ a = p.2) (k : Keep (fun b => b = a) (inFr l) s.heap s'.heap)
    (hr : s'.gens = s.gens ∧ s'.drawn = s.drawn ∧ s'.os = s.os) (r : RepO C ρ s'.heap o p.1 p.2) : Ev C l W ρ s ρ (H.set i o) s' := by
  have hm : muts ρ a := ⟨p, List.mem_of_getElem? hp, ha⟩
  have nt : ∀ b, b = a → ¬ muts ρ b → NT s.heap b := fun b e n => absurd (e ▸ hm) n
  refine ⟨⟨fun b o e => ?_, st.hi, Nat.le_trans st.lo k.1, ⟨hr.1.trans st.rest.1, hr.2.1.trans st.rest.2.1, hr.2.2.trans st.rest.2.2⟩, ⟨by simp [st.rep.len], fun j o' q ho hq => ?_, st.rep.apart⟩, ?_, st.frm⟩, ⟨[], by simp, fun _ h => nomatch h⟩, k.mono fun b e => .inl (e ▸ hm)⟩
  · refine k.exact (st.old b o e) (fun z => ?_) fun x => ?_
    · have := st.hi p (List.mem_of_getElem? hp)
      rcases ha with ha | ha <;> (rw [z, ha] at e)
      · exact this.1.no e
      · exact this.2.no e
    · have := (st.fr_lt x).1
      rw [this] at e; cases e
  · by_cases hj : i = j
    · subst hj
      have hlt : i < H.length := by rw [← st.rep.len]; exact (List.getElem?_eq_some_iff.mp hq).1
      rw [List.getElem?_set_self hlt] at ho
      cases ho
      rw [hp] at hq; cases hq
      exact r
    · rw [List.getElem?_set_ne hj] at ho
      have ap := st.rep.apart i j p q hj hp hq
      have m1 : ¬ inFr l q.1 := fun z => st.frm _ z ⟨q, List.mem_of_getElem? hq, .inl rfl⟩
      have m2 : ¬ inFr l q.2 := fun z => st.frm _ z ⟨q, List.mem_of_getElem? hq, .inr rfl⟩
      refine (st.rep.obj j o' q ho hq).keep k nt (fun _ _ z => z) (fun _ _ z => z) ⟨fun z => ?_, m1⟩ ⟨fun z => ?_, m2⟩
      · rcases ha with ha | ha
        · exact ap.1 (ha.symm.trans z.symm)
        · exact ap.2.2.1 (ha.symm.trans z.symm)
      · rcases ha with ha | ha
        · exact ap.2.1 (ha.symm.trans z.symm)
        · exact ap.2.2.2 (ha.symm.trans z.symm)
  · refine frames_keep st.frs fun b o hb g => ?_
    obtain ⟨sl, g', _⟩ := k.2 b o g fun z => st.frm b hb (z ▸ hm)
    exact ⟨_, g', rfl⟩
end MP
namespace MP

theorem wpAny_keepM {α : Type} {M : Model} {A : Around} {vs : List Value} {m : Sem α} {Q : α → Shared → Prop} {E : Value → Shared → Prop} {s : Shared} (h : wpAny M A m Q E s) : wpAny M A (m.keep vs) Q E s :=
  fun Γ p hΓ => by rw [Sem.wp_keep]; exact h Γ p hΓ
theorem wpAny_oper {M : Model} {A : Around} {vs : List Value} {m : Sem Value} {Q : Value → Shared → Prop} {E : Value → Shared → Prop} {s : Shared} (h : wpAny M A m Q E s) : wpAny M A (operate vs m) Q E s :=
  fun Γ p hΓ => by rw [Sem.wp_operate]; exact h Γ p hΓ

theorem starEach_all : ∀ {es : List Expr} {env : Env}, es.all noStar = true → ((starEach es env).any (·.1)) = false ∧ (starEach es env).length = es.length
  | [], _, _ => ⟨rfl, rfl⟩
  | e :: r, env, h => by
    rw [List.all_cons, Bool.and_eq_true] at h
    rw [starEach_cons h.1]
    obtain ⟨a, b⟩ := starEach_all (env := env) h.2
    exact ⟨by simpa using a, by simp [b]⟩
theorem backTo_any {pos : Pos} {ts : List (Bool × Sem Value)} : (backTo pos ts).any (·.1) = ts.any (·.1) := by
  unfold backTo
  rw [List.any_map]
  rfl

theorem evalArgs_any {M : Model} {A : Around} {f : Value} {l : List (Bool × Sem Value)} {Q : Args → Shared → Prop} {E : Value → Shared → Prop} {s : Shared} (hl : l.any (·.1) = false)
    (h : wpAny M A (spliced l) (fun vs s1 => Q ⟨vs, []⟩ s1) E s) : wpAny M A (evalArgs f true l []) Q E s := by
  unfold evalArgs
  dsimp only
  split
  · simp at hl
  · refine wpAny_bind (wpAny_mono h (fun vs s1 q => ?_) fun _ _ z => z)
    refine wpAny_bind (wpAny_pure ?_)
    dsimp only
    refine wpAny_holding ?_
    rw [if_pos (by rfl)]
    refine wpAny_bind (wpAny_pure ?_)
    exact wpAny_bind (wpAny_pure (wpAny_pure q))

theorem callWith_any {M : Model} {A : Around} {env : Env} {pos : Pos} {f : Value} {first : List Value} {es : List Expr} {h₀ : Heap} {k : Keeper} {Q : Value → Shared → Prop} {E : Value → Shared → Prop} {s : Shared} (hs : es.all noStar = true) (hk : Looks M h₀ (keeperOf f) k)
    (h : wpAny M A (spliced (backTo pos (starEach es env))) (fun vs s1 => (∀ b o, h₀.get? b = some o → s1.heap.get? b = some o) ∧ wpAny M A (call f (first ++ vs) []) Q E s1) E s) :
    wpAny M A (callWith pos f first (backTo pos (starEach es env)) []) Q E s := by
  obtain ⟨h1, h2⟩ := starEach_all (env := env) hs
  unfold callWith
  refine wpAny_bind (wpAny_holding (evalArgs_any (by rw [backTo_any]; exact h1) (wpAny_mono h (fun vs s1 hv => ?_) fun _ _ z => z)))
  obtain ⟨hold, hc⟩ := hv
  refine wpAny_bind (wpAny_standAt ?_)
  have e2 : ((backTo pos (starEach es env)).any (·.1) || ([] : List (Option Str × Sem Value)).any (·.1.isNone)) = false := by rw [backTo_any, h1]; rfl
  dsimp only
  rw [e2]
  refine wpAny_bind (hk A _ E s1 hold ?_)
  have fin : ∀ v s', Q v s' → wpAny M A (do holding [v] point; pure v) Q E s' := fun v s' q => wpAny_bind (wpAny_holding (wpAny_point (wpAny_pure q)))
  have c : ∀ t : Sem Value, wpAny M A t (fun v s' => Q v s') E s1 → wpAny M A (do let r ← t; holding [r] point; pure r) Q E s1 := fun t ht => wpAny_bind (wpAny_mono ht fin fun _ _ z => z)
  cases k with
  | frame =>
    dsimp only
    split
    · exact c _ hc
    · exact c _ (wpAny_keepM hc)
  | boundFrame =>
    dsimp only
    split
    · exact c _ hc
    · exact c _ (wpAny_keepM hc)
  | machine => exact c _ hc
  | caller => exact c _ (wpAny_oper hc)

noncomputable def NameIs (C : Cx) (sc : Scope) (x : Str) (f : Value) : Prop := isGlob sc x = true ∧ (C.mg x = some f ∨ (C.mg x = none ∧ C.mb x = some f))
noncomputable def Keeps (C : Cx) (f : Value) : Prop := ∃ k, Looks (model C.prog C.w) C.h0 (keeperOf f) k
theorem keeps_builtin {C i} : Keeps C (.builtin i) := ⟨.machine, Looks.of_pure rfl⟩

section
variable {C : Cx} {d : Nat} {sc : Scope}

/-- a call of a global name -/
noncomputable def fCall (F : List V → Hp → Out V) (g : Fm → Hp → Out (List V)) : FE := fun m H => (g m H).bind F
theorem simE_call {x np es pos f F g} (O : C.Ok) (hn : NameIs C sc x f) (hk : Keeps C f) (hs : es.all noStar = true) (hF : SimF C d f F) (h : SimL C d sc es g) : SimE C d sc (.Call (.Name x np) es [] pos) (fCall F g) := by
  intro A env l m ρ H s Q E hb ha he fr st p
  refine wpAny_Call_ofName ?_
  have rest : wpAny (model C.prog C.w) A (callWith pos f [] (backTo pos (starEach es env)) (backToKw pos (keywordEach [] env))) Q E s := by
    obtain ⟨k, hk⟩ := hk
    refine callWith_any hs hk (h A env l m ρ H s _ E pos hb ha he fr st (PostE.bindL p fun vs H1 ρ1 ys s1 _ e1 r1 p1 => ?_))
    exact ⟨e1.st.old, hF A l vs ys ρ1 H1 s1 Q E hb ha e1.st r1 p1.any⟩
  obtain ⟨hg, hn | ⟨h1, h2⟩⟩ := hn
  · exact name_glob O hg hn he fr st rest
  · exact name_bi O hg h1 h2 he fr st rest

/-- a method's call: what is bound hangs on the object -/
noncomputable def SimM (C : Cx) (d : Nat) (name : Str) (K : AObj → Bool) (f : Value) : Prop :=
  ∀ (A : Around) (l : List Env) (ρ : Rho) (H : Hp) (s : Shared) (i : Nat) (o : AObj) (a : Addr) (pl : Sem Bool) (Q : Value × List Value → Shared → Prop) (E : Value → Shared → Prop),
    Bud d A → A.frames = some l → St C l ρ H s → H[i]? = some o → K o = true → (∃ d, ρ[i]? = some (a, d)) → Q (f, [.ref a]) s → wpAny (model C.prog C.w) A (getMethod (.ref a) name pl) Q E s
noncomputable def fMeth (K : AObj → Bool) (F : List V → Hp → Out V) (fo : FE) (g : Fm → Hp → Out (List V)) : FE := fun m H => (fo m H).bind fun ov H1 => match ov with
  | .ref i => (match H1[i]? with
    | some o => if K o = true then (g m H1).bind fun vs H2 => F (ov :: vs) H2 else .bad
    | none => .bad)
  | _ => .bad
set_option tactic.hygienic true in
theorem simE_meth {o name apos es pos K f F fo g} (hsim : SimE C d sc o fo) (hM : SimM C d name K f) (hk : Keeps C f) (hs : es.all noStar = true) (hF : SimF C d f F) (h : SimL C d sc es g)
    (hbase : ∀ env, attributeBase o name env (eval o env) = eval o env) (hfew : decide (es.length < 30) = true) (hline : (apos.endLine == pos.line) = true) : SimE C d sc (.Call (.Attribute o name apos) es [] pos) (fMeth K F fo g) := by
  intro A env l m ρ H s Q E hb ha he fr st p
  rw [arm_eval_Call, hbase]
  refine wpAny_bind (hsim A env l m ρ H s _ E hb ha he fr st (PostE.bind p fun ov H1 ρ1 y s1 _ e1 r1 p1 => ?_))
  refine wpAny_bind (wpAny_standAt ?_)
  cases r1 with
  | ref hp =>
    rename_i i a dd zz
    dsimp only at p1
    cases ho : H1[i]? with
    | none => rw [ho] at p1; exact p1.elim
    | some ob =>
      rw [ho] at p1
      dsimp only at p1
      by_cases hK : K ob = true
      · rw [if_pos hK] at p1
        unfold methodCall
        obtain ⟨h1, h2⟩ := starEach_all (env := env) hs
        have few : methodCallForm (es.length + ([] : List Keyword).length) (backTo pos (starEach es env)) (backToKw pos (keywordEach [] env)) = true := by
          unfold methodCallForm
          have : (backTo pos (starEach es env)).all (fun x => !x.1) = true := by
            rw [List.all_eq_not_any_not]
            simp only [Bool.not_not]
            rw [backTo_any, h1]; rfl
          rw [this]
          simp only [List.length_nil, Nat.add_zero, Bool.true_and]
          show (true && decide (es.length + _ < 30)) = true
          simp only [Bool.true_and]
          exact hfew
        rw [few]
        refine wpAny_bind (wpAny_holding ?_)
        unfold calleeOf
        rw [if_pos rfl]
        refine hM A l ρ1 H1 s1 i ob a _ _ E hb ha e1.st ho hK ⟨_, hp⟩ ?_
        have hpos : methodCallPos true o env apos pos = pure pos := by
          unfold methodCallPos
          rw [hline]; rfl
        refine wpAny_bind (wpAny_of_eq hpos ?_)
        obtain ⟨k, hk⟩ := hk
        refine callWith_any hs hk (h A env l m ρ1 H1 s1 _ E pos hb ha he (fr.ev st e1) e1.st (PostE.bindL p1 fun vs H2 ρ2 ys s2 _ e2 r2 p2 => ?_))
        exact ⟨e2.st.old, hF A l _ _ ρ2 H2 s2 Q E hb ha e2.st (.cons (.ref (e2.look _ _ hp)) r2) p2.any⟩
      · rw [if_neg hK] at p1; exact p1.elim
  | _ => exact p1.elim
end
end MP
namespace MP

theorem handed_rep {ρ h v y} (r : RepV ρ h v y) : handedIn y = true := by cases r <;> rfl

theorem look_names {name : Str} {o : Obj} {es : Array DictEntry} {n : Nat} (hd : o.data = .dict es n) (hk : StrKeys es) : lookIn name o = some (nsFind es name) := by
  unfold lookIn
  rw [hd]
  dsimp only
  have e1 : nsFind es name = (es.toList.find? (·.key.isStr name)).map (·.val) := by
    unfold nsFind findBy
    rw [Array.find?_toList]
  rw [e1]
  cases q : es.toList.find? (·.key.isStr name) with
  | some e => rfl
  | none =>
    dsimp only
    rw [if_neg]
    · rfl
    · intro hx
      obtain ⟨e, he, hr⟩ := List.any_eq_true.mp hx
      obtain ⟨x, t, hk'⟩ := hk e (Array.mem_toList_iff.mp he)
      unfold DictEntry.refKey at hr
      rw [hk'] at hr
      cases hr

theorem nsSet_own {M : Model} {A : Around} {E : Value → Shared → Prop} {s : Shared} {d : Addr} {o : Obj} {es : Array DictEntry} {ep : Nat} {name : Str} {v : Value} {Q : Unit → Shared → Prop}
    (ho : s.heap.get? d = some o) (hd : o.data = .dict es ep) (hk : StrKeys es)
    (h : ∀ h' o' es' ep', h'.get? d = some o' → o'.data = .dict es' ep' → StrKeys es' → es'.size ≤ es.size + 1 → (∀ x, nsFind es' x = if x = name then some v else nsFind es x) → Heap.SameBut d s.heap h' → Q () { s with heap := h', toks := s.toks + 1 }) :
    wpAny M A (nsSet d name v) Q E s := by
  intro Γ p hΓ
  simp only [nsSet, strHash, Sem.wp_bind', Sem.wp_cmd_ask, Sem.wp_pure', Sem.wp_cmd_mkText]
  rw [Sem.wp_loadPart_of M Γ _ p { s with toks := s.toks + 1 } (o := o) _ ho]
  have hany : es.any (·.refKey) = false := by
    rw [Array.any_eq_false']; intro e he; obtain ⟨n, t, h⟩ := hk e he; simp [DictEntry.refKey, h]
  simp only [hd, aRefKeyMayBeTheName_eq, aRefKeyMayBeTheNameByArray, hany, Bool.and_false, Bool.false_eq_true, if_false, Sem.wp_cmd_updatePart]
  obtain ⟨c, dd, dt, sl⟩ := o
  dsimp only at hd
  subst hd
  cases hi : es.findIdx? (·.key.isStr name) with
  | some i =>
    refine ⟨by rw [ho]; rfl, h _ _ _ _ (Heap.get?_update_self _ ho (by simp only [Obj.putName_eq, Obj.putNameByArray, hi]; rfl)) (by simp only [Obj.putName_eq, Obj.putNameByArray, hi]; rfl) (hk.modify i v) (by simp) (fun x => ?_) (Heap.SameBut.update ..)⟩
    exact findBy_modify (fun n v => v.isStr n) Value.isStr_inj es name x v i hi
  | none =>
    refine ⟨by rw [ho]; rfl, h _ _ _ _ (Heap.get?_update_self _ ho (by simp only [Obj.putName_eq, Obj.putNameByArray, hi]; rfl)) (by simp only [Obj.putName_eq, Obj.putNameByArray, hi]; rfl) (hk.push _ _ _ _) (by simp) (fun x => ?_) (Heap.SameBut.update ..)⟩
    exact findBy_push (fun n v => v.isStr n) es name x _ _ v (fun y => by
      show (name == y) = decide (y = name)
      by_cases h : y = name
      · subst h; simp
      · have : ¬ name = y := fun e => h e.symm
        simp [h, this]) hi

/-- a class of the text as we use it -/
structure ClsOk (C : Cx) (Kc : Addr) : Prop where
  get : plainGet C.K Kc (Str.ofString "") = true
  dict : hasDictIn C.K Kc = true
  over : plainOver C.K Kc = true
  set : findIn C.K (.ref Kc) "__setattr__" = some (some (.builtin "object.__setattr__"))

theorem inst_at {C : Cx} {ρ h Kc fs a d} (r : RepO C ρ h (.inst Kc fs) a d) : ∃ sl o es n, PySem.W.InstAt h a ⟨.ref Kc, some d, .plain, sl⟩ Kc (some o) ∧ h.get? d = some o ∧ o.data = .dict es n ∧ StrKeys es ∧ es.size ≤ fs.length ∧ Names ρ h fs (nsFind es) := by
  obtain ⟨⟨sl, g⟩, o, es, n, gd, hd, sk, sz, nm⟩ := r
  exact ⟨sl, o, es, n, ⟨g, rfl, rfl, gd⟩, gd, hd, sk, sz, nm⟩

section
variable {C : Cx} {d : Nat} {sc : Scope}

noncomputable def fAttr (Kc : Addr) (name : Str) (f : FE) : FE := fun m H => (f m H).bind fun v H => match v with
  | .ref i => (match H[i]? with
    | some (.inst c fs) => if c = Kc then (match fs.lookup name with | some v => .ok v H | none => .bad) else .bad
    | _ => .bad)
  | _ => .bad
set_option tactic.hygienic true in
theorem simE_attr {e name pos Kc f} (O : C.Ok) (hc : ClsOk C Kc) (hf : findIn C.K (.ref Kc) name = some none) (h : SimE C d sc e f) (hbase : ∀ env, attributeBase e name env (eval e env) = eval e env) :
    SimE C d sc (.Attribute e name pos) (fAttr Kc name f) := by
  intro A env l m ρ H s Q E hb ha he fr st p
  refine Attribute_any_ ?_ (by
    show (do
      let o ← attributeBase e name env (eval e env)
      standAt pos.atName
      let r ← holding [o] (getAttr o name true)
      letTemporaryGo e o r
      pure r) = _
    rw [hbase])
  refine h A env l m ρ H s _ E hb ha he fr st (PostE.bind p fun v H1 ρ1 y s1 _ e1 r1 p1 => ?_)
  cases r1 with
  | ref hp =>
    rename_i i a dd zz
    dsimp only at p1
    obtain ⟨o, ho, ro⟩ := e1.st.has hp
    rw [ho] at p1
    cases o with
    | inst c fs =>
      dsimp only at p1
      by_cases hcc : c = Kc
      · rw [if_pos hcc] at p1
        subst hcc
        cases q : fs.lookup name with
        | none => rw [q] at p1; exact p1.elim
        | some v =>
          rw [q] at p1
          obtain ⟨sl, od, es, n, I, gd, hd, sk, sz, nm⟩ := inst_at ro
          obtain ⟨y, hy, ry⟩ := (nm name).1 v q
          refine get_value (O.kin.keeps e1.st.old) I (plainGet_of hc.get).1 (findObj_own hc.dict hf rfl (by rw [look_names hd sk, hy])) (handed_rep ry) ?_
          exact p1 ρ1 y _ (.tok e1.st) ry
      · rw [if_neg hcc] at p1; exact p1.elim
    | _ => exact p1.elim
  | _ => exact p1.elim

noncomputable def isI (Kc : Addr) (name : Str) : AObj → Bool
  | .inst c fs => c == Kc && (fs.lookup name).isNone
  | _ => false
theorem simM_inst {name Kc f} (O : C.Ok) (hc : ClsOk C Kc) (hf : findIn C.K (.ref Kc) name = some (some (.ref f))) (ht : isFn C.K (.ref f) = true) : SimM C d name (isI Kc name) (.ref f) := by
  intro A l ρ H s i o a pl Q E hb ha st ho hK ⟨dd, hp⟩ q
  have ro := st.rep.obj i o _ ho hp
  cases o with
  | inst c fs =>
    unfold isI at hK
    simp only [Bool.and_eq_true, beq_iff_eq, Option.isNone_iff_eq_none] at hK
    obtain ⟨rfl, hn⟩ := hK
    obtain ⟨sl, od, es, n, I, gd, hd, sk, sz, nm⟩ := inst_at ro
    have hl := (nm name).2 hn
    exact method_fn (O.kin.keeps st.old) I (plainGet_of hc.get).1 (plainGet_of hc.get).2 hf (beq_iff_eq.mp ht) (by show (lookIn name od).map _ = _; rw [look_names hd sk, hl]; rfl) q
  | _ => cases hK

/-- own places are no tuples -/
theorem FrOk.nt {env l m ρ h} (fr : FrOk C env l m ρ h) {b : Addr} (hb : ownA env b) : NT h b := by
  intro o g c xs n dd
  rcases hb with rfl | ⟨x, hx⟩
  · obtain ⟨mm, ⟨o', es, ep, g', d', _⟩, _⟩ := fr.loc
    rw [g'] at g; cases g; rw [d'] at dd; cases dd
  · obtain ⟨ov, o', g', d'⟩ := fr.celX x b hx
    rw [g'] at g; cases g; rw [d'] at dd; cases dd
theorem RepV.evS {C l env m ρ s ρ₁ H H₁ s₁ v y} (r : RepV ρ s.heap v y) (st : St C l ρ H s) (fr : FrOk C env l m ρ s.heap) (x : Ev C l (ownA env) ρ s ρ₁ H₁ s₁) : RepV ρ₁ s₁.heap v y :=
  r.ev st x fun _ hb => fr.nt hb
theorem RepVs.evS {C l env m ρ s ρ₁ H H₁ s₁ v y} (r : RepVs ρ s.heap v y) (st : St C l ρ H s) (fr : FrOk C env l m ρ s.heap) (x : Ev C l (ownA env) ρ s ρ₁ H₁ s₁) : RepVs ρ₁ s₁.heap v y :=
  r.ev st x fun _ hb => fr.nt hb

theorem Ev.own {l ρ H} {s s' : Shared} {env : Env} {b : Addr} (st : St C l ρ H s) (hb : ownA env b) (nm : ¬ muts ρ b) (nt : NT s.heap b) (hi : C.h0.objs.size ≤ b) (k : Keep (fun c => c = b) No s.heap s'.heap)
    (ex : ∃ o', s'.heap.get? b = some o' ∧ ∀ vs, o'.data ≠ .fields vs) (hr : s'.gens = s.gens ∧ s'.drawn = s.drawn ∧ s'.os = s.os) : Ev C l (ownA env) ρ s ρ H s' := by
  refine ⟨⟨fun a o e => k.exact (st.old a o e) (fun z => ?_) id, st.hi, Nat.le_trans st.lo k.1, ⟨hr.1.trans st.rest.1, hr.2.1.trans st.rest.2.1, hr.2.2.trans st.rest.2.2⟩, ⟨st.rep.len, fun i o p ho hp => ?_, st.rep.apart⟩, ?_, st.frm⟩,
    ⟨[], by simp, fun _ h => nomatch h⟩, ⟨k.1, fun a o e n => ?_⟩⟩
  · have := Heap.lt_size e
    rw [z] at this
    exact absurd this (Nat.not_lt.mpr hi)
  · exact (st.rep.obj i o p ho hp).keep k (fun c e _ => by rw [e]; exact nt) (fun _ _ z => z) (fun _ _ z => z) ⟨fun z => nm ⟨p, List.mem_of_getElem? hp, .inl z.symm⟩, id⟩ ⟨fun z => nm ⟨p, List.mem_of_getElem? hp, .inr z.symm⟩, id⟩
  · have go : ∀ {l' : List Env}, s.heap.FunFrames C.h0 l' → s'.heap.FunFrames C.h0 l' := by
      intro l'
      induction l' with
      | nil => intro _; trivial
      | cons e0 r ih =>
        rintro ⟨hk, ⟨L, o, hf, hn, ho, hd⟩, hr⟩
        by_cases hL : L = b
        · obtain ⟨o', g', hd'⟩ := ex
          exact ⟨hk, ⟨L, o', hf, hn, hL ▸ g', hd'⟩, ih hr⟩
        · exact ⟨hk, ⟨L, o, hf, hn, k.exact ho hL id, hd⟩, ih hr⟩
    exact go st.frs
  · exact ⟨o.slots, k.exact e (fun z => n (.inr (z ▸ hb))) id, fun _ => rfl⟩

theorem PostS.mono {C env l ρ s Q Q' E o} (p : PostS C env l ρ s Q E o) (h : ∀ F s', Q F s' → Q' F s') : PostS C env l ρ s Q' E o := by
  cases o with
  | ok f m H => exact fun ρ' y s' e fr r => h _ _ (p ρ' y s' e fr r)
  | exc m H => exact p
  | bad => exact p

/-- what a target takes -/
noncomputable def SimA (C : Cx) (d : Nat) (sc : Scope) (t : Expr) (f : V → FS) : Prop :=
  ∀ (A : Around) (env : Env) (l : List Env) (m : Fm) (ρ : Rho) (H : Hp) (s : Shared) (v : V) (y : Value) (Q : Unit → Shared → Prop) (E : Value → Shared → Prop),
    Bud d A → A.frames = some l → env.scope = sc → FrOk C env l m ρ s.heap → St C l ρ H s → RepV ρ s.heap v y → PostS C env l ρ s (fun F s' => F = .next → Q () s') E (f v m H) → wpAny (model C.prog C.w) A (assign t env y) Q E s

noncomputable def fSet (x : Str) : V → FS := fun v m H => .ok .next ((x, v) :: m) H
noncomputable def isStore (sc : Scope) (x : Str) : Bool := match sc.names.lookup x with | some .local => true | some .cell => true | _ => false

theorem store_var {A : Around} {env : Env} {l : List Env} {m : Fm} {ρ : Rho} {H : Hp} {s : Shared} {v : V} {y : Value} {x : Str} {Q : Unit → Shared → Prop} {E : Value → Shared → Prop} (hx : isStore sc x = true) (he : env.scope = sc) (fr : FrOk C env l m ρ s.heap) (st : St C l ρ H s) (r : RepV ρ s.heap v y)
    (q : ∀ s', Ev C l (ownA env) ρ s ρ H s' → FrOk C env l ((x, v) :: m) ρ s'.heap → Q () s') : wpAny (model C.prog C.w) A (storeName env x y) Q E s := by
  subst he
  have lk : ∀ z w, ((x, v) :: m).lookup z = some w → (z = x ∧ w = v) ∨ (z ≠ x ∧ m.lookup z = some w) := fun z w hz => by
    rw [List.lookup_cons] at hz
    by_cases hzx : z = x
    · subst hzx; simp at hz; exact .inl ⟨rfl, hz.symm⟩
    · have : (z == x) = false := beq_eq_false_iff_ne.mpr hzx
      rw [this] at hz
      exact .inr ⟨hzx, hz⟩
  unfold isStore at hx
  cases hk : env.scope.names.lookup x with
  | none => rw [hk] at hx; cases hx
  | some k =>
    rw [hk] at hx
    cases k with
    | «local» =>
      obtain ⟨mm, hn, hm⟩ := fr.loc
      refine wpAny_storeName_local hk hn (fun h' hn' hs => ?_) (by rw [fr.kind]; rfl)
      have e1 : Ev C l (ownA env) ρ s ρ H { s with heap := h', toks := s.toks + 1 } := .own st (.inl rfl) fr.hiL.2 (fr.nt (.inl rfl)) fr.hiL.1 (.sameBut hs) (by obtain ⟨o', es, ep, g, d', _⟩ := hn'; exact ⟨o', g, fun vs z => by rw [d'] at z; cases z⟩) ⟨rfl, rfl, rfl⟩
      have ncell : ∀ z c, env.cells.lookup z = some c → c ≠ env.locals := fun z c hz => by
        rintro rfl
        obtain ⟨ov, o', g', d'⟩ := fr.celX z _ hz
        obtain ⟨o2, es, ep, g2, d2, _⟩ := hn
        rw [g2] at g'; cases g'; rw [d2] at d'; cases d'
      refine q _ e1 ⟨fr.kind, fr.glob, fr.bui, fr.top, ⟨_, hn', fun z w hz hkz => ?_⟩, fun z w hz hkz => ?_, fun z c hz => ?_, fr.celI, fr.hiL, fr.hiC, fr.celE⟩
      · rcases lk z w hz with ⟨rfl, rfl⟩ | ⟨hne, hz⟩
        · exact ⟨y, if_pos rfl, r.evS st fr e1⟩
        · obtain ⟨y', hy', r'⟩ := hm z w hz hkz
          exact ⟨y', (if_neg hne).trans hy', r'.evS st fr e1⟩
      · rcases lk z w hz with ⟨rfl, rfl⟩ | ⟨hne, hz⟩
        · exact absurd (hkz.elim (fun e => by unfold Env.kindOf at e; rw [hk] at e; cases e) fun e => by unfold Env.kindOf at e; rw [hk] at e; cases e) id
        · obtain ⟨c, y', hc', ic, r'⟩ := fr.cel z w hz hkz
          exact ⟨c, y', hc', ic.sameBut hs (ncell z c hc'), r'.evS st fr e1⟩
      · obtain ⟨ov, ic⟩ := fr.celX z c hz
        exact ⟨ov, ic.sameBut hs (ncell z c hz)⟩
    | cell =>
      obtain ⟨c, hcc⟩ := Option.isSome_iff_exists.mp (fr.celE x hk)
      obtain ⟨ov, ic⟩ := fr.celX x c hcc
      refine wpAny_storeName_cell fr.kind hk hcc ic fun h' ic' hs => ?_
      have e1 : Ev C l (ownA env) ρ s ρ H { s with heap := h' } := .own st (.inr ⟨x, hcc⟩) (fr.hiC x c hcc).2 (fr.nt (.inr ⟨x, hcc⟩)) (fr.hiC x c hcc).1 (.sameBut hs) (by obtain ⟨o', g, d'⟩ := ic'; exact ⟨o', g, fun vs z => by rw [d'] at z; cases z⟩) ⟨rfl, rfl, rfl⟩
      obtain ⟨mm, hn, hm⟩ := fr.loc
      have ncell : env.locals ≠ c := by
        rintro rfl
        obtain ⟨o', g', d'⟩ := ic
        obtain ⟨o2, es, ep, g2, d2, _⟩ := hn
        rw [g2] at g'; cases g'; rw [d2] at d'; cases d'
      refine q _ e1 ⟨fr.kind, fr.glob, fr.bui, fr.top, ⟨mm, hn.sameBut hs ncell, fun z w hz hkz => ?_⟩, fun z w hz hkz => ?_, fun z c' hz => ?_, fr.celI, fr.hiL, fr.hiC, fr.celE⟩
      · rcases lk z w hz with ⟨rfl, rfl⟩ | ⟨hne, hz⟩
        · unfold Env.kindOf at hkz; rw [hk] at hkz; cases hkz
        · obtain ⟨y', hy', r'⟩ := hm z w hz hkz
          exact ⟨y', hy', r'.evS st fr e1⟩
      · rcases lk z w hz with ⟨rfl, rfl⟩ | ⟨hne, hz⟩
        · exact ⟨c, y, hcc, ic', r.evS st fr e1⟩
        · obtain ⟨c', y', hc', ic2, r'⟩ := fr.cel z w hz hkz
          exact ⟨c', y', hc', ic2.sameBut hs (fun e => hne (fr.celI z x c' hc' (e ▸ hcc))), r'.evS st fr e1⟩
      · by_cases hzc : c' = c
        · subst hzc; exact ⟨_, ic'⟩
        · obtain ⟨ov', ic2⟩ := fr.celX z c' hz
          exact ⟨ov', ic2.sameBut hs hzc⟩
    | _ => cases hx

theorem simA_name {x pos} (hx : isStore sc x = true) : SimA C d sc (.Name x pos) (fSet x) := by
  intro A env l m ρ H s v y Q E hb ha he fr st r p
  exact wpAny_assign_Name (store_var hx he fr st r fun s' e1 fr' => p ρ .next s' e1 fr' .next rfl)

/-- an attribute of an own object is set -/
noncomputable def fSetAttr (Kc : Addr) (name : Str) (fo : FE) : V → FS := fun v m H => (fo m H).bindS m fun ov H1 => match ov with
  | .ref i => (match H1[i]? with
    | some (.inst c fs) => if c = Kc ∧ fs.length < 900 then .ok .next m (H1.set i (.inst c ((name, v) :: fs))) else .bad
    | _ => .bad)
  | _ => .bad
theorem lookup_put {fs : List (Str × V)} {name x : Str} {v : V} : ((name, v) :: fs).lookup x = if x = name then some v else fs.lookup x := by
  rw [List.lookup_cons]
  by_cases h : x = name
  · subst h; simp
  · have : (x == name) = false := beq_eq_false_iff_ne.mpr h
    rw [this, if_neg h]
theorem setAttr_own {A : Around} {l : List Env} {ρ : Rho} {H : Hp} {s : Shared} {i : Nat} {c : Addr} {fs : List (Str × V)} {a dd : Addr} {name : Str} {v : V} {y : Value} {Q : Unit → Shared → Prop} {E : Value → Shared → Prop} (O : C.Ok) (hc : ClsOk C c) (hf : findIn C.K (.ref c) name = some none)
    (st : St C l ρ H s) (ho : H[i]? = some (.inst c fs)) (hp : ρ[i]? = some (a, dd)) (hl : fs.length < 900) (r : RepV ρ s.heap v y)
    (q : ∀ s' , Ev C l No ρ s ρ (H.set i (.inst c ((name, v) :: fs))) s' → Q () s') : wpAny (model C.prog C.w) A (setAttr (.ref a) name y) Q E s := by
  have ro := st.rep.obj i _ _ ho hp
  obtain ⟨sl, od, es, n, I, gd, hd, sk, sz, nm⟩ := inst_at ro
  obtain ⟨cd, hcd, hdict⟩ := any_some hc.dict
  refine set_plain (O.kin.keeps st.old) I hc.set ?_
  refine osa_open (s := { s with toks := s.toks + 1 }) (r := none) (O.kin.keeps st.old) I hc.over (by unfold takerIn; rw [hf]; rfl) fun b => ?_
  refine wpAny_bind (wpAny_pure (wpAny_bind (wpAny_bind (wpAny_loadPart I.at_ (wpAny_bind (looks_clsIn (O.kin.keeps st.old) hcd _ _ _ _ (fun _ _ e => e) ?_))))))
  rw [hdict]
  refine wpAny_pure (a := some dd) (wpAny_bind (wpAny_pure (wpAny_bind ?_)))
  refine nsSet_own (s := { s with toks := s.toks + 1 }) gd hd sk fun h' o' es' ep' g' hd' sk' sz' hfi hs => ?_
  refine wpAny_bind (wpAny_lookBehind g' (by rw [hd']; exact pastItsLine_dict (by rw [sizeLine_eq]; omega)) ?_)
  refine wpAny_pure ?_
  refine q { s with heap := h', toks := s.toks + 1 + 1 } ?_
  have hne : a ≠ dd := by
    rintro rfl
    have := I.at_
    dsimp only at this gd
    rw [this] at gd; cases gd; cases hd
  have k : Keep (fun b => b = dd) (inFr l) s.heap h' := .sameBut hs
  have nt : ∀ b, b = dd → ¬ muts ρ b → NT s.heap b := fun b e n => absurd ⟨_, List.mem_of_getElem? hp, .inr e⟩ n
  refine Ev.put (p := (a, dd)) (a := dd) st hp (.inr rfl) k ⟨rfl, rfl, rfl⟩ ⟨⟨sl, (hs.2 a hne).trans I.at_⟩, o', es', ep', g', hd', sk', by simp only [List.length_cons]; omega, fun x => ?_⟩
  rw [hfi, lookup_put]
  by_cases hx : x = name
  · rw [if_pos hx, if_pos hx]
    exact ⟨fun w hw => by cases hw; exact ⟨y, rfl, r.keep k nt (fun _ _ z => z)⟩, fun z => by cases z⟩
  · rw [if_neg hx, if_neg hx]
    exact ⟨fun w hw => let ⟨y', hy', r'⟩ := (nm x).1 w hw; ⟨y', hy', r'.keep k nt (fun _ _ z => z)⟩, (nm x).2⟩
set_option tactic.hygienic true in
theorem simA_attr {e name pos Kc fo} (O : C.Ok) (hc : ClsOk C Kc) (hf : findIn C.K (.ref Kc) name = some none) (h : SimE C d sc e fo) : SimA C d sc (.Attribute e name pos) (fSetAttr Kc name fo) := by
  intro A env l m ρ H s v y Q E hb ha he fr st r p
  show wpAny _ _ (do
    let ov ← holding [y] (eval e env)
    standAt pos.atName
    holding [y, ov] (setAttr ov name y)
    release [y, ov] []) _ _ _
  refine wpAny_bind (wpAny_holding (h A env l m ρ H s _ E hb ha he fr st (PostS.bindE p st fr fun ov H1 ρ1 oy s1 _ e1 fr1 r1 p1 => ?_)))
  refine wpAny_bind (wpAny_standAt ?_)
  cases r1 with
  | ref hp =>
    rename_i i a dd zz
    dsimp only at p1
    cases ho : H1[i]? with
    | none => rw [ho] at p1; exact p1.elim
    | some ob =>
      rw [ho] at p1
      cases ob with
      | inst c fs =>
        dsimp only at p1
        by_cases hcc : c = Kc ∧ fs.length < 900
        · rw [if_pos hcc] at p1
          obtain ⟨rfl, hl⟩ := hcc
          refine wpAny_bind (wpAny_holding (setAttr_own O hc hf e1.st ho hp hl (r.ev0 st e1) fun s' e2 => ?_))
          refine wpAny_release ?_
          exact p1 ρ1 .next s' e2.no (fr1.ev e1.st e2) .next rfl
        · rw [if_neg hcc] at p1; exact p1.elim
      | _ => exact p1.elim
  | _ => exact p1.elim

/-- statements -/
noncomputable def fAsgE (fe : FE) (fa : V → FS) : FS := fun m H => (fe m H).bindS m fun v H1 => fa v m H1
theorem simS_assign {t e pos fe fa} (h1 : SimE C d sc e fe) (h2 : SimA C d sc t fa) (hst : ∀ env, (assignEach [t] env).map (·.2) = [assign t env]) (hs : ∀ env, swapsWith e (some t) pos.line env = pure false) (hw : ∀ env, swappedStores [t] e env = pure none) :
    SimS C d sc (.Assign [t] e pos) (fAsgE fe fa) := by
  intro A env l m ρ H s Q E hb ha he fr st p
  refine wpAny_Assign_stores (h1 A env l m ρ H s _ E hb ha he fr st (PostS.bindE p st fr fun v H1 ρ1 y s1 _ e1 fr1 r1 p1 => ?_)) (hs env) (hw env)
  rw [hst]
  show wpAny _ _ (assign t env y) _ _ _
  exact h2 A env l m ρ1 H1 s1 v y _ E hb ha he fr1 e1.st r1 (p1.mono fun F s' q e => by subst e; exact q)
end
end MP
namespace MP

noncomputable def FW (n : Nat) (h : Heap) (b : Addr) : Prop := n ≤ b ∧ ∃ o vs, h.get? b = some o ∧ o.data = .fields vs
theorem FW.nt {n h b} (x : FW n h b) : NT h b := by
  obtain ⟨_, o, vs, g, d⟩ := x
  intro o' g' _ xs k d'
  rw [g] at g'; cases g'; rw [d] at d'; cases d'
theorem keepF_trans {n : Nat} {X : Addr → Prop} {h₁ h₂ h₃ : Heap} (x : Keep (FW n h₁) X h₁ h₂) (y : Keep (FW n h₂) X h₂ h₃) : Keep (FW n h₁) X h₁ h₃ := by
  refine ⟨Nat.le_trans x.1 y.1, fun b o e w => ?_⟩
  obtain ⟨sl, e1, q1⟩ := x.2 b o e w
  obtain ⟨sl2, e2, q2⟩ := y.2 b _ e1 (by
    rintro ⟨hn, o', vs, g, d⟩
    rw [e1] at g; cases g
    exact w ⟨hn, o, vs, e, d⟩)
  exact ⟨sl2, e2, fun z => (q2 z).trans (q1 z)⟩

theorem noF_of {h : Heap} {b : Addr} {o : Obj} {n : Nat} (g : h.get? b = some o) (hd : ∀ vs, o.data ≠ .fields vs) : ¬ FW n h b := by
  rintro ⟨_, o', vs, g', d'⟩
  rw [g] at g'; cases g'; exact hd _ d'
theorem RepO.noF {C ρ h o a d} (r : RepO C ρ h o a d) (n : Nat) : ¬ FW n h a ∧ ¬ FW n h d := by
  have two : ∀ {o : Obj}, h.get? a = some o → (∀ vs, o.data ≠ .fields vs) → a = d → ¬ FW n h a ∧ ¬ FW n h d := fun g hd e => ⟨noF_of g hd, e ▸ noF_of g hd⟩
  cases o with
  | list xs => obtain ⟨e, _, _, _, g, _⟩ := r; exact two g (fun vs z => by cases z) e
  | dictS kvs => obtain ⟨e, _, ⟨_, _, _, g, _, hd, _⟩, _⟩ := r; exact two g (fun vs z => by rw [hd] at z; cases z) e
  | dictI kvs => obtain ⟨e, _, ⟨_, _, _, g, _, hd, _⟩, _⟩ := r; exact two g (fun vs z => by rw [hd] at z; cases z) e
  | dictT kvs => obtain ⟨e, _, _, _, _, g, ⟨_, hd, _⟩, _⟩ := r; exact two g (fun vs z => by rw [hd] at z; cases z) e
  | opq => obtain ⟨e, _, g, _, _, rfl⟩ := r; exact two g (fun vs z => by cases z) e
  | frz o xs => obtain ⟨e, g, _, _, _, hd, _⟩ := r; exact two g (fun vs z => by rw [hd] at z; cases z) e
  | inst K fs => obtain ⟨⟨_, g⟩, _, _, _, gd, hd, _⟩ := r; exact ⟨noF_of g (fun vs z => by cases z), noF_of gd (fun vs z => by rw [hd] at z; cases z)⟩

theorem FunFrames.noF {base h : Heap} {l : List Env} (hl : h.FunFrames base l) {b : Addr} (hb : inFr l b) (n : Nat) : ¬ FW n h b := by
  obtain ⟨env, he, hL⟩ := hb
  obtain ⟨_, o, g, d⟩ := hl.mem (List.mem_filterMap.mpr ⟨env, he, hL⟩)
  rintro ⟨_, o', vs, g', d'⟩
  rw [g] at g'; cases g'; exact d _ d'

section
variable {C : Cx} {d : Nat} {sc : Scope}

theorem Ev.thru {l ρ0 ρ H} {s0 s s' : Shared} {W : Addr → Prop} (x : Ev C l W ρ0 s0 ρ H s) (k : Keep (FW s0.heap.objs.size s.heap) (inFr l) s.heap s'.heap) (hl : C.h0.objs.size ≤ s0.heap.objs.size) (hr : s'.gens = s.gens ∧ s'.drawn = s.drawn ∧ s'.os = s.os) : Ev C l W ρ0 s0 ρ H s' := by
  refine ⟨⟨fun b o e => k.exact (x.st.old b o e) (fun z => ?_) fun z => ?_, x.st.hi, Nat.le_trans x.st.lo k.1, ⟨hr.1.trans x.st.rest.1, hr.2.1.trans x.st.rest.2.1, hr.2.2.trans x.st.rest.2.2⟩, ⟨x.st.rep.len, fun i o p ho hp => ?_, x.st.rep.apart⟩, ?_, x.st.frm⟩,
    x.pre, x.keep.trans k (fun b hb w => ?_) fun _ h => h⟩
  · have := Heap.lt_size e
    exact absurd (Nat.lt_of_lt_of_le this hl) (Nat.not_lt.mpr z.1)
  · have := (x.st.fr_lt z).1
    rw [this] at e; cases e
  · have r := x.st.rep.obj i o p ho hp
    have nf := r.noF s0.heap.objs.size
    exact r.keep k (fun _ w _ => w.nt) (fun _ _ z => z) (fun _ _ z => z) ⟨nf.1, fun z => x.st.frm _ z ⟨p, List.mem_of_getElem? hp, .inl rfl⟩⟩ ⟨nf.2, fun z => x.st.frm _ z ⟨p, List.mem_of_getElem? hp, .inr rfl⟩⟩
  · refine frames_keep x.st.frs fun b o hb g => ?_
    obtain ⟨sl, g', _⟩ := k.2 b o g (FunFrames.noF x.st.frs hb _)
    exact ⟨_, g', rfl⟩
  · exact absurd hb (Nat.not_lt.mpr w.1)
theorem FrOk.thru {env l m ρ h h'} {n : Nat} (x : FrOk C env l m ρ h) (k : Keep (FW n h) (inFr l) h h') : FrOk C env l m ρ h' := by
  have nt : ∀ b, FW n h b → ¬ muts ρ b → NT h b := fun _ w _ => w.nt
  have cellK : ∀ c ov, h.IsCell c ov → h'.IsCell c ov := by
    rintro c ov ⟨o, g, d⟩
    obtain ⟨sl, g', _⟩ := k.2 c o g (fun ⟨_, o', vs, g2, d2⟩ => by rw [g] at g2; cases g2; rw [d] at d2; cases d2)
    exact ⟨_, g', d⟩
  refine ⟨x.kind, x.glob, x.bui, x.top, ?_, ?_, fun y c hc => let ⟨ov, ic⟩ := x.celX y c hc; ⟨ov, cellK c _ ic⟩, x.celI, x.hiL, x.hiC, x.celE⟩
  · obtain ⟨mm, ⟨o, es, ep, g, d, kk, f⟩, hm⟩ := x.loc
    obtain ⟨sl, g', _⟩ := k.2 _ o g (fun ⟨_, o', vs, g2, d2⟩ => by rw [g] at g2; cases g2; rw [d] at d2; cases d2)
    exact ⟨mm, ⟨_, es, ep, g', d, kk, f⟩, fun y v hv hk => let ⟨z, hz, r⟩ := hm y v hv hk; ⟨z, hz, r.keep k nt (fun _ _ z => z)⟩⟩
  · intro y v hv hk
    obtain ⟨c, z, hc, ic, r⟩ := x.cel y v hv hk
    exact ⟨c, z, hc, cellK c _ ic, r.keep k nt (fun _ _ z => z)⟩

theorem frameOf_top {A : Around} {M : Model} {E : Value → Shared → Prop} {s : Shared} {base : Heap} {env e0 : Env} {r : List Env} {L : Addr} {Q : Value → Shared → Prop} (hfr : A.frames = some (e0 :: r)) (hl : s.heap.FunFrames base (e0 :: r)) (h0 : e0.frame = some L) (hf : env.frame = some L)
    (h : ∀ h', Heap.SlotsOnly ((e0 :: r).filterMap (·.frame)) s.heap h' → Q (.ref L) { s with heap := h' }) : wpAny M A (frameOf env) Q E s := by
  unfold PySem.frameOf
  refine wpAny_bind (wpAny_frameEnvs hfr ?_)
  have hdw : ((e0 :: r).dropWhile fun x => x.frame != env.frame) = e0 :: r := by simp [List.dropWhile, h0, hf]
  rw [hdw]
  unfold frameObject
  refine wpAny_bind (wpAny_bind (wpAny_readyFrames_fun hl fun h₁ hs₁ => wpAny_pure ?_))
  rw [h0]
  exact wpAny_pure (h h₁ hs₁)

theorem inFr_mem {l : List Env} {b : Addr} : b ∈ l.filterMap (·.frame) ↔ inFr l b := by
  rw [List.mem_filterMap]; rfl

/-- an entry is made -/
theorem entry_fly {A : Around} {M : Model} {E : Value → Shared → Prop} {s : Shared} {env e0 : Env} {r : List Env} {L e : Addr} {n : Nat} {oe : Obj} {vs : Array Value} {head : Value} {hadNext : Bool} {Q : Unit → Shared → Prop} (hfr : A.frames = some (e0 :: r)) (hl : s.heap.FunFrames C.h0 (e0 :: r)) (h0 : e0.frame = some L) (hf : env.frame = some L)
    (hn : n ≤ e) (hs : n ≤ s.heap.objs.size) (he : s.heap.get? e = some oe) (hc : oe.cls = .ref C.sf) (hd : oe.data = .fields vs) (hsz : 1 < vs.size)
    (h : ∀ h', FlyAt C n e (rawInt L) h' → Keep (FW n s.heap) (inFr (e0 :: r)) s.heap h' → Q () { s with heap := h' }) :
    wpAny M A (do setField (.ref e) 1 (← EntryCells.newEntry head (← frameOf env) .none (rawInt L) .none (← entryPlaceOf L hadNext))) Q E s := by
  have hene : e ∉ (e0 :: r).filterMap (·.frame) := fun hm => by
    obtain ⟨_, o, ho, hnf⟩ := hl.mem hm
    rw [he] at ho; cases ho; exact hnf vs hd
  refine wpAny_bind (frameOf_top hfr hl h0 hf fun h₁ hs₁ => ?_)
  refine wpAny_bind (wpAny_entryPlaceOf fun pl hpl => ?_)
  unfold EntryCells.newEntry newFields
  refine wpAny_bind (wpAny_newObj_type ?_ (hpl.sizeOk5 _ _ _ _ _))
  have he₁ : h₁.get? e = some oe := (hs₁.2.1 e hene).trans he
  have he₂ := Heap.get?_push_of_some (h := h₁) { cls := .type "traceback", dict := none, data := .fields ([head, .ref L, .none, rawInt L, .none] ++ (if pl.isEmpty then List.replicate 6 Value.none else pl)).toArray } he₁
  refine wpAny_setField he₂ hd hsz (h _ ?_ ?_)
  · have hTe : h₁.objs.size ≠ e := Nat.ne_of_gt (Heap.lt_size he₁)
    have hd₃ := Obj.data_mapFields hd (·.setIfInBounds 1 (Value.ref h₁.objs.size))
    have he₃ := Heap.get?_update_self (Obj.mapFields (·.setIfInBounds 1 (Value.ref h₁.objs.size))) he₂ (Obj.isFreed_of_fields hd₃)
    have hT₃ := (Heap.get?_update_other (h₁.push { cls := .type "traceback", dict := none, data := .fields ([head, .ref L, .none, rawInt L, .none] ++ (if pl.isEmpty then List.replicate 6 Value.none else pl)).toArray })
      (Obj.mapFields (·.setIfInBounds 1 (Value.ref h₁.objs.size))) (Ne.symm hTe)).trans (Heap.get?_push_size h₁ rfl)
    exact ⟨hn, _, _, h₁.objs.size, _, _, by rw [hs₁.1]; exact hs, he₃, (Obj.cls_mapFields _ _).trans hc, hd₃, by simp [hsz], hTe, hT₃, rfl, by simp⟩
  · refine ⟨?_, fun b o g w => ?_⟩
    · rw [Heap.size_after_update, Heap.size_push, hs₁.1]; omega
    · have hbe : b ≠ e := fun q => w (by rw [q]; exact ⟨hn, oe, vs, he, hd⟩)
      obtain ⟨sl, g'⟩ := hs₁.2.2 b o g
      refine ⟨sl, ?_, fun x => ?_⟩
      · rw [Heap.get?_update_other _ _ (Ne.symm hbe)]
        exact Heap.get?_push_of_some _ g'
      · have := hs₁.2.1 b (fun z => x (inFr_mem.mp z))
        rw [this, g] at g'
        cases o; cases g'; rfl

theorem note_fly {A : Around} {M : Model} {E : Value → Shared → Prop} {s : Shared} {env e0 : Env} {r : List Env} {L e : Addr} {n : Nat} {Q : Unit → Shared → Prop} (hfr : A.frames = some (e0 :: r)) (hl : s.heap.FunFrames C.h0 (e0 :: r)) (h0 : e0.frame = some L) (hf : env.frame = some L)
    (hs : n ≤ s.heap.objs.size) (x : Fly C (some L) n e s.heap)
    (h : ∀ h', FlyAt C n e (rawInt L) h' → Keep (FW n s.heap) (inFr (e0 :: r)) s.heap h' → Q () { s with heap := h' }) : wpAny M A (noteFrame (.ref e) env) Q E s := by
  unfold noteFrame
  simp only [hf]
  have again : FlyAt C n e (rawInt L) s.heap → wpAny M A (do
      let head ← field (.ref e) 1
      if head != .none then
        if (← field head 3) == rawInt L then return
        setField head 3 .none
      setField (.ref e) 1 (← EntryCells.newEntry head (← frameOf env) .none (rawInt L) .none (← entryPlaceOf L (head != .none)))) Q E s := by
    intro x
    have x0 := x
    obtain ⟨hn, oe, vs, T, oT, ts, hT, he, hc, hd, h1, hTe, gT, dT, h3⟩ := x
    refine wpAny_bind (wpAny_field he hd h1 ?_)
    rw [if_pos (show (Value.ref T != Value.none) = true from by simp)]
    refine wpAny_bind (wpAny_field gT dT h3 ?_)
    rw [if_pos (show (rawInt L == rawInt L) = true from by simp)]
    exact wpAny_pure (h s.heap x0 (.refl ..))
  rcases x with ⟨hn, oe, vs, he, hc, hd, h1⟩ | x | ⟨L', hL, x⟩
  · refine wpAny_bind (wpAny_field he hd h1 ?_)
    rw [if_neg (by decide)]
    exact entry_fly hfr hl h0 hf hn hs he hc hd (Array.getElem?_eq_some_iff.mp h1).1 h
  · obtain ⟨hn, oe, vs, T, oT, ts, hT, he, hc, hd, h1, hTe, gT, dT, h3⟩ := x
    refine wpAny_bind (wpAny_field he hd h1 ?_)
    rw [if_pos (show (Value.ref T != Value.none) = true from by simp)]
    refine wpAny_bind (wpAny_field gT dT h3 ?_)
    rw [if_neg (show ¬ ((Value.none == rawInt L) = true) from by simp [rawInt])]
    refine wpAny_bind (wpAny_setField gT dT (Array.getElem?_eq_some_iff.mp h3).1 ?_)
    have k : Keep (FW n s.heap) (inFr (e0 :: r)) s.heap (s.heap.update T (Obj.mapFields (·.setIfInBounds 3 Value.none))) :=
      ⟨by rw [Heap.size_after_update]; omega, fun b o g w => ⟨o.slots, by rw [Heap.get?_update_other _ _ (fun q => w (by rw [← q]; exact ⟨hT, oT, ts, gT, dT⟩))]; exact g, fun _ => rfl⟩⟩
    refine entry_fly (s := { s with heap := s.heap.update T (Obj.mapFields (·.setIfInBounds 3 Value.none)) }) hfr (frames_keep hl fun b o hb g => ?_) h0 hf hn (by rw [Heap.size_after_update]; exact hs) ((Heap.get?_update_other _ _ hTe).trans he) hc hd (Array.getElem?_eq_some_iff.mp h1).1 fun h' y k' => h h' y (keepF_trans k k')
    obtain ⟨sl, g', _⟩ := k.2 b o g (FunFrames.noF hl hb _)
    exact ⟨_, g', rfl⟩
  · cases hL
    exact again x

/-- the mark of the newest entry is set -/
theorem flight_fly {A : Around} {M : Model} {E : Value → Shared → Prop} {s : Shared} {X : Addr → Prop} {e : Addr} {n : Nat} {fl : Value} {fr : Option Addr} {Q : Unit → Shared → Prop} (x : FlyAt C n e fl s.heap)
    (h : ∀ h', FlyAt C n e (fr.elim .none fun f => rawInt f) h' → Keep (FW n s.heap) X s.heap h' → Q () { s with heap := h' }) : wpAny M A (setFlight (.ref e) fr) Q E s := by
  obtain ⟨hn, oe, vs, T, oT, ts, hT, he, hc, hd, h1, hTe, gT, dT, h3⟩ := x
  have hsz3 : 3 < ts.size := (Array.getElem?_eq_some_iff.mp h3).1
  unfold setFlight
  refine wpAny_bind (wpAny_field he hd h1 ?_)
  rw [if_pos (show (Value.ref T != Value.none) = true from by simp)]
  refine wpAny_setField gT dT hsz3 (h _ ?_ ?_)
  · exact ⟨hn, oe, vs, T, _, _, hT, (Heap.get?_update_other _ _ hTe).trans he, hc, hd, h1, hTe, Heap.get?_update_self _ gT (Obj.isFreed_of_fields (Obj.data_mapFields dT _)), Obj.data_mapFields dT _, by simp [hsz3]⟩
  · exact ⟨by rw [Heap.size_after_update]; omega, fun b o g w => ⟨o.slots, by rw [Heap.get?_update_other _ _ (fun q => w (by rw [← q]; exact ⟨hT, oT, ts, gT, dT⟩))]; exact g, fun _ => rfl⟩⟩
end
end MP
namespace MP
set_option tactic.hygienic true in
theorem runs_size {M : Model} {Γ : Ctx} {p : Pos} {t : Sem Fin} {fs : List Frame} {s : Shared} {e : End} {s' : Shared} (h : Runs M Γ p t fs s e s') : s.heap.objs.size ≤ s'.heap.objs.size := by
  induction h with
  | update _ _ ih => simpa using ih
  | alloc _ ih => simp only [Heap.size_push] at ih; omega
  | _ => first | exact Nat.le_refl _ | assumption | (rename_i a b; exact Nat.le_trans (by assumption) (by assumption)) | skip
theorem returns_size {M : Model} {Γ : Ctx} {p : Pos} {s : Shared} {r : Result} {s' : Shared} (h : Returns M Γ p s r s') : s.heap.objs.size ≤ s'.heap.objs.size := by
  obtain h := h
  exact runs_size h
theorem wakes_size {M : Model} {Γ : Ctx} {p : Pos} {g : Nat} {r : Resume} {s : Shared} {res : GenResult} {s' : Shared} (h : Wakes M Γ p g r s res s') : s.heap.objs.size ≤ s'.heap.objs.size := by
  unfold Wakes at h
  split at h
  · exact h.elim
  · split at h
    · obtain ⟨e, s1, h1, _, _, rfl⟩ := h
      have := runs_size h1
      exact this
    · obtain ⟨_, rfl⟩ := h; exact Nat.le_refl _
    · obtain ⟨_, rfl⟩ := h; exact Nat.le_refl _
  · obtain ⟨e, s1, h1, _, _, rfl⟩ := h
    have := runs_size h1
    exact this
  · obtain ⟨_, rfl⟩ := h; exact Nat.le_refl _
  · obtain ⟨_, rfl⟩ := h; exact Nat.le_refl _
theorem wp_size {α : Type} {M : Model} {Γ : Ctx} : ∀ (t : Sem α) {Q : α → Pos → Shared → Prop} {E : Value → Pos → Shared → Prop} {p : Pos} {s : Shared} {n : Nat}, n ≤ s.heap.objs.size →
    Sem.wp M Γ t (fun a p' s' => n ≤ s'.heap.objs.size → Q a p' s') (fun e p' s' => n ≤ s'.heap.objs.size → E e p' s') p s → Sem.wp M Γ t Q E p s := by
  intro t
  induction t with
  | pure a => intro Q E p s n hn h; exact h hn
  | raise e => intro Q E p s n hn h; exact h hn
  | load a part k ih => intro Q E p s n hn h; obtain ⟨o, ho, h⟩ := h; exact ⟨o, ho, ih o hn h⟩
  | update a part f k ih => intro Q E p s n hn h; obtain ⟨ho, h⟩ := h; exact ⟨ho, ih () (by simpa using hn) h⟩
  | alloc o k ih => intro Q E p s n hn h; exact ih _ (by simp only [Heap.size_push]; omega) h
  | call c h g l k ih => intro Q E p s n hn h; obtain ⟨r, s', hr, h⟩ := h; exact ⟨r, s', hr, ih r (Nat.le_trans hn (returns_size hr)) h⟩
  | choose src m k ih => intro Q E p s n hn h; exact ⟨h.1, ih _ hn h.2⟩
  | genState g k ih => intro Q E p s n hn h; obtain ⟨st, hs, h⟩ := h; exact ⟨st, hs, ih _ hn h⟩
  | resume g r l k ih => intro Q E p s n hn h; obtain ⟨res, s', hw, h⟩ := h; exact ⟨res, s', hw, ih res (Nat.le_trans hn (wakes_size hw)) h⟩
  | unsupported => intro Q E p s n hn h; exact h
  | finish => intro Q E p s n hn h; exact h
  | register => intro Q E p s n hn h; exact h
  | yield => intro Q E p s n hn h; exact h
  | fork => intro Q E p s n hn h; exact h
  | await => intro Q E p s n hn h; exact h
  | rule tag k ih => intro Q E p s n hn h; exact ih () hn h
  | «at» q k ih => intro Q E p s n hn h; exact ih () hn h
  | loadIfAlive a k ih => intro Q E p s n hn h; exact ih _ hn h
  | point l k ih => intro Q E p s n hn h; exact ih () hn h
  | fresh k ih => intro Q E p s n hn h; exact ih _ hn h
  | ask k ih => intro Q E p s n hn h; exact ih _ hn h
  | os q l k ih => intro Q E p s n hn h; exact ih _ hn h
  | handled o k ih => intro Q E p s n hn h; exact ih _ hn h
  | newGen c k ih => intro Q E p s n hn h; exact ih _ hn h
  | stack k ih => intro Q E p s n hn h; exact ih _ hn h
  | thread k ih => intro Q E p s n hn h; exact ih _ hn h
/-- the heap never shrinks -/
theorem wpAny_sz {α : Type} {M : Model} {A : Around} {t : Sem α} {Q : α → Shared → Prop} {E : Value → Shared → Prop} {s : Shared}
    (h : wpAny M A t (fun a s' => s.heap.objs.size ≤ s'.heap.objs.size → Q a s') (fun e s' => s.heap.objs.size ≤ s'.heap.objs.size → E e s') s) : wpAny M A t Q E s :=
  fun Γ p hΓ => wp_size t (Nat.le_refl _) (h Γ p hΓ)
end MP
namespace MP

section
variable {C : Cx} {d : Nat} {sc : Scope}

theorem FrOk.frame {env l m ρ h} (fr : FrOk C env l m ρ h) (st : ∃ ρ H s, St C l ρ H s) : ∃ e0 r L, l = e0 :: r ∧ e0.frame = some L ∧ env.frame = some L := by
  obtain ⟨ρ, H, s, st⟩ := st
  obtain ⟨e0, r, rfl, e⟩ := fr.top
  have hf := st.frs
  obtain ⟨_, ⟨L, _, hL, _⟩, _⟩ := hf
  exact ⟨e0, r, L, rfl, hL, e ▸ hL⟩

/-- an exception leaves a block of its own code, in the same frame -/
theorem pass_block {A : Around} {env : Env} {l : List Env} {m' : Fm} {ρ ρ2 : Rho} {H' : Hp} {s s2 : Shared} {e : Addr} {E : Value → Shared → Prop} (hA : A.frames = some l) (hl : C.h0.objs.size ≤ s.heap.objs.size) (x : Ev C l (ownA env) ρ s ρ2 H' s2) (fr : FrOk C env l m' ρ2 s2.heap) (fl : Fly C env.frame s.heap.objs.size e s2.heap)
    (p : ∀ ρ' e s', Ev C l (ownA env) ρ s ρ' H' s' → FrOk C env l m' ρ' s'.heap → Fly C env.frame s.heap.objs.size e s'.heap → E (.ref e) s') :
    notedBy (model C.prog C.w) A env (fun e s' => cameBackBy (model C.prog C.w) A env E e s') (.ref e) s2 := by
  obtain ⟨e0, r, L, rfl, h0, hf⟩ := fr.frame ⟨_, _, _, x.st⟩
  rw [hf] at fl
  refine note_fly hA x.st.frs h0 hf x.keep.1 fl fun h' y k => ?_
  have x1 := x.thru (s' := { s2 with heap := h' }) k hl ⟨rfl, rfl, rfl⟩
  have fr1 := fr.thru k
  unfold cameBackBy
  have y0 := y
  obtain ⟨hn, oe, vs, T, oT, ts, hT, he, hc, hd, h1, hTe, gT, dT, h3⟩ := y
  refine wpAny_bind (wpAny_field he hd h1 ?_)
  rw [if_neg (show ¬ ((Value.ref T == Value.none) = true) from by simp)]
  rw [hf]
  refine flight_fly (X := inFr (e0 :: r)) (fr := some L) y0 fun h'' y1 k1 => ?_
  exact p ρ2 e _ (x1.thru k1 hl ⟨rfl, rfl, rfl⟩) (fr1.thru k1) (.inr (.inr ⟨L, hf, y1⟩))

/-- an exception leaves a def -/
theorem pass_def {A : Around} {env : Env} {l : List Env} {s2 : Shared} {e : Addr} {n : Nat} {L : Addr} {Q : Unit → Shared → Prop} {E : Value → Shared → Prop} (hA : A.frames = some (env :: l)) (hf : env.frame = some L) (hl : s2.heap.FunFrames C.h0 (env :: l)) (hs : n ≤ s2.heap.objs.size) (fl : Fly C (some L) n e s2.heap)
    (q : ∀ h', FlyAt C n e .none h' → Keep (FW n s2.heap) (inFr (env :: l)) s2.heap h' → Q () { s2 with heap := h' }) : wpAny (model C.prog C.w) A (leaving env (.ref e)) Q E s2 := by
  unfold leaving
  refine wpAny_bind (note_fly hA hl hf hf hs fl fun h' y k => ?_)
  refine flight_fly (X := inFr (env :: l)) (fr := none) y fun h'' y1 k1 => ?_
  exact q h'' y1 (keepF_trans k k1)

/-- blocks -/
noncomputable def fSkip : FS := fun m H => .ok .next m H
noncomputable def fSeq (f g : FS) : FS := fun m H => (f m H).bind fun fl m1 H1 => match fl with
  | .next => g m1 H1
  | fl => .ok fl m1 H1
theorem simB_nil : SimB C d sc [] fSkip := by
  intro A env l m ρ H s Q E hb ha he fr st p
  exact wpAny_execs_nil (p ρ _ s (.refl st) fr .next)
theorem simB_cons {st r f g} (h1 : SimS C d sc st f) (h2 : SimB C d sc r g) : SimB C d sc (st :: r) (fSeq f g) := by
  intro A env l m ρ H s Q E hb ha he fr st p
  refine wpAny_execs_cons (h1 A env l m ρ H s _ E hb ha he fr st (PostS.bind p fun fl m1 H1 ρ1 F s1 _ e1 fr1 rf p1 => ?_))
  cases rf with
  | next => exact h2 A env l m1 ρ1 H1 s1 Q E hb ha he fr1 e1.st p1
  | cont => exact p1 ρ1 _ s1 (.refl e1.st) fr1 .cont
  | brk => exact p1 ρ1 _ s1 (.refl e1.st) fr1 .brk
  | ret r => exact p1 ρ1 _ s1 (.refl e1.st) fr1 (.ret r)

noncomputable def fRet (f : FE) : FS := fun m H => (f m H).bindS m fun v H1 => .ok (.ret v) m H1
theorem simS_ret {e pos f} (h : SimE C d sc e f) : SimS C d sc (.Return (some e) pos) (fRet f) := by
  intro A env l m ρ H s Q E hb ha he fr st p
  exact wpAny_Return_some (h A env l m ρ H s _ E hb ha he fr st (PostS.bindE p st fr fun v H1 ρ1 y s1 _ e1 fr1 r1 p1 => p1 ρ1 _ s1 (.refl e1.st) fr1 (.ret r1)))
theorem simS_continue {pos} : SimS C d sc (.Continue pos) (fun m H => .ok .cont m H) := by
  intro A env l m ρ H s Q E hb ha he fr st p
  exact wpAny_Continue (p ρ _ s (.refl st) fr .cont)

noncomputable def fExpr (f : FE) : FS := fun m H => (f m H).bindS m fun v H1 => match v with
  | .ref _ => .bad
  | .tup _ => .bad
  | _ => .ok .next m H1
theorem simS_expr {e pos f} (h : SimE C d sc e f) (hs : ∀ env, env.scope.kind = .function → swapsWith e none pos.line env = pure false) : SimS C d sc (.Expr e pos) (fExpr f) := by
  intro A env l m ρ H s Q E hb ha he fr st p
  refine wpAny_Expr (h A env l m ρ H s _ E hb ha he fr st (PostS.bindE p st fr fun v H1 ρ1 y s1 _ e1 fr1 r1 p1 => ?_)) (by unfold interactive; rw [fr.kind]; rfl) (hs env fr.kind)
  cases r1 with
  | ref => exact p1.elim
  | tup => exact p1.elim
  | _ => exact p1 ρ1 _ s1 (.refl e1.st) fr1 .next

noncomputable def fIf (ft : FE) (fb fo : FS) : FS := fun m H => (ft m H).bindS m fun v H1 => match v with
  | .bool true => fb m H1
  | .bool false => fo m H1
  | _ => .bad
theorem simS_if {t b o pos ft fb fo} (h1 : SimT C d sc t ft) (h2 : SimB C d sc b fb) (h3 : SimB C d sc o fo) : SimS C d sc (.If t b o pos) (fIf ft fb fo) := by
  intro A env l m ρ H s Q E hb ha he fr st p
  refine wpAny_If (h1 A env l m ρ H s _ E hb ha he fr st (PostS.bindE p st fr fun v H1 ρ1 y s1 _ e1 fr1 r1 p1 => ?_))
  cases r1 with
  | bool bb =>
    refine ⟨bb, rfl, ?_⟩
    cases bb with
    | true => exact h2 A env l m ρ1 H1 s1 Q E hb ha he fr1 e1.st p1
    | false => exact h3 A env l m ρ1 H1 s1 Q E hb ha he fr1 e1.st p1
  | _ => exact p1.elim

/-- from a later state, with the end told from the first one -/
theorem PostS.from {env l ρ s Q E ρ1 H1 s1} {o : OutS} {k : Fl → Fm → Hp → OutS} {Q1 : Flow → Shared → Prop} {E1 : Value → Shared → Prop} (p : PostS C env l ρ s Q E (o.bind k)) (x : Ev C l (ownA env) ρ s ρ1 H1 s1)
    (h : ∀ f m H2 ρ2 F s2, o = .ok f m H2 → Ev C l (ownA env) ρ1 s1 ρ2 H2 s2 → Ev C l (ownA env) ρ s ρ2 H2 s2 → FrOk C env l m ρ2 s2.heap → RepF ρ2 s2.heap f F → PostS C env l ρ s Q E (k f m H2) → Q1 F s2)
    (hx : ∀ m H2 ρ2 e s2, Ev C l (ownA env) ρ s ρ2 H2 s2 → FrOk C env l m ρ2 s2.heap → Fly C env.frame s.heap.objs.size e s2.heap → (∀ ρ' e s', Ev C l (ownA env) ρ s ρ' H2 s' → FrOk C env l m ρ' s'.heap → Fly C env.frame s.heap.objs.size e s'.heap → E (.ref e) s') → E1 (.ref e) s2) : PostS C env l ρ1 s1 Q1 E1 o := by
  cases o with
  | ok f m H => exact fun ρ2 F s2 e2 fr rf => h f m H ρ2 F s2 rfl e2 (x.trans e2) fr rf p
  | exc m H => exact fun ρ2 e s2 e2 fr fl => hx m H ρ2 e s2 (x.trans e2) fr (fl.mono x.keep.1) p
  | bad => exact p
theorem PostS.fromE {env l ρ s Q E ρ1 H1 s1} {m : Fm} {o : Out V} {k : V → Hp → OutS} {Q1 : Value → Shared → Prop} {E1 : Value → Shared → Prop} (p : PostS C env l ρ s Q E (o.bindS m k)) (x : Ev C l (ownA env) ρ s ρ1 H1 s1) (fr : FrOk C env l m ρ1 s1.heap)
    (h : ∀ v H2 ρ2 y s2, o = .ok v H2 → Ev C l (ownA env) ρ s ρ2 H2 s2 → FrOk C env l m ρ2 s2.heap → RepV ρ2 s2.heap v y → PostS C env l ρ s Q E (k v H2) → Q1 y s2)
    (hx : ∀ m H2 ρ2 e s2, Ev C l (ownA env) ρ s ρ2 H2 s2 → FrOk C env l m ρ2 s2.heap → Fly C env.frame s.heap.objs.size e s2.heap → (∀ ρ' e s', Ev C l (ownA env) ρ s ρ' H2 s' → FrOk C env l m ρ' s'.heap → Fly C env.frame s.heap.objs.size e s'.heap → E (.ref e) s') → E1 (.ref e) s2) : PostE C l env.frame ρ1 s1 Q1 E1 o := by
  cases o with
  | ok v H => exact fun ρ2 y s2 e2 r => h v H ρ2 y s2 rfl (x.trans e2.no) (fr.ev x.st e2) r p
  | exc H => exact fun ρ2 e s2 e2 fl => hx m H ρ2 e s2 (x.trans e2.no) (fr.ev x.st e2) (fl.mono x.keep.1) p
  | bad => exact p

/-- while, with a bound of turns -/
noncomputable def fWhile (ft : FE) (fb : FS) : Nat → FS
  | 0 => fun _ _ => .bad
  | n + 1 => fun m H => (ft m H).bindS m fun v H1 => match v with
    | .bool true => (fb m H1).bind fun fl m2 H2 => (match fl with
      | .next => fWhile ft fb n m2 H2
      | .cont => fWhile ft fb n m2 H2
      | .brk => .ok .next m2 H2
      | .ret v => .ok (.ret v) m2 H2)
    | .bool false => .ok .next m H1
    | _ => .bad
theorem simS_while {t b pos ft fb} (n : Nat) (h1 : SimT C d sc t ft) (h2 : SimB C d sc b fb) : SimS C d sc (.While t b [] pos) (fWhile ft fb n) := by
  intro A env l m ρ H s Q E hb ha he fr st p
  refine wpAny_While (codeAny_whileLoop (fun k s' => ∃ m' ρ' H', Ev C l (ownA env) ρ s ρ' H' s' ∧ FrOk C env l m' ρ' s'.heap ∧ PostS C env l ρ s Q E (fWhile ft fb k m' H')) ?_ n ⟨m, ρ, H, .refl st, fr, p⟩)
  rintro k s1 ⟨m1, ρ1, H1, x1, fr1, p1⟩
  cases k with
  | zero => exact p1.elim
  | succ k =>
    have exc : ∀ m H2 ρ2 e s2, Ev C l (ownA env) ρ s ρ2 H2 s2 → FrOk C env l m ρ2 s2.heap → Fly C env.frame s.heap.objs.size e s2.heap → (∀ ρ' e s', Ev C l (ownA env) ρ s ρ' H2 s' → FrOk C env l m ρ' s'.heap → Fly C env.frame s.heap.objs.size e s'.heap → E (.ref e) s') →
        notedBy (model C.prog C.w) A env (fun e s' => cameBackBy (model C.prog C.w) A env E e s') (.ref e) s2 := fun m H2 ρ2 e s2 x fr fl q => pass_block ha st.lo x fr fl q
    refine h1 A env l m1 ρ1 H1 s1 _ _ hb ha he fr1 x1.st (PostS.fromE p1 x1 fr1 (fun v H2 ρ2 y s2 _ x2 fr2 r2 p2 => ?_) exc)
    cases r2 with
    | bool bb =>
      refine ⟨bb, rfl, ?_⟩
      cases bb with
      | false =>
        rw [if_neg (by simp)]
        exact wpAny_execs_nil (p2 ρ2 _ s2 x2 fr2 .next)
      | true =>
        rw [if_pos rfl]
        refine h2 A env l m1 ρ2 H2 s2 _ _ hb ha he fr2 x2.st (PostS.from p2 x2 (fun fl m3 H3 ρ3 F s3 _ _ x3 fr3 rf p3 => ?_) exc)
        cases rf with
        | next => exact ⟨k, Nat.lt_succ_self _, m3, ρ3, H3, x3, fr3, p3⟩
        | cont => exact ⟨k, Nat.lt_succ_self _, m3, ρ3, H3, x3, fr3, p3⟩
        | brk => exact p3 ρ3 _ s3 x3 fr3 .next
        | ret r => exact p3 ρ3 _ s3 x3 fr3 (.ret r)
    | _ => exact p2.elim
end
end MP
namespace MP

noncomputable def Priv (env : Env) (l : List Env) (ρ : Rho) (b : Addr) : Prop := ¬ muts ρ b ∧ ¬ ownA env b ∧ ¬ inFr l b

/-- something that hands on items: I the iterator, F its places, G what must hold of the store, P where it stands -/
structure Itr (C : Cx) (A : Around) (l : List Env) (tgt : Expr) (n0 : Nat) (I : Addr) (F : Addr → Prop) (items : List V) (G : Hp → Prop) (P : Nat → Rho → Heap → Prop) : Prop where
  foot : ∀ i ρ h b, P i ρ h → F b → n0 ≤ b ∧ ∃ o, h.get? b = some o
  frame : ∀ i ρ ρ' h h', P i ρ h → (∀ b o, F b → h.get? b = some o → h'.get? b = some o) → (∀ v y, RepV ρ h v y → RepV ρ' h' v y) → P i ρ' h'
  item : ∀ (i : Nat) (v : V) (ρ : Rho) (H : Hp) (s : Shared) (Q : Value → Shared → Prop) (E : Value → Shared → Prop), St C l ρ H s → G H → P i ρ s.heap → items[i]? = some v →
    (∀ y s', Ev C l (FW n0 s.heap) ρ s ρ H s' → P (i + 1) ρ s'.heap → RepV ρ s'.heap v y → Q y s') →
    wpAny (model C.prog C.w) A (pyNext (.ref I)) (fun r s1 => ∃ y, r = some y ∧ wpAny (model C.prog C.w) A (letOwnedTupleGo tgt (.ref I) y) (fun _ s2 => Q y s2) E s1) E s
  stop : ∀ (ρ : Rho) (H : Hp) (s : Shared) (Q : Shared → Prop) (E : Value → Shared → Prop), St C l ρ H s → G H → P items.length ρ s.heap →
    (∀ s', Ev C l (FW n0 s.heap) ρ s ρ H s' → Q s') →
    wpAny (model C.prog C.w) A (pyNext (.ref I)) (fun r s1 => r = none ∧ Q s1) E s
  self : ∀ (i : Nat) (ρ : Rho) (s : Shared) (Q : Value → Shared → Prop) (E : Value → Shared → Prop), P i ρ s.heap → Q (.ref I) s → wpAny (model C.prog C.w) A (pyIter (.ref I)) Q E s

/-- what can be iterated -/
inductive It where
  | mk (items : List V) (G : Hp → Prop)
noncomputable def PostI (C : Cx) (A : Around) (env : Env) (l : List Env) (tgt : Expr) (ρ : Rho) (s : Shared) (Q E : Value → Shared → Prop) : Out It → Prop
  | .ok (.mk items G) H' => ∀ ρ' I s' F P, Ev C l No ρ s ρ' H' s' → Itr C A l tgt s.heap.objs.size I F items G P → P 0 ρ' s'.heap → (∀ b, F b → ¬ muts ρ' b) → Q (.ref I) s'
  | .exc H' => ∀ ρ' e s', Ev C l No ρ s ρ' H' s' → Fly C env.frame s.heap.objs.size e s'.heap → E (.ref e) s'
  | .bad => False
noncomputable def SimIt (C : Cx) (d : Nat) (sc : Scope) (e : Expr) (tgt : Expr) (f : Fm → Hp → Out It) : Prop :=
  ∀ (A : Around) (env : Env) (l : List Env) (m : Fm) (ρ : Rho) (H : Hp) (s : Shared) (Q E : Value → Shared → Prop),
    Bud d A → A.frames = some l → env.scope = sc → FrOk C env l m ρ s.heap → St C l ρ H s → PostI C A env l tgt ρ s Q E (f m H) →
    wpAny (model C.prog C.w) A (eval e env) (fun x s1 => wpAny (model C.prog C.w) A (pyIter x) Q E s1) E s

open Classical in
noncomputable def fFor (G : Hp → Prop) (fa : V → FS) (fb : FS) : List V → FS
  | [] => fun m H => if G H then .ok .next m H else .bad
  | v :: r => fun m H => if G H then (fa v m H).bind fun fl m1 H1 => (match fl with
      | .next => (fb m1 H1).bind fun fl m2 H2 => (match fl with
        | .next => fFor G fa fb r m2 H2
        | .cont => fFor G fa fb r m2 H2
        | .brk => .ok .next m2 H2
        | .ret v => .ok (.ret v) m2 H2)
      | _ => .bad) else .bad

theorem Ev.trans2 {C l W W' ρ s ρ₁ H₁ s₁ ρ₂ H₂ s₂} (x : Ev C l W ρ s ρ₁ H₁ s₁) (y : Ev C l W' ρ₁ s₁ ρ₂ H₂ s₂) (hw : ∀ b, b < s.heap.objs.size → W' b → W b) : Ev C l W ρ s ρ₂ H₂ s₂ := by
  obtain ⟨t, rfl, ht⟩ := x.pre
  obtain ⟨t2, rfl, ht2⟩ := y.pre
  refine ⟨y.st, ⟨t ++ t2, by rw [List.append_assoc], fun p hp => ?_⟩, x.keep.trans y.keep (fun b hb => ?_) fun b hb => hb⟩
  · rcases List.mem_append.mp hp with hp | hp
    · exact ht p hp
    · exact ⟨Nat.le_trans x.keep.1 (ht2 p hp).1, Nat.le_trans x.keep.1 (ht2 p hp).2⟩
  · rintro (h | h)
    · rcases muts_append.mp h with h | ⟨p, hp, e⟩
      · exact .inl h
      · have := ht p hp
        rcases e with rfl | rfl
        · exact absurd hb (Nat.not_lt.mpr this.1)
        · exact absurd hb (Nat.not_lt.mpr this.2)
    · exact .inr (hw b hb h)
theorem Ev.transF {C l W ρ s ρ₁ H₁ s₁ ρ₂ H₂ s₂} {n : Nat} {h : Heap} (x : Ev C l W ρ s ρ₁ H₁ s₁) (y : Ev C l (FW n h) ρ₁ s₁ ρ₂ H₂ s₂) (hn : s.heap.objs.size ≤ n) : Ev C l W ρ s ρ₂ H₂ s₂ :=
  x.trans2 y fun _ hb w => absurd (Nat.lt_of_lt_of_le hb hn) (Nat.not_lt.mpr w.1)
theorem FrOk.evF {C env l m ρ s ρ₁ H H₁ s₁} {n : Nat} (x : FrOk C env l m ρ s.heap) (st : St C l ρ H s) (e : Ev C l (FW n s.heap) ρ s ρ₁ H₁ s₁) : FrOk C env l m ρ₁ s₁.heap := by
  have nf : ∀ {b o}, s.heap.get? b = some o → (∀ vs, o.data ≠ .fields vs) → ¬ FW n s.heap b := fun g hd => noF_of g hd
  have cellK : ∀ c ov, s.heap.IsCell c ov → ¬ muts ρ c → s₁.heap.IsCell c ov := by
    rintro c ov ⟨o, g, d⟩ m
    obtain ⟨sl, g', _⟩ := e.keep.2 c o g (fun z => z.elim m (nf g fun vs z => by rw [d] at z; cases z))
    exact ⟨_, g', d⟩
  refine ⟨x.kind, x.glob, x.bui, x.top, ?_, ?_, ?_, x.celI, ⟨x.hiL.1, ?_⟩, ?_, x.celE⟩
  · obtain ⟨mm, ⟨o, es, ep, g, d, k, f⟩, hm⟩ := x.loc
    obtain ⟨sl, g', _⟩ := e.keep.2 _ o g (fun z => z.elim x.hiL.2 (nf g fun vs z => by rw [d] at z; cases z))
    refine ⟨mm, ⟨_, es, ep, g', d, k, f⟩, fun y v hv hk => ?_⟩
    obtain ⟨z, hz, r⟩ := hm y v hv hk
    exact ⟨z, hz, r.ev st e fun _ w => w.nt⟩
  · intro y v hv hk
    obtain ⟨c, z, hc, ic, r⟩ := x.cel y v hv hk
    exact ⟨c, z, hc, cellK c _ ic (x.hiC y c hc).2, r.ev st e fun _ w => w.nt⟩
  · intro y c hc
    obtain ⟨ov, ic⟩ := x.celX y c hc
    exact ⟨ov, cellK c _ ic (x.hiC y c hc).2⟩
  · obtain ⟨mm, ⟨o, es, ep, g, _⟩, _⟩ := x.loc
    exact e.nm _ (Heap.lt_size g) x.hiL.2
  · intro y c hc
    obtain ⟨ov, o, g, d⟩ := x.celX y c hc
    exact ⟨(x.hiC y c hc).1, e.nm _ (Heap.lt_size g) (x.hiC y c hc).2⟩

section
variable {C : Cx} {d : Nat} {sc : Scope}

/-- where an iterator stands is kept by what a frame does -/
theorem Itr.kept {A l tgt n0 I F items G P} {i : Nat} {env : Env} {ρ ρ' : Rho} {H H' : Hp} {s s' : Shared} {m : Fm} (T : Itr C A l tgt n0 I F items G P) (p : P i ρ s.heap) (pr : ∀ b, F b → Priv env l ρ b) (st : St C l ρ H s) (fr : FrOk C env l m ρ s.heap) (x : Ev C l (ownA env) ρ s ρ' H' s') : P i ρ' s'.heap ∧ ∀ b, F b → Priv env l ρ' b :=
  ⟨T.frame i ρ ρ' _ _ p (fun b o hF g => x.keep.exact g (fun z => z.elim (pr b hF).1 (pr b hF).2.1) (pr b hF).2.2) fun _ _ r => r.evS st fr x,
   fun b hF => let ⟨_, o, g⟩ := T.foot i ρ _ b p hF; ⟨x.nm b (Heap.lt_size g) (pr b hF).1, (pr b hF).2⟩⟩

noncomputable def fForS (fit : Fm → Hp → Out It) (fa : V → FS) (fb : FS) : FS := fun m H => (fit m H).bindS m fun t H1 => match t with
  | .mk items G => fFor G fa fb items m H1
theorem simS_for {tgt it body pos fit fa fb} (hI : SimIt C d sc it tgt fit) (hA : SimA C d sc tgt fa) (hB : SimB C d sc body fb) (hs : ∀ env x, foldedSetIterable it env x = pure x) :
    SimS C d sc (.For tgt it body [] pos) (fForS fit fa fb) := by
  intro A env l m ρ H s Q E hb ha he fr st p
  unfold fForS at p
  have exc : ∀ m H2 ρ2 e s2, Ev C l (ownA env) ρ s ρ2 H2 s2 → FrOk C env l m ρ2 s2.heap → Fly C env.frame s.heap.objs.size e s2.heap → (∀ ρ' e s', Ev C l (ownA env) ρ s ρ' H2 s' → FrOk C env l m ρ' s'.heap → Fly C env.frame s.heap.objs.size e s'.heap → E (.ref e) s') →
      notedBy (model C.prog C.w) A env (fun e s' => cameBackBy (model C.prog C.w) A env E e s') (.ref e) s2 := fun m H2 ρ2 e s2 x fr fl q => pass_block ha st.lo x fr fl q
  refine wpAny_For (hI A env l m ρ H s _ E hb ha he fr st ?_) (hs env)
  cases o : fit m H with
  | bad => rw [o] at p; exact p.elim
  | exc H1 => rw [o] at p; exact fun ρ1 e s1 e1 fl => p ρ1 e s1 e1.no (fr.ev st e1) fl
  | ok t H1 =>
    cases t with
    | mk items G =>
    rw [o] at p
    intro ρ1 I s1 F P e1 T p0 nm0
    have own_lt : ∀ b, ownA env b ∨ inFr l b → b < s.heap.objs.size := by
      rintro b ((rfl | ⟨x, hx⟩) | hb)
      · obtain ⟨mm, ⟨o, es, ep, g, _⟩, _⟩ := fr.loc
        exact Heap.lt_size g
      · obtain ⟨ov, o, g, _⟩ := fr.celX x b hx
        exact Heap.lt_size g
      · exact (st.fr_lt hb).2
    have pr0 : ∀ b, F b → Priv env l ρ1 b := fun b hF => ⟨nm0 b hF, fun z => absurd (own_lt b (.inl z)) (Nat.not_lt.mpr (T.foot 0 ρ1 _ b p0 hF).1), fun z => absurd (own_lt b (.inr z)) (Nat.not_lt.mpr (T.foot 0 ρ1 _ b p0 hF).1)⟩
    refine codeAny_forLoop_any (fun k s' => ∃ i m' ρ' H', Ev C l (ownA env) ρ s ρ' H' s' ∧ FrOk C env l m' ρ' s'.heap ∧ (P i ρ' s'.heap ∧ ∀ b, F b → Priv env l ρ' b) ∧ i ≤ items.length ∧ PostS C env l ρ s Q E (fFor G fa fb (items.drop i) m' H') ∧ k = items.length + 1 - i) ?_ (items.length + 1)
      ⟨0, m, ρ1, H1, e1.no, fr.ev st e1, ⟨p0, pr0⟩, Nat.zero_le _, p, rfl⟩
    rintro k s2 ⟨i, m2, ρ2, H2, x2, fr2, ⟨pi, pri⟩, hi, p2, rfl⟩
    cases hv : items[i]? with
    | none =>
      have hlen : i = items.length := Nat.le_antisymm hi (List.getElem?_eq_none_iff.mp hv)
      subst hlen
      rw [List.drop_length] at p2
      unfold fFor at p2
      by_cases hG : G H2
      · rw [if_pos hG] at p2
        refine wpAny_mono (T.stop ρ2 H2 s2 (fun s3 => wpAny (model C.prog C.w) A (execs [] env) _ _ s3) _ x2.st hG pi fun s3 e3 => ?_) (fun r s3 z => by obtain ⟨rfl, z⟩ := z; exact z) fun _ _ z => z
        exact wpAny_execs_nil (p2 ρ2 _ s3 (x2.transF e3 (Nat.le_refl _)) (fr2.evF x2.st e3) .next)
      · rw [if_neg hG] at p2; exact p2.elim
    | some v =>
      have hlt : i < items.length := (List.getElem?_eq_some_iff.mp hv).1
      have hd : items.drop i = v :: items.drop (i + 1) := by
        rw [List.drop_eq_getElem_cons hlt]
        congr 1
        rw [List.getElem?_eq_getElem hlt] at hv
        exact Option.some.inj hv
      rw [hd] at p2
      unfold fFor at p2
      by_cases hG : G H2
      · rw [if_pos hG] at p2
        refine wpAny_mono (T.item i v ρ2 H2 s2 (fun y s3 => wpAny (model C.prog C.w) A (assign tgt env y) _ _ s3) _ x2.st hG pi hv fun y s3 e3 p3 r3 => ?_) (fun r s3 z => by obtain ⟨y, rfl, z⟩ := z; exact z) fun _ _ z => z
        have x3 := x2.transF e3 (Nat.le_refl _)
        have fr3 := fr2.evF x2.st e3
        refine hA A env l m2 ρ2 H2 s3 v y _ _ hb ha he fr3 e3.st r3 (PostS.from p2 x3 (fun fl m4 H4 ρ4 F s4 _ y4 x4 fr4 rf p4 => ?_) exc)
        rintro rfl
        cases rf
        have pi4 := T.kept p3 pri e3.st fr3 y4
        refine hB A env l m4 ρ4 H4 s4 _ _ hb ha he fr4 x4.st (PostS.from p4 x4 (fun fl m5 H5 ρ5 F s5 _ y5 x5 fr5 rf p5 => ?_) exc)
        have pi5 := T.kept pi4.1 pi4.2 x4.st fr4 y5
        cases rf with
        | next => exact ⟨items.length - i, by omega, i + 1, m5, ρ5, H5, x5, fr5, pi5, hlt, p5, by omega⟩
        | cont => exact ⟨items.length - i, by omega, i + 1, m5, ρ5, H5, x5, fr5, pi5, hlt, p5, by omega⟩
        | brk => exact p5 ρ5 _ s5 x5 fr5 .next
        | ret r => exact p5 ρ5 _ s5 x5 fr5 (.ret r)
      · rw [if_neg hG] at p2; exact p2.elim

theorem Ev.ofF {l ρ H} {s s' : Shared} {n0 : Nat} (st : St C l ρ H s) (k : Keep (FW n0 s.heap) (inFr l) s.heap s'.heap) (hl : C.h0.objs.size ≤ n0) (hr : s'.gens = s.gens ∧ s'.drawn = s.drawn ∧ s'.os = s.os) : Ev C l (FW n0 s.heap) ρ s ρ H s' := by
  refine ⟨⟨fun b o e => k.exact (st.old b o e) (fun z => ?_) fun z => ?_, st.hi, Nat.le_trans st.lo k.1, ⟨hr.1.trans st.rest.1, hr.2.1.trans st.rest.2.1, hr.2.2.trans st.rest.2.2⟩, ⟨st.rep.len, fun i o p ho hp => ?_, st.rep.apart⟩, ?_, st.frm⟩,
    ⟨[], by simp, fun _ h => nomatch h⟩, k.mono fun _ w => .inr w⟩
  · exact absurd (Nat.lt_of_lt_of_le (Heap.lt_size e) hl) (Nat.not_lt.mpr z.1)
  · have := (st.fr_lt z).1
    rw [this] at e; cases e
  · have r := st.rep.obj i o p ho hp
    have nf := r.noF n0
    exact r.keep k (fun _ w _ => w.nt) (fun _ _ z => z) (fun _ _ z => z) ⟨nf.1, fun z => st.frm _ z ⟨p, List.mem_of_getElem? hp, .inl rfl⟩⟩ ⟨nf.2, fun z => st.frm _ z ⟨p, List.mem_of_getElem? hp, .inr rfl⟩⟩
  · refine frames_keep st.frs fun b o hb g => ?_
    obtain ⟨sl, g', _⟩ := k.2 b o g (FunFrames.noF st.frs hb _)
    exact ⟨_, g', rfl⟩
theorem keepF_but {n0 : Nat} {X : Addr → Prop} {h h' : Heap} {I : Addr} (w : FW n0 h I) (sz : h.objs.size ≤ h'.objs.size) (k : Heap.ExtBut I h h') : Keep (FW n0 h) X h h' :=
  ⟨sz, fun b o e n => ⟨o.slots, k b o (fun z => n (z ▸ w)) e, fun _ => rfl⟩⟩

theorem letOwned_no {M : Model} {A : Around} {s : Shared} {tgt : Expr} {I : Addr} {y : Value} {o : Obj} {T : String} {Q : Unit → Shared → Prop} {E : Value → Shared → Prop} (g : s.heap.get? I = some o) (hc : o.cls = .type T)
    (hT : (["enumerate", "zip", "dict_itemiterator", "dict_reverseitemiterator", "odict_iterator", "itertools.zip_longest", "itertools.pairwise"] : List String).contains T = false) (q : Q () s) : wpAny M A (letOwnedTupleGo tgt (.ref I) y) Q E s := by
  have go : wpAny M A (do
      let (.ref r, .ref a) := (Value.ref I, y) | return
      let o ← load r
      match o.cls, o.data with
      | .type n, .fields vs =>
        if ["enumerate", "zip", "dict_itemiterator", "dict_reverseitemiterator", "odict_iterator", "itertools.zip_longest", "itertools.pairwise"].contains n && vs[0]? == some (rawInt a) then
          rule "for.unpacks-the-owned-tuple"
          updateField r 0 .none
      | _, _ => pure ()) Q E s := by
    cases y with
    | ref a =>
      refine wpAny_bind (wpAny_load g ?_)
      rw [hc]
      cases o.data with
      | fields vs =>
        dsimp only
        rw [hT, Bool.false_and, if_neg (by simp)]
        exact wpAny_pure q
      | _ => exact wpAny_pure q
    | _ => exact wpAny_pure q
  unfold letOwnedTupleGo
  cases tgt with
  | Tuple => exact go
  | List => exact go
  | _ => exact wpAny_pure q

theorem rep_list {l ρ H s} (st : St C l ρ H s) {j : Nat} {xs : List V} {a dd : Addr} (hG : H[j]? = some (.list xs)) (hp : ρ[j]? = some (a, dd)) : ∃ items, s.heap.IsList a items ∧ RepVs ρ s.heap xs items.toList ∧ items.size = xs.length ∧ (∃ n sl, s.heap.get? a = some ⟨.type "list", none, .seq items n, sl⟩) ∧ dd = a := by
  obtain ⟨e, n, items, sl, g, rs⟩ := st.rep.obj j _ _ hG hp
  refine ⟨items, ⟨_, g, rfl, n, rfl⟩, rs, ?_, ⟨n, sl, g⟩, e.symm⟩
  rw [rs.length, Array.length_toList]

/-- a list, item by item -/
theorem itr_list {A l tgt} {j : Nat} {xs : List V} {I a : Addr} {n0 : Nat} (hb : Bud d A) (hn : C.h0.objs.size ≤ n0) (hI : n0 ≤ I) :
    Itr C A l tgt n0 I (fun b => b = I) xs (fun H => H[j]? = some (.list xs)) (fun i ρ h => h.IsListIter I a i ∧ RepV ρ h (.ref j) (.ref a)) where
  foot := fun i ρ h b ⟨⟨o, g, _⟩, _⟩ hF => hF ▸ ⟨hI, o, g⟩
  frame := fun i ρ ρ' h h' ⟨⟨o, g, r⟩, rv⟩ k rk => ⟨⟨o, k I o rfl g, r⟩, rk _ _ rv⟩
  item := by
    rintro i v ρ H s Q E st hG ⟨it, rv⟩ hv hQ
    cases rv with
    | ref hp =>
      obtain ⟨items, hl, rs, hsz, _⟩ := rep_list st hG hp
      obtain ⟨y, hy, ry⟩ := rs.get hv
      refine wpAny_pyNext_list_item it hl (by rw [← Array.getElem?_toList]; exact hy) fun h' it' hs => ⟨y, rfl, ?_⟩
      obtain ⟨o, g, hc, hd⟩ := it
      have w : FW n0 s.heap I := ⟨hI, o, _, g, hd⟩
      have k : Keep (FW n0 s.heap) (inFr l) s.heap h' := keepF_but w (Nat.le_of_eq hs.1.symm) hs.extBut
      have it0 := it'
      obtain ⟨o', g', hc', hd'⟩ := it'
      refine letOwned_no (s := { s with heap := h' }) g' hc' (by decide) ?_
      exact hQ y { s with heap := h' } (Ev.ofF st k hn ⟨rfl, rfl, rfl⟩) ⟨it0, .ref hp⟩ (ry.keep k (fun _ w _ => w.nt) fun _ _ z => z)
  stop := by
    rintro ρ H s Q E st hG ⟨it, rv⟩ hQ
    cases rv with
    | ref hp =>
      obtain ⟨items, hl, rs, hsz, _⟩ := rep_list st hG hp
      refine wpAny_sz ?_
      refine wpAny_pyNext_list_end hb.2.2 it hl (by rw [Array.getElem?_eq_none_iff]; omega) fun h' hs sz => ⟨rfl, ?_⟩
      obtain ⟨o, g, hc, hd⟩ := it
      have w : FW n0 s.heap I := ⟨hI, o, _, g, hd⟩
      exact hQ { s with heap := h' } (Ev.ofF st (keepF_but w sz hs) hn ⟨rfl, rfl, rfl⟩)
  self := fun i ρ s Q E p q => wpAny_pyIter_listiter p.1 q

theorem itr_tuple {A l tgt} {vs : List V} {I a : Addr} {n0 : Nat} (hb : Bud d A) (hn : C.h0.objs.size ≤ n0) (hI : n0 ≤ I) :
    Itr C A l tgt n0 I (fun b => b = I) vs (fun _ => True) (fun i ρ h => h.IsTupleIter I a i ∧ RepV ρ h (.tup vs) (.ref a)) where
  foot := fun i ρ h b ⟨⟨o, g, _⟩, _⟩ hF => hF ▸ ⟨hI, o, g⟩
  frame := fun i ρ ρ' h h' ⟨⟨o, g, r⟩, rv⟩ k rk => ⟨⟨o, k I o rfl g, r⟩, rk _ _ rv⟩
  item := by
    rintro i v ρ H s Q E st _ ⟨it, rv⟩ hv hQ
    have rv0 := rv
    cases rv with
    | tup hm g0 hc0 hd0 rs =>
      obtain ⟨y, hy, ry⟩ := rs.get hv
      refine wpAny_pyNext_tuple_item it ⟨_, g0, hc0, _, hd0⟩ (by rw [← Array.getElem?_toList]; exact hy) fun h' it' hs => ⟨y, rfl, ?_⟩
      obtain ⟨o, g, hc, hd⟩ := it
      have w : FW n0 s.heap I := ⟨hI, o, _, g, hd⟩
      have k : Keep (FW n0 s.heap) (inFr l) s.heap h' := keepF_but w (Nat.le_of_eq hs.1.symm) hs.extBut
      have it0 := it'
      obtain ⟨o', g', hc', hd'⟩ := it'
      refine letOwned_no (s := { s with heap := h' }) g' hc' (by decide) ?_
      exact hQ y { s with heap := h' } (Ev.ofF st k hn ⟨rfl, rfl, rfl⟩) ⟨it0, rv0.keep k (fun _ w _ => w.nt) fun _ _ z => z⟩ (ry.keep k (fun _ w _ => w.nt) fun _ _ z => z)
  stop := by
    rintro ρ H s Q E st _ ⟨it, rv⟩ hQ
    cases rv with
    | tup hm g0 hc0 hd0 rs =>
      refine wpAny_sz ?_
      refine wpAny_pyNext_tuple_end hb.2.2 it ⟨_, g0, hc0, _, hd0⟩ (by rw [Array.getElem?_eq_none_iff, rs.length, Array.length_toList]; exact Nat.le_refl _) fun h' hs sz => ⟨rfl, ?_⟩
      obtain ⟨o, g, hc, hd⟩ := it
      have w : FW n0 s.heap I := ⟨hI, o, _, g, hd⟩
      exact hQ { s with heap := h' } (Ev.ofF st (keepF_but w sz hs) hn ⟨rfl, rfl, rfl⟩)
  self := fun i ρ s Q E p q => wpAny_pyIter_tupleiter p.1 q


noncomputable def fIter (f : FE) : Fm → Hp → Out It := fun m H => (f m H).bind fun v H1 => match v with
  | .ref j => (match H1[j]? with
    | some (.list xs) => .ok (.mk xs fun H => H[j]? = some (.list xs)) H1
    | _ => .bad)
  | .tup vs => .ok (.mk vs fun _ => True) H1
  | _ => .bad
set_option tactic.hygienic true in
theorem simIt_seq {e tgt f} (h : SimE C d sc e f) : SimIt C d sc e tgt (fIter f) := by
  intro A env l m ρ H s Q E hb ha he fr st p
  unfold fIter at p
  refine h A env l m ρ H s _ E hb ha he fr st ?_
  cases o : f m H with
  | bad => rw [o] at p; exact p.elim
  | exc H1 => rw [o] at p; exact p
  | ok v H1 =>
    rw [o] at p
    intro ρ1 y s1 e1 r1
    have fr1 := fr.ev st e1
    dsimp only [Out.bind] at p
    cases r1 with
    | ref hp =>
      rename_i j a dd
      dsimp only at p
      cases ho : H1[j]? with
      | none => rw [ho] at p; exact p.elim
      | some ob =>
        rw [ho] at p
        cases ob with
        | list xs =>
          obtain ⟨items, hl, rs, _⟩ := rep_list e1.st ho hp
          refine wpAny_pyIter_list hl ?_
          refine p ρ1 _ _ _ _ (e1.trans (Ev.keepNo e1.st (Keep.push ..) ⟨rfl, rfl, rfl⟩)) (itr_list (j := j) (a := a) hb st.lo e1.keep.1) ⟨⟨_, Heap.get?_push_size _ rfl, rfl, rfl⟩, .ref hp⟩ (fun b hF => hF ▸ e1.st.fresh (Nat.le_refl _))
        | _ => exact p.elim
    | tup hm g0 hc0 hd0 rs =>
      dsimp only at p
      refine wpAny_pyIter_tuple ⟨_, g0, hc0, _, hd0⟩ ?_
      refine p ρ1 _ _ _ _ (e1.trans (Ev.keepNo e1.st (Keep.push ..) ⟨rfl, rfl, rfl⟩)) (itr_tuple hb st.lo e1.keep.1) ⟨⟨_, Heap.get?_push_size _ rfl, rfl, rfl⟩, (RepV.tup hm g0 hc0 hd0 rs).keep (Keep.push (W := No) (X := No) _ _) (fun _ h => h.elim) fun _ _ z => z⟩ (fun b hF => hF ▸ e1.st.fresh (Nat.le_refl _))
    | _ => exact p.elim
end
end MP
namespace MP
section
variable {C : Cx} {d : Nat} {sc : Scope}

noncomputable def rangeV (a : Int) (n : Nat) : List V := (List.range n).map fun (i : Nat) => .int (a + (i : Int))
theorem small_ok {a b : Int} (ha : -1000000000 ≤ a) (ha' : a ≤ 1000000000) (hb : -1000000000 ≤ b) (hb' : b ≤ 1000000000) : Builtin.Range.small a b 1 = true := by
  have f : ∀ x : Int, -9000000000 ≤ x → x ≤ 9000000000 → Builtin.Range.rangeFitsLong x = true := fun x h1 h2 => by
    unfold Builtin.Range.rangeFitsLong
    simp only [Bool.and_eq_true, decide_eq_true_eq]
    omega
  have g : -9000000000 ≤ Builtin.Range.rangeSize a b 1 ∧ Builtin.Range.rangeSize a b 1 ≤ 9000000000 := by
    rw [rangeSize_one]
    split <;> omega
  unfold Builtin.Range.small
  rw [f a (by omega) (by omega), f b (by omega) (by omega), f 1 (by omega) (by omega), f _ g.1 g.2]
  simp only [Bool.true_and, Bool.or_eq_true]
  right
  rw [if_pos (by omega)]
  exact f _ (by omega) (by omega)

theorem itr_range {A l tgt} {a : Int} {n : Nat} {I : Addr} {n0 : Nat} (hb : Bud d A) (hn : C.h0.objs.size ≤ n0) (hI : n0 ≤ I) :
    Itr C A l tgt n0 I (fun b => b = I) (rangeV a n) (fun _ => True) (fun i ρ h => IsRangeIter h I (a + i) ((n : Int) - i) 1) where
  foot := fun i ρ h b it hF => hF ▸ ⟨hI, _, it⟩
  frame := fun i ρ ρ' h h' g k _ => k I _ rfl g
  self := fun i ρ s Q E p q => wpAny_pyIter_rangeiter p q
  item := by
    rintro i v ρ H s Q E st _ it hv hQ
    have hlt : i < n := by have := (List.getElem?_eq_some_iff.mp hv).1; simpa [rangeV] using this
    have hv' : v = .int (a + i) := by
      unfold rangeV at hv
      rw [List.getElem?_map, List.getElem?_range hlt] at hv
      simpa using hv.symm
    subst hv'
    refine wpAny_pyNext_range_item it (by omega) fun h' it' hs => ⟨_, rfl, ?_⟩
    have w : FW n0 s.heap I := ⟨hI, _, _, it, rfl⟩
    have k : Keep (FW n0 s.heap) (inFr l) s.heap h' := keepF_but w (Nat.le_of_eq hs.1.symm) hs.extBut
    refine letOwned_no (s := { s with heap := h', toks := s.toks + 1 }) it' rfl (by decide) ?_
    refine hQ _ { s with heap := h', toks := s.toks + 1 } (Ev.ofF st k hn ⟨rfl, rfl, rfl⟩) ?_ (.int _ _)
    have e1 : a + ((i + 1 : Nat) : Int) = a + i + 1 := by omega
    have e2 : (n : Int) - ((i + 1 : Nat) : Int) = n - i - 1 := by omega
    rw [e1, e2]
    exact it'
  stop := by
    rintro ρ H s Q E st _ it hQ
    refine wpAny_sz ?_
    refine wpAny_pyNext_range_end hb.2.2 it (by simp [rangeV]) fun h' hs sz => ⟨rfl, ?_⟩
    have w : FW n0 s.heap I := ⟨hI, _, _, it, rfl⟩
    exact hQ { s with heap := h' } (Ev.ofF st (keepF_but w sz hs) hn ⟨rfl, rfl, rfl⟩)

noncomputable def fRange (g : Fm → Hp → Out (List V)) : Fm → Hp → Out It := fun m H => (g m H).bind fun vs H1 => match vs with
  | [.int n] => if -1000000000 ≤ n ∧ n ≤ 1000000000 then .ok (.mk (rangeV 0 n.toNat) fun _ => True) H1 else .bad
  | [.int a, .int b] => if (-1000000000 ≤ a ∧ a ≤ 1000000000) ∧ -1000000000 ≤ b ∧ b ≤ 1000000000 then .ok (.mk (rangeV a (b - a).toNat) fun _ => True) H1 else .bad
  | _ => .bad
set_option tactic.hygienic true in
theorem simIt_range {x np es pos tgt g} (O : C.Ok) (hn : NameIs C sc x (.type "range")) (hs : es.all noStar = true) (h : SimL C d sc es g) : SimIt C d sc (.Call (.Name x np) es [] pos) tgt (fRange g) := by
  intro A env l m ρ H s Q E hb ha he fr st p
  refine wpAny_Call_ofName ?_
  have rest : wpAny (model C.prog C.w) A (callWith pos (.type "range") [] (backTo pos (starEach es env)) (backToKw pos (keywordEach [] env))) (fun x s1 => wpAny (model C.prog C.w) A (pyIter x) Q E s1) E s := by
    refine callWith_any (h₀ := C.h0) (k := .machine) hs (Looks.of_pure rfl) (h A env l m ρ H s _ E pos hb ha he fr st ?_)
    unfold fRange at p
    cases o : g m H with
    | bad => rw [o] at p; exact p.elim
    | exc H1 => rw [o] at p; exact p
    | ok vs H1 =>
      rw [o] at p
      dsimp only [Out.bind] at p
      intro ρ1 ys s1 e1 r1
      refine ⟨e1.st.old, ?_⟩
      have fr1 := fr.ev st e1
      split at p
      · rename_i n
        by_cases hc : -1000000000 ≤ n ∧ n ≤ 1000000000
        · rw [if_pos hc] at p
          cases r1 with
          | cons r rs =>
          cases rs
          cases r with
          | int _ t =>
          refine call_range_1 ?_
          have e2 := e1.trans (Ev.keepNo (s' := { s1 with heap := s1.heap.push { cls := .type "range", data := .fields #[.int 0 s1.toks, .int n t, .int 1 (s1.toks + 1)] }, toks := s1.toks + 1 + 1 }) e1.st (Keep.push ..) ⟨rfl, rfl, rfl⟩)
          refine wpAny_pyIter_range (s := { s1 with heap := s1.heap.push { cls := .type "range", data := .fields #[.int 0 s1.toks, .int n t, .int 1 (s1.toks + 1)] }, toks := s1.toks + 1 + 1 }) (IsRange.new ..) (small_ok (by omega) (by omega) hc.1 hc.2) ?_
          refine p ρ1 _ _ _ _ (e2.trans (Ev.keepNo e2.st (Keep.push ..) ⟨rfl, rfl, rfl⟩)) (itr_range hb st.lo e2.keep.1) ?_ (fun b hF => hF ▸ e2.st.fresh (Nat.le_refl _))
          rw [rangeSize_one]
          have : (if (0 : Int) < n then n - 0 else 0) = ((n.toNat : Nat) : Int) - ((0 : Nat) : Int) := by split <;> omega
          rw [this]
          exact Heap.get?_push_size _ rfl
        · rw [if_neg hc] at p; exact p.elim
      · rename_i a b
        by_cases hc : (-1000000000 ≤ a ∧ a ≤ 1000000000) ∧ -1000000000 ≤ b ∧ b ≤ 1000000000
        · rw [if_pos hc] at p
          cases r1 with
          | cons r rs =>
          cases rs with
          | cons r' rs =>
          cases rs
          cases r with
          | int _ t =>
          cases r' with
          | int _ t' =>
          refine call_range_2 ?_
          have e2 := e1.trans (Ev.keepNo (s' := { s1 with heap := s1.heap.push { cls := .type "range", data := .fields #[.int a t, .int b t', .int 1 s1.toks] }, toks := s1.toks + 1 }) e1.st (Keep.push ..) ⟨rfl, rfl, rfl⟩)
          refine wpAny_pyIter_range (s := { s1 with heap := s1.heap.push { cls := .type "range", data := .fields #[.int a t, .int b t', .int 1 s1.toks] }, toks := s1.toks + 1 }) (IsRange.new ..) (small_ok hc.1.1 hc.1.2 hc.2.1 hc.2.2) ?_
          refine p ρ1 _ _ _ _ (e2.trans (Ev.keepNo e2.st (Keep.push ..) ⟨rfl, rfl, rfl⟩)) (itr_range hb st.lo e2.keep.1) ?_ (fun b hF => hF ▸ e2.st.fresh (Nat.le_refl _))
          rw [rangeSize_one]
          have e0 : a + ((0 : Nat) : Int) = a := by omega
          have : (if a < b then b - a else 0) = (((b - a).toNat : Nat) : Int) - ((0 : Nat) : Int) := by split <;> omega
          rw [this, e0]
          exact Heap.get?_push_size _ rfl
        · rw [if_neg hc] at p; exact p.elim
      · exact p.elim
  obtain ⟨hg, hn | ⟨h1, h2⟩⟩ := hn
  · exact name_glob O hg hn he fr st rest
  · exact name_bi O hg h1 h2 he fr st rest
end
end MP
namespace MP

/-- two values under an operator -/
noncomputable def SimO (C : Cx) (d : Nat) (f : Value → Value → Sem Value) (F : V → V → Hp → Out V) : Prop :=
  ∀ (A : Around) (l : List Env) (v w : V) (x y : Value) (ρ : Rho) (H : Hp) (s : Shared) (Q E : Value → Shared → Prop),
    Bud d A → A.frames = some l → St C l ρ H s → RepV ρ s.heap v x → RepV ρ s.heap w y → PostE C l none ρ s Q E (F v w H) → wpAny (model C.prog C.w) A (f x y) Q E s


section
variable {C : Cx} {d : Nat} {sc : Scope}

noncomputable def fBin (F : V → V → Hp → Out V) (f g : FE) : FE := fun m H => (f m H).bind fun v H1 => (g m H1).bind fun w H2 => F v w H2
theorem simE_bin {a op b pos F f g} (h1 : SimE C d sc a f) (h2 : SimE C d sc b g) (hF : SimO C d (binaryOp op) F) : SimE C d sc (.BinOp a op b pos) (fBin F f g) := by
  intro A env l m ρ H s Q E hb ha he fr st p
  refine wpAny_BinOp (h1 A env l m ρ H s _ E hb ha he fr st (PostE.bind p fun v H1 ρ1 x s1 _ e1 r1 p1 => ?_))
  refine h2 A env l m ρ1 H1 s1 _ E hb ha he (fr.ev st e1) e1.st (PostE.bind p1 fun w H2 ρ2 y s2 _ e2 r2 p2 => ?_)
  exact hF A l v w x y ρ2 H2 s2 Q E hb ha e2.st (r1.ev0 e1.st e2) r2 p2.any
theorem simE_cmp {a op b pos F f g} (h1 : SimE C d sc a f) (h2 : SimE C d sc b g) (hF : SimO C d (compareOp op) F) (hm : behindInMarks op b = false) : SimE C d sc (.Compare a [op] [b] pos) (fBin F f g) := by
  intro A env l m ρ H s Q E hb ha he fr st p
  refine wpAny_Compare1 (h1 A env l m ρ H s _ E hb ha he fr st (PostE.bind p fun v H1 ρ1 x s1 _ e1 r1 p1 => ?_)) hm
  refine h2 A env l m ρ1 H1 s1 _ E hb ha he (fr.ev st e1) e1.st (PostE.bind p1 fun w H2 ρ2 y s2 _ e2 r2 p2 => ?_)
  exact hF A l v w x y ρ2 H2 s2 Q E hb ha e2.st (r1.ev0 e1.st e2) r2 p2.any
theorem simT_cmp {a op b pos F f g} (h1 : SimE C d sc a f) (h2 : SimE C d sc b g) (hF : SimO C d (compareOp op) F) (hm : behindInMarks op b = false) : SimT C d sc (.Compare a [op] [b] pos) (fBin F f g) := by
  intro A env l m ρ H s Q E hb ha he fr st p
  refine wpAny_isTrue_Compare1 (h1 A env l m ρ H s _ E hb ha he fr st (PostE.bind p fun v H1 ρ1 x s1 _ e1 r1 p1 => ?_)) hm
  refine h2 A env l m ρ1 H1 s1 _ E hb ha he (fr.ev st e1) e1.st (PostE.bind p1 fun w H2 ρ2 y s2 _ e2 r2 p2 => ?_)
  exact hF A l v w x y ρ2 H2 s2 _ E hb ha e2.st (r1.ev0 e1.st e2) r2 (p2.any.mono fun c s3 ⟨b, e, q⟩ => e ▸ wpAny_truthy_bool q)
theorem simT_val {e f} (h : SimE C d sc e f) (he' : ∀ env whole, isTrue e env whole = (do let v ← whole; standAt e.pos; holding [v] (truthy v))) : SimT C d sc e f := by
  intro A env l m ρ H s Q E hb ha he fr st p
  exact wpAny_isTrue_value (h A env l m ρ H s _ E hb ha he fr st (p.mono fun c s3 ⟨b, e, q⟩ => e ▸ wpAny_truthy_bool q)) (he' env _)

noncomputable def fNot (f : FE) : FE := fun m H => (f m H).bind fun v H => match v with
  | .bool b => .ok (.bool !b) H
  | _ => .bad
theorem simT_not {e pos f} (h : SimT C d sc e f) : SimT C d sc (.UnaryOp .Not e pos) (fNot f) := by
  intro A env l m ρ H s Q E hb ha he fr st p
  refine wpAny_isTrue_Not (h A env l m ρ H s _ E hb ha he fr st (PostE.bind p fun v H1 ρ1 x s1 _ e1 r1 p1 => ?_))
  cases r1 with
  | bool b =>
    obtain ⟨b', e, q⟩ := p1 ρ1 _ s1 (.refl e1.st) (.bool _)
    cases e
    exact ⟨b, rfl, q⟩
  | _ => exact p1.elim
noncomputable def fNeg (f : FE) : FE := fun m H => (f m H).bind fun v H => match v with
  | .int i => .ok (.int (-i)) H
  | _ => .bad
theorem simE_neg {e pos f} (h : SimE C d sc e f) : SimE C d sc (.UnaryOp .USub e pos) (fNeg f) := by
  intro A env l m ρ H s Q E hb ha he fr st p
  refine wpAny_UnaryOp (h A env l m ρ H s _ E hb ha he fr st (PostE.bind p fun v H1 ρ1 x s1 _ e1 r1 p1 => ?_))
  cases r1 with
  | int i t => exact P.neg_int (p1 ρ1 _ _ (.tok e1.st) (.int _ _))
  | _ => exact p1.elim

noncomputable def fAnd (f g : FE) : FE := fun m H => (f m H).bind fun v H => match v with
  | .bool true => g m H
  | .bool false => .ok (.bool false) H
  | _ => .bad
noncomputable def fOr (f g : FE) : FE := fun m H => (f m H).bind fun v H => match v with
  | .bool false => g m H
  | .bool true => .ok (.bool true) H
  | _ => .bad
/-- the rest of an and, an or -/
noncomputable def SimAll (C : Cx) (d : Nat) (sc : Scope) (op : BoolOp) (es : List Expr) (f : FE) : Prop :=
  ∀ (A : Around) (env : Env) (l : List Env) (m : Fm) (ρ : Rho) (H : Hp) (s : Shared) (Q : Bool → Shared → Prop) (E : Value → Shared → Prop),
    Bud d A → A.frames = some l → env.scope = sc → FrOk C env l m ρ s.heap → St C l ρ H s → PostE C l env.frame ρ s (fun v s' => ∃ b, v = .bool b ∧ Q b s') E (f m H) → wpAny (model C.prog C.w) A (allTrue op es env) Q E s
theorem simAnd_one {e f} (h : SimT C d sc e f) : SimAll C d sc .And [e] f := by
  intro A env l m ρ H s Q E hb ha he fr st p
  refine wpAny_allTrue_And_cons (h A env l m ρ H s _ E hb ha he fr st (p.mono fun c s3 ⟨b, e, q⟩ => ⟨b, e, ?_⟩))
  cases b
  · exact q
  · exact wpAny_allTrue_And_nil q
theorem simOr_one {e f} (h : SimT C d sc e f) : SimAll C d sc .Or [e] f := by
  intro A env l m ρ H s Q E hb ha he fr st p
  refine wpAny_allTrue_Or_cons (h A env l m ρ H s _ E hb ha he fr st (p.mono fun c s3 ⟨b, e, q⟩ => ⟨b, e, ?_⟩))
  cases b
  · exact wpAny_allTrue_Or_nil q
  · exact q
theorem simAnd_cons {e r f g} (h : SimT C d sc e f) (h2 : SimAll C d sc .And r g) : SimAll C d sc .And (e :: r) (fAnd f g) := by
  intro A env l m ρ H s Q E hb ha he fr st p
  refine wpAny_allTrue_And_cons (h A env l m ρ H s _ E hb ha he fr st (PostE.bind p fun v H1 ρ1 x s1 _ e1 r1 p1 => ?_))
  cases r1 with
  | bool b =>
    refine ⟨b, rfl, ?_⟩
    cases b with
    | false =>
      obtain ⟨b', e, q⟩ := p1 ρ1 _ s1 (.refl e1.st) (.bool _)
      cases e; exact q
    | true => exact h2 A env l m ρ1 H1 s1 Q E hb ha he (fr.ev st e1) e1.st p1
  | _ => exact p1.elim
theorem simOr_cons {e r f g} (h : SimT C d sc e f) (h2 : SimAll C d sc .Or r g) : SimAll C d sc .Or (e :: r) (fOr f g) := by
  intro A env l m ρ H s Q E hb ha he fr st p
  refine wpAny_allTrue_Or_cons (h A env l m ρ H s _ E hb ha he fr st (PostE.bind p fun v H1 ρ1 x s1 _ e1 r1 p1 => ?_))
  cases r1 with
  | bool b =>
    refine ⟨b, rfl, ?_⟩
    cases b with
    | true =>
      obtain ⟨b', e, q⟩ := p1 ρ1 _ s1 (.refl e1.st) (.bool _)
      cases e; exact q
    | false => exact h2 A env l m ρ1 H1 s1 Q E hb ha he (fr.ev st e1) e1.st p1
  | _ => exact p1.elim
theorem simT_bool {op es pos f} (h : SimAll C d sc op es f) : SimT C d sc (.BoolOp op es pos) f := by
  intro A env l m ρ H s Q E hb ha he fr st p
  exact wpAny_isTrue_BoolOp (h A env l m ρ H s Q E hb ha he fr st p)
theorem simE_and2 {a b pos f g} (h1 : SimE C d sc a f) (h2 : SimE C d sc b g) : SimE C d sc (.BoolOp .And [a, b] pos) (fAnd f g) := by
  intro A env l m ρ H s Q E hb ha he fr st p
  refine wpAny_And2 (h1 A env l m ρ H s _ E hb ha he fr st (PostE.bind p fun v H1 ρ1 x s1 _ e1 r1 p1 => ?_))
  cases r1 with
  | bool b =>
    refine wpAny_truthy_bool ?_
    cases b with
    | false => exact p1 ρ1 _ s1 (.refl e1.st) (.bool _)
    | true => exact h2 A env l m ρ1 H1 s1 Q E hb ha he (fr.ev st e1) e1.st p1
  | _ => exact p1.elim

noncomputable def fIte (t f g : FE) : FE := fun m H => (t m H).bind fun v H => match v with
  | .bool true => f m H
  | .bool false => g m H
  | _ => .bad
theorem simE_ifexp {t a b pos ft f g} (h0 : SimT C d sc t ft) (h1 : SimE C d sc a f) (h2 : SimE C d sc b g) : SimE C d sc (.IfExp t a b pos) (fIte ft f g) := by
  intro A env l m ρ H s Q E hb ha he fr st p
  refine wpAny_IfExp (h0 A env l m ρ H s _ E hb ha he fr st (PostE.bind p fun v H1 ρ1 x s1 _ e1 r1 p1 => ?_))
  cases r1 with
  | bool b =>
    refine ⟨b, rfl, ?_⟩
    cases b with
    | true => exact h1 A env l m ρ1 H1 s1 Q E hb ha he (fr.ev st e1) e1.st p1
    | false => exact h2 A env l m ρ1 H1 s1 Q E hb ha he (fr.ev st e1) e1.st p1
  | _ => exact p1.elim

/-- a new list -/
noncomputable def newL (xs : List V) (H : Hp) : Out V := if xs.length ≤ 1000000 then .ok (.ref H.length) (H ++ [.list xs]) else .bad
theorem newL_at {l ρ H s} {xs : List V} {ys : List Value} {sl n} (st : St C l ρ H s) (r : RepVs ρ s.heap xs ys) :
    Ev C l No ρ s (ρ ++ [(s.heap.objs.size, s.heap.objs.size)]) (H ++ [.list xs]) { s with heap := s.heap.push ⟨.type "list", none, .seq ys.toArray n, sl⟩ } ∧
    RepV (ρ ++ [(s.heap.objs.size, s.heap.objs.size)]) (s.heap.push ⟨.type "list", none, .seq ys.toArray n, sl⟩) (.ref H.length) (.ref s.heap.objs.size) := by
  have pre : ∀ (i : Nat) (q : Addr × Addr), ρ[i]? = some q → (ρ ++ [(s.heap.objs.size, s.heap.objs.size)])[i]? = some q := fun i q e => by rw [List.getElem?_append_left (List.getElem?_eq_some_iff.mp e).1]; exact e
  refine ⟨Ev.grow st (Keep.push ..) ⟨rfl, rfl, rfl⟩ ⟨Nat.le_refl _, Nat.le_refl _⟩ ⟨rfl, n, ys.toArray, sl, Heap.get?_push_size _ rfl, ?_⟩, .ref (d := s.heap.objs.size) ?_⟩
  · refine r.keep (Keep.push (W := No) (X := No) _ _) (fun _ h => h.elim) pre fun b hb n q => ?_
    rcases muts_append.mp q with q | ⟨q, hq, z⟩
    · exact n q
    · rw [List.mem_singleton.mp hq] at z
      rcases z with rfl | rfl <;> exact absurd hb (Nat.lt_irrefl _)
  · rw [← st.rep.len]; simp
theorem newL_post {fr l ρ H s Q E} {xs : List V} {ys : List Value} {n} (p : PostE C l fr ρ s Q E (newL xs H)) (st : St C l ρ H s) (r : RepVs ρ s.heap xs ys) : ys.length ≤ 1000000 ∧ Q (.ref s.heap.objs.size) { s with heap := s.heap.push ⟨.type "list", none, .seq ys.toArray n, #[]⟩ } := by
  unfold newL at p
  by_cases hl : xs.length ≤ 1000000
  · rw [if_pos hl] at p
    obtain ⟨e, r'⟩ := newL_at (sl := #[]) (n := n) st r
    exact ⟨r.length ▸ hl, p _ _ _ e r'⟩
  · rw [if_neg hl] at p; exact p.elim
noncomputable def fList (g : Fm → Hp → Out (List V)) : FE := fun m H => (g m H).bind newL
theorem simE_list {es pos g} (h : SimL C d sc es g) : SimE C d sc (.List es pos) (fList g) := by
  intro A env l m ρ H s Q E hb ha he fr st p
  refine List_ (h A env l m ρ H s _ E pos hb ha he fr st (PostE.bindL p fun vs H1 ρ1 ys s1 _ e1 r1 p1 => ?_))
  obtain ⟨hl, q⟩ := newL_post (n := 0) p1 e1.st r1
  exact wpAny_newObj_type q (by show ys.toArray.size ≤ sizeLine; rw [List.size_toArray, sizeLine_eq]; omega)
end
end MP
namespace MP

/-- plain data in the store -/
noncomputable def toDs (f : V → Option PyData) : List V → Option (List PyData)
  | [] => some []
  | v :: r => match f v, toDs f r with
    | some d, some ds => some (d :: ds)
    | _, _ => none
noncomputable def toD (H : Hp) : Nat → V → Option PyData
  | _, .none => some .none
  | _, .bool b => some (.bool b)
  | _, .int i => some (.int i)
  | _, .str x => if PyData.strOk x = true then some (.str x) else none
  | n + 1, .tup vs => (toDs (toD H n) vs).map .tuple
  | n + 1, .ref l => match H[l]? with
    | some (.list xs) => (toDs (toD H n) xs).map .list
    | _ => none
  | 0, .tup _ => none
  | 0, .ref _ => none

section
variable {C : Cx} {d : Nat} {sc : Scope}

noncomputable def DOk (H : Hp) (h : Heap) (n : Nat) (x : Value) (dt : PyData) : Prop := ∃ as, Reads h x dt as ∧ dt.canLay0 = true ∧ dt.depth ≤ n
theorem toDs_ok {ρ : Rho} {H : Hp} {h : Heap} {n : Nat} {f : V → Option PyData} (hf : ∀ v x dt, f v = some dt → RepV ρ h v x → DOk H h n x dt) {vs : List V} : ∀ {xs : List Value} {ds : List PyData}, toDs f vs = some ds → RepVs ρ h vs xs →
    ∃ as, ReadsAll h xs ds as ∧ PyData.canLayAll0 ds = true ∧ PyData.depthAll ds ≤ n := by
  induction vs with
  | nil => intro xs ds e r; cases e; cases r.invN; exact ⟨_, .nil, by simp [PyData.canLayAll0], by simp [PyData.depthAll]⟩
  | cons v vs ih =>
    intro xs ds e q
    obtain ⟨x, xs, rfl, r, rs⟩ := q.inv
    unfold toDs at e
    cases h1 : f v with
    | none => rw [h1] at e; cases e
    | some d1 =>
      cases h2 : toDs f vs with
      | none => rw [h1, h2] at e; cases e
      | some d2 =>
        rw [h1, h2] at e
        cases e
        obtain ⟨as, ra, ca, da⟩ := hf _ _ _ h1 r
        obtain ⟨bs, rb, cb, db⟩ := ih h2 rs
        exact ⟨_, .cons ra rb, by rw [PyData.canLayAll0, ca, cb]; rfl, by rw [PyData.depthAll]; exact Nat.max_le.mpr ⟨da, db⟩⟩
set_option tactic.hygienic true in
theorem toD_ok {l ρ H s} (st : St C l ρ H s) : ∀ (n : Nat) (v : V) (x : Value) (dt : PyData), toD H n v = some dt → RepV ρ s.heap v x → DOk H s.heap n x dt := by
  intro n
  induction n with
  | zero =>
    intro v x dt e r
    cases r with
    | none => cases e; exact ⟨_, .none, rfl, by simp [PyData.depth]⟩
    | bool b => cases e; exact ⟨_, .bool b, rfl, by simp [PyData.depth]⟩
    | int i t => cases e; exact ⟨_, .int i t, rfl, by simp [PyData.depth]⟩
    | str x t =>
      unfold toD at e
      by_cases hx : PyData.strOk x = true
      · rw [if_pos hx] at e; cases e; exact ⟨_, .str x t, by simpa [PyData.canLay0] using hx, by simp [PyData.depth]⟩
      · rw [if_neg hx] at e; cases e
    | tup => cases e
    | ref => cases e
  | succ n ih =>
    intro v x dt e r
    cases r with
    | none => cases e; exact ⟨_, .none, rfl, by simp [PyData.depth]⟩
    | bool b => cases e; exact ⟨_, .bool b, rfl, by simp [PyData.depth]⟩
    | int i t => cases e; exact ⟨_, .int i t, rfl, by simp [PyData.depth]⟩
    | str x t =>
      unfold toD at e
      by_cases hx : PyData.strOk x = true
      · rw [if_pos hx] at e; cases e; exact ⟨_, .str x t, by simpa [PyData.canLay0] using hx, by simp [PyData.depth]⟩
      · rw [if_neg hx] at e; cases e
    | tup m g c dd rs =>
      rename_i vs a o items n'
      unfold toD at e
      cases q : toDs (toD H n) vs with
      | none => rw [q] at e; cases e
      | some ds =>
        rw [q] at e; cases e
        obtain ⟨as, ra, ca, da⟩ := toDs_ok (H := H) ih q rs
        exact ⟨_, .tuple g c dd ra, by simpa [PyData.canLay0] using ca, by rw [PyData.depth]; omega⟩
    | ref hp =>
      rename_i j a dd
      unfold toD at e
      cases ho : H[j]? with
      | none => rw [ho] at e; cases e
      | some ob =>
        rw [ho] at e
        cases ob with
        | list xs =>
          dsimp only at e
          obtain ⟨items, hl, rs, _, ⟨n', sl, g⟩, _⟩ := rep_list st ho hp
          cases q : toDs (toD H n) xs with
          | none => rw [q] at e; cases e
          | some ds =>
            rw [q] at e; cases e
            obtain ⟨as, ra, ca, da⟩ := toDs_ok (H := H) ih q rs
            exact ⟨_, .list g rfl rfl ra, by simpa [PyData.canLay0] using ca, by rw [PyData.depth]; omega⟩
        | _ => cases e

noncomputable def oEq : V → V → Hp → Out V := fun v w H => match toD H 20 v, toD H 20 w with
  | some a, some b => .ok (.bool (PyData.eqv a b)) H
  | _, _ => .bad
noncomputable def oNe : V → V → Hp → Out V := fun v w H => match toD H 20 v, toD H 20 w with
  | some a, some b => .ok (.bool !(PyData.eqv a b)) H
  | _, _ => .bad
theorem Bud.roomC {d A n} (b : Bud d A) (h : n ≤ 100) : A.units + n < cLine := by have := b.2.1; show _ < 9900; omega
theorem simO_eq : SimO C d (compareOp .Eq) oEq := by
  intro A l v w x y ρ H s Q E hb ha st r1 r2 p
  unfold oEq at p
  cases h1 : toD H 20 v with
  | none => rw [h1] at p; exact p.elim
  | some a =>
    cases h2 : toD H 20 w with
    | none => rw [h1, h2] at p; exact p.elim
    | some b =>
      rw [h1, h2] at p
      obtain ⟨as, ra, ca, da⟩ := toD_ok st 20 v x a h1 r1
      obtain ⟨bs, rb, cb, db⟩ := toD_ok st 20 w y b h2 r2
      exact SeqAt.compareEq_reads ra rb ca cb (hb.roomC (Nat.le_trans (Nat.min_le_left _ _) (by omega))) (p ρ _ s (.refl st) (.bool _))
theorem simO_ne : SimO C d (compareOp .NotEq) oNe := by
  intro A l v w x y ρ H s Q E hb ha st r1 r2 p
  unfold oNe at p
  cases h1 : toD H 20 v with
  | none => rw [h1] at p; exact p.elim
  | some a =>
    cases h2 : toD H 20 w with
    | none => rw [h1, h2] at p; exact p.elim
    | some b =>
      rw [h1, h2] at p
      obtain ⟨as, ra, ca, da⟩ := toD_ok st 20 v x a h1 r1
      obtain ⟨bs, rb, cb, db⟩ := toD_ok st 20 w y b h2 r2
      exact SeqAt.compareNe_reads ra rb ca cb (hb.roomC (Nat.le_trans (Nat.min_le_left _ _) (by omega))) (p ρ _ s (.refl st) (.bool _))

/-- integers -/
noncomputable def oLt : V → V → Hp → Out V := fun v w H => match v, w with | .int a, .int b => .ok (.bool (decide (a < b))) H | _, _ => .bad
noncomputable def oLe : V → V → Hp → Out V := fun v w H => match v, w with | .int a, .int b => .ok (.bool (decide (a ≤ b))) H | _, _ => .bad
noncomputable def oGt : V → V → Hp → Out V := fun v w H => match v, w with | .int a, .int b => .ok (.bool (decide (a > b))) H | _, _ => .bad
noncomputable def oGe : V → V → Hp → Out V := fun v w H => match v, w with | .int a, .int b => .ok (.bool (decide (a ≥ b))) H | _, _ => .bad
theorem simO_lt : SimO C d (compareOp .Lt) oLt := by
  intro A l v w x y ρ H s Q E hb ha st r1 r2 p
  cases r1 with
  | int a t => cases r2 with
    | int b u => exact P.lt_int (p ρ _ s (.refl st) (.bool _))
    | _ => exact p.elim
  | _ => exact p.elim
theorem simO_le : SimO C d (compareOp .LtE) oLe := by
  intro A l v w x y ρ H s Q E hb ha st r1 r2 p
  cases r1 with
  | int a t => cases r2 with
    | int b u => exact P.le_int (p ρ _ s (.refl st) (.bool _))
    | _ => exact p.elim
  | _ => exact p.elim

noncomputable def isNone : V → Bool | .none => true | _ => false
noncomputable def oIsNone : V → V → Hp → Out V := fun v w H => match w with | .none => .ok (.bool (isNone v)) H | _ => .bad
noncomputable def oNotNone : V → V → Hp → Out V := fun v w H => match w with | .none => .ok (.bool !(isNone v)) H | _ => .bad
theorem rep_isNone {ρ h v x} (r : RepV ρ h v x) : (x == .none) = isNone v := by cases r <;> rfl
theorem simO_isNone : SimO C d (compareOp .Is) oIsNone := by
  intro A l v w x y ρ H s Q E hb ha st r1 r2 p
  cases r2 with
  | none =>
    refine is_none (p ρ _ s (.refl st) ?_)
    rw [rep_isNone r1]; exact .bool _
  | _ => exact p.elim
theorem simO_notNone : SimO C d (compareOp .IsNot) oNotNone := by
  intro A l v w x y ρ H s Q E hb ha st r1 r2 p
  cases r2 with
  | none =>
    refine isNot_none (p ρ _ s (.refl st) ?_)
    rw [rep_isNone r1]; exact .bool _
  | _ => exact p.elim

theorem list_at {l ρ H s} (st : St C l ρ H s) {i : Nat} {xs : List V} {y : Value} (ho : H[i]? = some (.list xs)) (r : RepV ρ s.heap (.ref i) y) : ∃ a items n sl, y = .ref a ∧ s.heap.get? a = some ⟨.type "list", none, .seq items n, sl⟩ ∧ RepVs ρ s.heap xs items.toList ∧ ρ[i]? = some (a, a) := by
  cases r with
  | ref hp =>
    obtain ⟨items, hl, rs, _, ⟨n, sl, g⟩, e⟩ := rep_list st ho hp
    exact ⟨_, items, n, sl, rfl, g, rs, e ▸ hp⟩

noncomputable def oAdd : V → V → Hp → Out V := fun v w H => match v, w with
  | .int a, .int b => .ok (.int (a + b)) H
  | .str a, .str b => if a.length ≤ 1000 ∧ b.length ≤ 1000 then .ok (.str (a ++ b)) H else .bad
  | .ref i, .ref j => (match H[i]?, H[j]? with
    | some (.list xs), some (.list ys) => newL (xs ++ ys) H
    | _, _ => .bad)
  | _, _ => .bad
theorem str_nil {x : Str} (h : (x.length == 0) = true) : x = ⟨#[]⟩ := by
  cases x with
  | mk c =>
    have : c.size = 0 := by simpa [Str.length] using h
    rw [Array.eq_empty_of_size_eq_zero this]
set_option tactic.hygienic true in
theorem simO_add : SimO C d (binaryOp .Add) oAdd := by
  intro A l v w x y ρ H s Q E hb ha st r1 r2 p
  cases v with
  | int a =>
    cases w with
    | int b =>
      cases r1; cases r2
      exact P.add_int (p ρ _ _ (.tok st) (.int _ _))
    | _ => exact p.elim
  | str a =>
    cases w with
    | str b =>
      cases r1; cases r2
      unfold oAdd at p
      dsimp only at p
      by_cases hl : a.length ≤ 1000 ∧ b.length ≤ 1000
      · rw [if_pos hl] at p
        refine P.add_str ?_
        split
        · rename_i hz
          rw [str_nil hz] at p
          exact p ρ _ s (.refl st) (by
            have : (⟨#[]⟩ ++ b : Str) = b := by cases b; show Str.mk (#[] ++ _) = _; simp
            rw [this]; exact .str _ _)
        · split
          · rename_i hz
            rw [str_nil hz] at p
            exact p ρ _ s (.refl st) (by
              have : (a ++ ⟨#[]⟩ : Str) = a := by cases a; show Str.mk (_ ++ #[]) = _; simp
              rw [this]; exact .str _ _)
          · exact ⟨by rw [strLen_append, sizeLine_eq]; omega, p ρ _ _ (.tok st) (.str _ _)⟩
      · rw [if_neg hl] at p; exact p.elim
    | _ => exact p.elim
  | ref i =>
    cases w with
    | ref j =>
      unfold oAdd at p
      dsimp only at p
      split at p
      · rename_i xs ys hx hy
        obtain ⟨a, items, n, sl, rfl, g, rs, _⟩ := list_at st hx r1
        obtain ⟨b, items2, n2, sl2, rfl, g2, rs2, _⟩ := list_at st hy r2
        have e : (items ++ items2).toList = items.toList ++ items2.toList := by simp
        obtain ⟨hl, q⟩ := newL_post (n := 0) p st (rs.append rs2)
        refine concat_meets ⟨_, g, rfl⟩ ⟨_, g2, rfl⟩ noFill_list_add seq_list_add PySem.F.slot_list_add PySem.F.entry_list_add (PySem.F.args_list_add_2 _ _) (list_addW a b items items2 n n2 none none sl sl2 (by rw [sizeLine_eq]; simp at hl ⊢; omega)) ⟨g, g2, ?_⟩
        have e2 : (items.toList ++ items2.toList).toArray = items ++ items2 := by simp
        rw [e2] at q
        exact q
      · exact p.elim
    | _ => exact p.elim
  | _ => exact p.elim

noncomputable def oSub : V → V → Hp → Out V := fun v w H => match v, w with | .int a, .int b => .ok (.int (a - b)) H | _, _ => .bad
theorem simO_sub : SimO C d (binaryOp .Sub) oSub := by
  intro A l v w x y ρ H s Q E hb ha st r1 r2 p
  cases r1 with
  | int a t => cases r2 with
    | int b u => exact P.sub_int (p ρ _ _ (.tok st) (.int _ _))
    | _ => exact p.elim
  | _ => exact p.elim
noncomputable def oMul : V → V → Hp → Out V := fun v w H => match v, w with | .int a, .int b => if -1000000000000 ≤ a ∧ a ≤ 1000000000000 then .ok (.int (a * b)) H else .bad | _, _ => .bad
theorem simO_mul : SimO C d (binaryOp .Mult) oMul := by
  intro A l v w x y ρ H s Q E hb ha st r1 r2 p
  cases r1 with
  | int a t => cases r2 with
    | int b u =>
      unfold oMul at p
      dsimp only at p
      by_cases h : -1000000000000 ≤ a ∧ a ≤ 1000000000000
      · rw [if_pos h] at p
        exact P.mul_int (p ρ _ _ (.tok st) (.int _ _)) (IntMulOk.of_left (intBits_le_64 (by omega) (by omega)))
      · rw [if_neg h] at p; exact p.elim
    | _ => exact p.elim
  | _ => exact p.elim
noncomputable def oMod : V → V → Hp → Out V := fun v w H => match v, w with | .int a, .int b => if b = 0 then .bad else .ok (.int (a.fmod b)) H | _, _ => .bad
theorem simO_mod : SimO C d (binaryOp .Mod) oMod := by
  intro A l v w x y ρ H s Q E hb ha st r1 r2 p
  cases r1 with
  | int a t => cases r2 with
    | int b u =>
      unfold oMod at p
      dsimp only at p
      by_cases h : b = 0
      · rw [if_pos h] at p; exact p.elim
      · rw [if_neg h] at p
        exact mod_int' h (p ρ _ _ (.tok st) (.int _ _))
    | _ => exact p.elim
  | _ => exact p.elim
noncomputable def oDiv : V → V → Hp → Out V := fun v w H => match v, w with | .int a, .int b => if b = 0 ∨ 1000000000 < b.natAbs then .bad else .ok (.int (a.fdiv b)) H | _, _ => .bad
theorem simO_div : SimO C d (binaryOp .FloorDiv) oDiv := by
  intro A l v w x y ρ H s Q E hb ha st r1 r2 p
  cases r1 with
  | int a t => cases r2 with
    | int b u =>
      unfold oDiv at p
      dsimp only at p
      by_cases h : b = 0 ∨ 1000000000 < b.natAbs
      · rw [if_pos h] at p; exact p.elim
      · rw [if_neg h] at p
        exact floordiv_int (by omega) (p ρ _ _ (.tok st) (.int _ _)) (Or.inl (PyProof.noPylong_small (by omega)))
    | _ => exact p.elim
  | _ => exact p.elim
/-- a square -/
noncomputable def oSq : V → V → Hp → Out V := fun v w H => match v, w with | .int a, .int b => if b = 2 ∧ 2 ≤ a ∧ a ≤ 1000000000000 then .ok (.int (a * a)) H else if b = 2 ∧ (a = 0 ∨ a = 1) then .ok (.int a) H else .bad | _, _ => .bad
theorem simO_sq : SimO C d (binaryOp .Pow) oSq := by
  intro A l v w x y ρ H s Q E hb ha st r1 r2 p
  cases r1 with
  | int a t => cases r2 with
    | int b u =>
      unfold oSq at p
      dsimp only at p
      by_cases h : b = 2 ∧ 2 ≤ a ∧ a ≤ 1000000000000
      · rw [if_pos h] at p
        obtain ⟨rfl, h1, h2⟩ := h
        refine PySem.AutoIntOps.pow_4 (by decide) (by decide) (by simp; omega) (by simp; omega) ?_ ?_
        · have := intBits_le_64 (k := a) (by omega) (by omega)
          unfold Builtin.Int.intTooBig
          rw [bitsLine_eq]
          simp only [decide_eq_true_eq]
          omega
        · have : a ^ (2 : Int).toNat = a * a := by show a ^ 2 = _; rw [Int.pow_succ, Int.pow_succ, Int.pow_zero, Int.one_mul]
          rw [this]
          exact p ρ _ _ (.tok st) (.int _ _)
      · rw [if_neg h] at p
        by_cases h : b = 2 ∧ (a = 0 ∨ a = 1)
        · rw [if_pos h] at p
          obtain ⟨rfl, h1⟩ := h
          refine PySem.AutoIntOps.pow_1 (by decide) (by decide) (by simp; exact h1) ?_
          exact p ρ _ _ (.tok st) (.int _ _)
        · rw [if_neg h] at p; exact p.elim
    | _ => exact p.elim
  | _ => exact p.elim

/-- member of a tuple, a list of plain data -/
noncomputable def inD (H : Hp) (v : V) (xs : List V) : Option Bool := match toD H 20 v, toDs (toD H 20) xs with
  | some a, some ds => some (ds.any fun y => PyData.eqv y a)
  | _, _ => none
noncomputable def oIn : V → V → Hp → Out V := fun v w H => match w with
  | .tup vs => (match inD H v vs with | some b => .ok (.bool b) H | none => .bad)
  | .ref i => (match H[i]? with
    | some (.list xs) => (match inD H v xs with | some b => .ok (.bool b) H | none => .bad)
    | _ => .bad)
  | _ => .bad
end
end MP
namespace MP

/-- dicts as lists of pairs -/
noncomputable def dGet {K : Type} [DecidableEq K] (kvs : List (K × V)) (k : K) : Option V := (kvs.find? fun kv => kv.1 = k).map (·.2)
noncomputable def dSet {K : Type} [DecidableEq K] (kvs : List (K × V)) (k : K) (v : V) : List (K × V) :=
  if kvs.any (fun kv => kv.1 = k) then kvs.map (fun kv => if kv.1 = k then (kv.1, v) else kv) else kvs ++ [(k, v)]
theorem dGet_cons {K : Type} [DecidableEq K] (a : K) (v : V) (r : List (K × V)) (k : K) : dGet ((a, v) :: r) k = if a = k then some v else dGet r k := by
  unfold dGet
  by_cases h : a = k
  · simp [List.find?_cons, h]
  · simp [List.find?_cons, h]
theorem valueAt_cons {K : Type} [DecidableEq K] (a : K) (v : Value) (r : List (K × Value)) (k : K) : valueAt ((a, v) :: r) k = if a = k then some v else valueAt r k := by
  unfold valueAt
  by_cases h : a = k
  · simp [List.find?_cons, h]
  · simp [List.find?_cons, h]
theorem rep_valueAt {K : Type} [DecidableEq K] {ρ : Rho} {h : Heap} {k : K} {kvs : List (K × V)} : ∀ {ys : List Value}, RepVs ρ h (kvs.map (·.2)) ys →
    (∀ v, dGet kvs k = some v → ∃ y, valueAt ((kvs.map (·.1)).zip ys) k = some y ∧ RepV ρ h v y) ∧ (dGet kvs k = none → valueAt ((kvs.map (·.1)).zip ys) k = none) := by
  induction kvs with
  | nil => intro ys r; exact ⟨fun v e => by simp [dGet] at e, fun _ => rfl⟩
  | cons p r ih =>
    intro ys q
    obtain ⟨a, v⟩ := p
    obtain ⟨y, ys, rfl, r1, rs⟩ := q.inv
    have r1 : RepV ρ h v y := r1
    have ih := ih rs
    simp only [List.map_cons, List.zip_cons_cons, dGet_cons, valueAt_cons]
    by_cases hk : a = k
    · simp only [hk, if_true]
      exact ⟨fun w e => by cases e; exact ⟨y, rfl, r1⟩, fun e => by cases e⟩
    · simp only [hk, if_false]
      exact ih
theorem any_zip {K : Type} [DecidableEq K] {k : K} {kvs : List (K × V)} : ∀ {ys : List Value}, (kvs.map (·.2)).length = ys.length → (((kvs.map (·.1)).zip ys).any fun kv => decide (kv.1 = k)) = kvs.any fun kv => decide (kv.1 = k) := by
  induction kvs with
  | nil => intro ys _; rfl
  | cons p r ih =>
    intro ys e
    cases ys with
    | nil => cases e
    | cons y ys =>
      simp only [List.map_cons, List.zip_cons_cons, List.any_cons]
      rw [ih (Nat.succ.inj e)]
theorem rep_map {K : Type} [DecidableEq K] {ρ : Rho} {h : Heap} {k : K} {v : V} {y : Value} (rv : RepV ρ h v y) {kvs : List (K × V)} : ∀ {ys : List Value}, RepVs ρ h (kvs.map (·.2)) ys →
    ∃ ys', (((kvs.map (·.1)).zip ys).map fun kv => if kv.1 = k then (kv.1, y) else kv) = ((kvs.map fun kv => if kv.1 = k then (kv.1, v) else kv).map (·.1)).zip ys' ∧ RepVs ρ h ((kvs.map fun kv => if kv.1 = k then (kv.1, v) else kv).map (·.2)) ys' := by
  induction kvs with
  | nil => intro ys r; exact ⟨[], rfl, .nil⟩
  | cons p r ih =>
    intro ys q
    obtain ⟨a, w⟩ := p
    obtain ⟨z, ys, rfl, r1, rs⟩ := q.inv
    have r1 : RepV ρ h w z := r1
    obtain ⟨ys', e, q⟩ := ih rs
    simp only [List.map_cons, List.zip_cons_cons]
    by_cases hk : a = k
    · exact ⟨y :: ys', by simp only [hk, if_true, List.zip_cons_cons, e], by simp only [hk, if_true]; exact .cons rv q⟩
    · exact ⟨z :: ys', by simp only [hk, if_false, List.zip_cons_cons, e], by simp only [hk, if_false]; exact .cons r1 q⟩
theorem rep_stored {K : Type} [DecidableEq K] {ρ : Rho} {h : Heap} {k : K} {v : V} {y : Value} (rv : RepV ρ h v y) {kvs : List (K × V)} {ys : List Value} (r : RepVs ρ h (kvs.map (·.2)) ys) :
    ∃ ys', stored ((kvs.map (·.1)).zip ys) k y = ((dSet kvs k v).map (·.1)).zip ys' ∧ RepVs ρ h ((dSet kvs k v).map (·.2)) ys' := by
  unfold stored dSet
  rw [any_zip r.length]
  split
  · exact rep_map rv r
  · refine ⟨ys ++ [y], ?_, ?_⟩
    · rw [List.map_append, List.zip_append (by simpa using r.length)]
      rfl
    · rw [List.map_append]
      exact r.append (.cons rv .nil)

section
variable {C : Cx} {d : Nat} {sc : Scope}

theorem append_own {A : Around} {prog w} {E : Value → Shared → Prop} {s : Shared} {a : Addr} {items : Array Value} {n : Nat} {sl : Array (Option Value)} {x : Value} {Q : Value → Shared → Prop} (g : s.heap.get? a = some ⟨.type "list", none, .seq items n, sl⟩)
    (h : ∀ h' n', h'.get? a = some ⟨.type "list", none, .seq (items.push x) n', sl⟩ → Heap.SameBut a s.heap h' → Q .none { s with heap := h' }) (hsz : items.size ≤ sizeLine) :
    wpAny (model prog w) A (call (.builtin "list.append") [.ref a, x]) Q E s := by
  refine wpAny_call_entry slot_list_append ⟨_, g, rfl⟩ entry_list_append ?_ (args_list_append _ _)
  show wpAny _ _ (updateSeq a (·.push x) >>= fun _ => ret .none) _ _ s
  refine wpAny_bind ?_
  have e : Obj.mapSeq (·.push x) ⟨.type "list", none, .seq items n, sl⟩ = ⟨.type "list", none, .seq (items.push x) (n + 1), sl⟩ := by simp [Obj.mapSeq]
  refine wpAny_updateSeq g rfl (wpAny_pure ⟨.none, rfl, h _ (n + 1) ?_ (Heap.SameBut.update ..)⟩)
  rw [Heap.get?_update_self _ g (by rw [e]; rfl), e]

theorem setItem_own {A : Around} {prog w} {E : Value → Shared → Prop} {s : Shared} {a : Addr} {items : Array Value} {n : Nat} {sl : Array (Option Value)} {k : Int} {t : Tok} {v : Value} {Q : Unit → Shared → Prop} (g : s.heap.get? a = some ⟨.type "list", none, .seq items n, sl⟩)
    (h0 : 0 ≤ k) (hfit : k < 2 ^ 63) (hn : k < items.size)
    (hQ : ∀ h' n', h'.get? a = some ⟨.type "list", none, .seq (items.setIfInBounds k.toNat v) n', sl⟩ → Heap.SameBut a s.heap h' → Q () { s with heap := h' }) :
    wpAny (model prog w) A (setItem (.ref a) (.int k t) v) Q E s := by
  have hl : s.heap.IsList a items := ⟨_, g, rfl, n, rfl⟩
  unfold setItem
  try with_reducible refine wpAny_holding ?_
  first | refine wpAny_bind (wpAny_pure ?_) | skip
  refine wpAny_bind (wpAny_sequenceKey hl.typeIs (by decide) ?_)
  refine wpAny_bind (wpAny_callSpecial?_slot (name := Str.ofString "__setitem__") hl.typeIs slot_list_setitem
    (wpAny_call_entry slot_list_setitem hl.typeIs entry_list_setitem ?_ (args_list_setitem _ _ _)))
  show wpAny _ _ (Builtin.List.listSubscript? (.int k t) >>= _) _ _ s
  refine wpAny_bind (wpAny_listSubscript_int (fitsIndex_of h0 hfit) ?_)
  clear hfit
  obtain ⟨j, rfl⟩ := Int.eq_ofNat_of_zero_le h0
  have hj : j < items.size := by omega
  have hx' : items[j]? = some items[j] := Array.getElem?_eq_getElem hj
  show wpAny _ _ ((seqItemAt a j >>= fun r => pure (r.map (j, ·))) >>= _) _ _ s
  refine wpAny_bind (wpAny_bind (wpAny_seqItemAt g rfl (wpAny_pure ?_)))
  rw [hx']
  show wpAny _ _ (setSeqItemAt a j v >>= _) _ _ s
  have e : ∃ n', Obj.mapSeq (·.setIfInBounds j v) ⟨.type "list", none, .seq items n, sl⟩ = ⟨.type "list", none, .seq (items.setIfInBounds j v) n', sl⟩ := ⟨_, rfl⟩
  obtain ⟨n', e⟩ := e
  have hfin : (s.heap.update a (Obj.mapSeq (·.setIfInBounds j v))).get? a = some ⟨.type "list", none, .seq (items.setIfInBounds j v) n', sl⟩ := by
    rw [Heap.get?_update_self _ g (by rw [e]; rfl), e]
  refine wpAny_bind (wpAny_setSeqItemAt g rfl ?_)
  first
    | exact wpAny_bind (wpAny_pure (wpAny_pure ⟨.none, rfl, wpAny_pure (hQ _ n' hfin (Heap.SameBut.update ..))⟩))
    | exact wpAny_pure ⟨.none, rfl, wpAny_pure (hQ _ n' hfin (Heap.SameBut.update ..))⟩

/-- an index -/
noncomputable def idx (n : Nat) (k : Int) : Option Nat := if k < 1000000000 ∧ -1000000000 ≤ k then (if 0 ≤ k then (if k < n then some k.toNat else none) else if -(n : Int) ≤ k then some (k + n).toNat else none) else none
set_option tactic.hygienic true in
theorem idx_seq {n : Nat} {k : Int} {j : Nat} (h : idx n k = some j) : seqIndex? k n = some j ∧ k < 1000000000 ∧ -1000000000 ≤ k := by
  unfold idx at h
  split at h
  · rename_i hk
    refine ⟨?_, hk⟩
    unfold seqIndex?
    split at h
    · rename_i h0
      split at h
      · rename_i h1
        cases h
        have : ¬ k < 0 := by omega
        simp only [this, if_false]
        rw [if_pos (by simp only [Bool.and_eq_true, decide_eq_true_eq]; omega)]
      · cases h
    · rename_i h0
      split at h
      · rename_i h1
        cases h
        have : k < 0 := by omega
        simp only [this, if_true]
        rw [if_pos (by simp only [Bool.and_eq_true, decide_eq_true_eq]; omega)]
      · cases h
  · cases h
set_option tactic.hygienic true in
theorem getItem_list_idx {A : Around} {prog w} {E : Value → Shared → Prop} {s : Shared} {l : Addr} {items : Array Value} {k : Int} {t : Tok} {x : Value} {j : Nat} {Q : Value → Shared → Prop} (hl : s.heap.IsList l items) (hj : idx items.size k = some j) (hx : items[j]? = some x) (h : Q x s) :
    wpAny (model prog w) A (getItem (.ref l) (.int k t)) Q E s := by
  unfold idx at hj
  split at hj
  · rename_i hk
    split at hj
    · rename_i h0
      split at hj
      · cases hj
        exact wpAny_getItem_list hl h0 (by omega) hx h
      · cases hj
    · rename_i h0
      split at hj
      · rename_i h1
        cases hj
        exact wpAny_getItem_list_neg hl (by omega) h1 (by omega) hx h
      · cases hj
  · cases hj

noncomputable def oItem : V → V → Hp → Out V := fun v w H => match v, w with
  | .tup vs, .int k => (match idx vs.length k with
    | some j => (match vs[j]? with | some x => .ok x H | none => .bad)
    | none => .bad)
  | .ref i, .int k => (match H[i]? with
    | some (.list xs) => (match idx xs.length k with
      | some j => (match xs[j]? with | some x => .ok x H | none => .bad)
      | none => .bad)
    | some (.dictI kvs) => (match dGet kvs k with | some x => .ok x H | none => .bad)
    | _ => .bad)
  | .ref i, .str k => (match H[i]? with
    | some (.dictS kvs) => (match dGet kvs k with | some x => .ok x H | none => .bad)
    | _ => .bad)
  | _, _ => .bad

set_option tactic.hygienic true in
theorem getItem_own {A : Around} {l : List Env} {v w : V} {x y : Value} {ρ : Rho} {H : Hp} {s : Shared} {Q E : Value → Shared → Prop} (st : St C l ρ H s) (r1 : RepV ρ s.heap v x) (r2 : RepV ρ s.heap w y) (p : PostE C l none ρ s Q E (oItem v w H)) :
    wpAny (model C.prog C.w) A (getItem x y) Q E s ∧ ∃ T id, s.TypeIs x T ∧ typeLookup (.type T) "__getitem__" = pure (some (.builtin id)) := by
  cases v with
  | tup vs =>
    cases w with
    | int k =>
      cases r1 with
      | tup hm g c dd rs =>
      rename_i a o items n
      cases r2 with
      | int _ t =>
      have ht : IsTup s.heap a items := ⟨_, g, c, _, dd⟩
      refine ⟨?_, _, _, ht.typeIs, slot_tuple_getitem.lookup⟩
      unfold oItem at p
      dsimp only at p
      have hlen : vs.length = items.size := by rw [rs.length, Array.length_toList]
      cases hj : idx vs.length k with
      | none => rw [hj] at p; exact p.elim
      | some j =>
        rw [hj] at p
        dsimp only at p
        cases hx : vs[j]? with
        | none => rw [hx] at p; exact p.elim
        | some u =>
          rw [hx] at p
          obtain ⟨z, hz, rz⟩ := rs.get hx
          obtain ⟨h1, h2, h3⟩ := idx_seq hj
          exact getItem_tuple ht (by omega) (by omega) (by rw [← hlen]; exact h1) (by rw [← Array.getElem?_toList]; exact hz) (p ρ _ s (.refl st) rz)
    | _ => exact p.elim
  | ref i =>
    cases w with
    | int k =>
      cases r2 with
      | int _ t =>
      unfold oItem at p
      dsimp only at p
      cases ho : H[i]? with
      | none => rw [ho] at p; exact p.elim
      | some ob =>
        rw [ho] at p
        cases ob with
        | list xs =>
          dsimp only at p
          obtain ⟨a, items, n, sl, rfl, g, rs, hp⟩ := list_at st ho r1
          have hl : s.heap.IsList a items := ⟨_, g, rfl, n, rfl⟩
          refine ⟨?_, _, _, hl.typeIs, slot_list_getitem.lookup⟩
          have hlen : xs.length = items.size := by rw [rs.length, Array.length_toList]
          cases hj : idx xs.length k with
          | none => rw [hj] at p; exact p.elim
          | some j =>
            rw [hj] at p
            dsimp only at p
            cases hx : xs[j]? with
            | none => rw [hx] at p; exact p.elim
            | some u =>
              rw [hx] at p
              obtain ⟨z, hz, rz⟩ := rs.get hx
              exact getItem_list_idx hl (hlen ▸ hj) (by rw [← Array.getElem?_toList]; exact hz) (p ρ _ s (.refl st) rz)
        | dictI kvs =>
          dsimp only at p
          cases r1 with
          | ref hp =>
          obtain ⟨e, ys, hd, rs⟩ := st.rep.obj i _ _ ho hp
          refine ⟨?_, _, _, hd.typeIs, slot_dict_getitem.lookup⟩
          cases hx : dGet kvs k with
          | none => rw [hx] at p; exact p.elim
          | some u =>
            rw [hx] at p
            obtain ⟨z, hz, rz⟩ := (rep_valueAt (k := k) rs).1 u hx
            exact wpAny_getItem_of (knd := intKind C.prog C.w) (by simp [intKind, Value.isInt]) hd.mapOf hz (p ρ _ _ (.tok st) rz)
        | _ => exact p.elim
    | str k =>
      cases r2 with
      | str _ t =>
      unfold oItem at p
      dsimp only at p
      cases ho : H[i]? with
      | none => rw [ho] at p; exact p.elim
      | some ob =>
        rw [ho] at p
        cases ob with
        | dictS kvs =>
          dsimp only at p
          cases r1 with
          | ref hp =>
          obtain ⟨e, ys, hd, rs⟩ := st.rep.obj i _ _ ho hp
          refine ⟨?_, _, _, hd.typeIs, slot_dict_getitem.lookup⟩
          cases hx : dGet kvs k with
          | none => rw [hx] at p; exact p.elim
          | some u =>
            rw [hx] at p
            obtain ⟨z, hz, rz⟩ := (rep_valueAt (k := k) rs).1 u hx
            exact wpAny_getItem_of (knd := PySem.strKind C.prog C.w) (by simp [PySem.strKind, Value.isStrOf]) hd.mapOf hz (p ρ _ _ (.tok st) rz)
        | _ => exact p.elim
    | _ => exact p.elim
  | _ => exact p.elim

noncomputable def fSub (f g : FE) : FE := fBin oItem f g
theorem simE_sub {e i pos f g} (h1 : SimE C d sc e f) (h2 : SimE C d sc i g) (hs : ∀ o iv, subscripted i false o iv = operate [o, iv] (getItem o iv)) : SimE C d sc (.Subscript e i pos) (fSub f g) := by
  intro A env l m ρ H s Q E hb ha he fr st p
  refine Subscript_ (h1 A env l m ρ H s _ E hb ha he fr st (PostE.bind p fun v H1 ρ1 x s1 _ e1 r1 p1 => ?_))
  refine h2 A env l m ρ1 H1 s1 _ E hb ha he (fr.ev st e1) e1.st (PostE.bind p1 fun w H2 ρ2 y s2 _ e2 r2 p2 => ?_)
  obtain ⟨hg, T, id, hT, hl⟩ := getItem_own (A := A) e2.st (r1.ev0 e1.st e2) r2 p2.any
  exact tail_any hT hl hg (hs _ _)

/-- keys that are tuples -/
noncomputable def vInts : List V → Option (List Int)
  | [] => some []
  | .int i :: r => (vInts r).map (i :: ·)
  | _ => none
noncomputable def toTK : V → Option TK
  | .tup [.str a, .tup ks, .int b, .int c] => (vInts ks).map fun is => (a, is, b, c)
  | _ => none
theorem vInts_eq {vs : List V} : ∀ {is : List Int}, vInts vs = some is → vs = is.map .int := by
  induction vs with
  | nil => intro is e; cases e; rfl
  | cons v r ih =>
    intro is e
    cases v with
    | int i =>
      unfold vInts at e
      cases q : vInts r with
      | none => rw [q] at e; cases e
      | some js => rw [q] at e; cases e; rw [ih q]; rfl
    | _ => cases e
set_option tactic.hygienic true in
theorem toTK_eq {v : V} {k : TK} (e : toTK v = some k) : v = tkV k := by
  unfold toTK at e
  split at e
  · rename_i a ks b c
    cases q : vInts ks with
    | none => rw [q] at e; cases e
    | some is => rw [q] at e; cases e; rw [vInts_eq q]; rfl
  · cases e
theorem rep_ints {prog w} {ρ : Rho} {h : Heap} {is : List Int} : ∀ {xs : List Value}, RepVs ρ h (is.map .int) xs → ItemsAre (intKind prog w) is xs := by
  induction is with
  | nil => intro xs r; cases r.invN; exact .nil
  | cons i is ih =>
    intro xs q
    obtain ⟨y, ys, rfl, r, rs⟩ := q.inv
    cases r
    exact .cons (by simp [intKind, Value.isInt]) (ih rs)
set_option tactic.hygienic true in
theorem rep_tk {prog w} {ρ : Rho} {h : Heap} {k : TK} {y : Value} (r : RepV ρ h (tkV k) y) : ∃ a, y = .ref a ∧ IsTK prog w h k a := by
  unfold tkV at r
  cases r with
  | tup hm g c d rs =>
    rename_i a o items n
    generalize hits : items.toList = its at rs
    cases rs with
    | cons r1 rs => cases rs with
      | cons r2 rs => cases rs with
        | cons r3 rs => cases rs with
          | cons r4 rs =>
            cases rs
            cases r1; cases r3; cases r4
            cases r2 with
            | tup hm2 g2 c2 d2 rs2 => exact ⟨a, rfl, o, items, n, _, _, _, _, g, c, d, hits, ⟨_, _, _, g2, c2, d2, rep_ints rs2⟩⟩
theorem keys_any {kvs : List (TK × V)} {xs : List (TK × Addr × Value)} {k : TK} (e : kvs.map (·.1) = xs.map (·.1)) : (kvs.any fun kv => decide (kv.1 = k)) = (atKey xs k).isSome := by
  induction kvs generalizing xs with
  | nil => cases xs with
    | nil => rfl
    | cons _ _ => cases e
  | cons a r ih =>
    cases xs with
    | nil => cases e
    | cons b q =>
      simp only [List.map_cons, List.cons.injEq] at e
      rw [List.any_cons, ih e.2, e.1]
      unfold atKey
      rw [List.find?_cons]
      by_cases h : b.1 = k
      · simp [h]
      · simp [h]
theorem rep_dGetT {ρ : Rho} {h : Heap} {k : TK} {kvs : List (TK × V)} : ∀ {xs : List (TK × Addr × Value)}, kvs.map (·.1) = xs.map (·.1) → RepVs ρ h (kvs.map (·.2)) (xs.map (·.2.2)) →
    (∀ v, dGet kvs k = some v → ∃ y, (atKey xs k).map (·.2) = some y ∧ RepV ρ h v y) ∧ (dGet kvs k = none → (atKey xs k).map (·.2) = none) := by
  induction kvs with
  | nil =>
    intro xs e r
    cases xs with
    | nil => exact ⟨fun v e => by simp [dGet] at e, fun _ => rfl⟩
    | cons _ _ => cases e
  | cons p r ih =>
    intro xs e q
    obtain ⟨a, v⟩ := p
    cases xs with
    | nil => cases e
    | cons b xs => ?_
    obtain ⟨_, _, ee, r1, rs⟩ := q.inv
    obtain ⟨e1, e2⟩ := List.cons.inj e
    obtain ⟨f1, f2⟩ := List.cons.inj ee
    subst f1 f2
    have r1 : RepV ρ h v b.2.2 := r1
    have e1 : a = b.1 := e1
    have ih := ih e2 rs
    rw [dGet_cons]
    unfold atKey at ih ⊢
    rw [List.find?_cons, ← e1]
    by_cases hk : a = k
    · simp only [hk, if_true, decide_true]
      exact ⟨fun w ew => by cases ew; exact ⟨_, rfl, r1⟩, fun z => by cases z⟩
    · simp only [hk, if_false, decide_false]
      exact ih
theorem rep_mapT {ρ : Rho} {h : Heap} {k : TK} {v : V} {y : Value} (rv : RepV ρ h v y) {kvs : List (TK × V)} : ∀ {xs : List (TK × Addr × Value)}, kvs.map (·.1) = xs.map (·.1) → RepVs ρ h (kvs.map (·.2)) (xs.map (·.2.2)) →
    (kvs.map fun kv => if kv.1 = k then (kv.1, v) else kv).map (·.1) = (xs.map (putAt k y)).map (·.1) ∧ RepVs ρ h ((kvs.map fun kv => if kv.1 = k then (kv.1, v) else kv).map (·.2)) ((xs.map (putAt k y)).map (·.2.2)) := by
  induction kvs with
  | nil =>
    intro xs e r
    cases xs with
    | nil => exact ⟨rfl, .nil⟩
    | cons _ _ => cases e
  | cons p r ih =>
    intro xs e q
    obtain ⟨a, w⟩ := p
    cases xs with
    | nil => cases e
    | cons b xs => ?_
    obtain ⟨_, _, ee, r1, rs⟩ := q.inv
    obtain ⟨e1, e2⟩ := List.cons.inj e
    obtain ⟨f1, f2⟩ := List.cons.inj ee
    subst f1 f2
    have r1 : RepV ρ h w b.2.2 := r1
    have e1 : a = b.1 := e1
    obtain ⟨q1, q2⟩ := ih e2 rs
    simp only [List.map_cons]
    unfold putAt at q1 q2 ⊢
    by_cases hk : a = k
    · have hb : b.1 = k := e1 ▸ hk
      simp only [hk, hb, if_true]
      exact ⟨by rw [q1], .cons rv q2⟩
    · have hb : ¬ b.1 = k := e1 ▸ hk
      simp only [hk, hb, if_false]
      exact ⟨by rw [e1, q1], .cons r1 q2⟩
theorem rep_storedT {ρ : Rho} {h : Heap} {k : TK} {a : Addr} {v : V} {y : Value} (rv : RepV ρ h v y) (rk : RepV ρ h (tkV k) (.ref a)) {kvs : List (TK × V)} {xs : List (TK × Addr × Value)} (e : kvs.map (·.1) = xs.map (·.1)) (r : RepVs ρ h (kvs.map (·.2)) (xs.map (·.2.2)))
    (ks : ∀ x ∈ xs, RepV ρ h (tkV x.1) (.ref x.2.1)) : (dSet kvs k v).map (·.1) = (storedH xs k a y).map (·.1) ∧ RepVs ρ h ((dSet kvs k v).map (·.2)) ((storedH xs k a y).map (·.2.2)) ∧ ∀ x ∈ storedH xs k a y, RepV ρ h (tkV x.1) (.ref x.2.1) := by
  unfold dSet storedH
  rw [keys_any e]
  split
  · obtain ⟨q1, q2⟩ := rep_mapT rv e r
    refine ⟨q1, q2, fun x hx => ?_⟩
    obtain ⟨z, hz, rfl⟩ := List.mem_map.mp hx
    unfold putAt
    split <;> exact ks z hz
  · refine ⟨by simp [e], by rw [List.map_append, List.map_append]; exact r.append (.cons rv .nil), fun x hx => ?_⟩
    rcases List.mem_append.mp hx with hx | hx
    · exact ks x hx
    · rw [List.mem_singleton.mp hx]; exact rk
theorem RepV.put {ρ : Rho} {h h' : Heap} {a : Addr} {v y} (r : RepV ρ h v y) (x : Heap.SameBut a h h') (hm : muts ρ a) : RepV ρ h' v y :=
  r.keep (X := No) (.sameBut x) (fun b e n => absurd (e ▸ hm) n) (fun _ _ z => z) fun _ _ z => z
theorem dictT_at {l ρ H} {s : Shared} (st : St C l ρ H s) {i : Nat} {kvs : List (TK × V)} {a dd : Addr} (ho : H[i]? = some (.dictT kvs)) (hp : ρ[i]? = some (a, dd)) :
    dd = a ∧ ∃ xs, s.heap.DictOfH (tkKind C.prog C.w) a xs ∧ kvs.map (·.1) = xs.map (·.1) ∧ (∀ x ∈ xs, RepV ρ s.heap (tkV x.1) (.ref x.2.1)) ∧ RepVs ρ s.heap (kvs.map (·.2)) (xs.map (·.2.2)) := by
  obtain ⟨e, o, es, ep, xs, g, ⟨h1, h2, h3, h4, h5⟩, ks, rs⟩ := st.rep.obj i _ _ ho hp
  refine ⟨e.symm, xs, ⟨o, es, ep, g, h1, h2, h3, fun x hx => ?_, h4⟩, h5, ks, rs⟩
  obtain ⟨b, eb, ib⟩ := rep_tk (prog := C.prog) (w := C.w) (ks x hx)
  cases eb; exact ib

/-- a value is stored under a key -/
noncomputable def oStore : V → V → V → Hp → Option Hp := fun v w u H => match v, w with
  | .ref i, .int k => (match H[i]? with
    | some (.list xs) => if 0 ≤ k ∧ k < xs.length ∧ k < 1000000000 then some (H.set i (.list (xs.set k.toNat u))) else none
    | some (.dictI kvs) => if kvs.length ≤ 1000000 then some (H.set i (.dictI (dSet kvs k u))) else none
    | _ => none)
  | .ref i, .str k => (match H[i]? with
    | some (.dictS kvs) => if kvs.length ≤ 1000000 then some (H.set i (.dictS (dSet kvs k u))) else none
    | _ => none)
  | .ref i, .tup ks => (match H[i]?, toTK (.tup ks) with
    | some (.dictT kvs), some k => if kvs.length ≤ 1000000 then some (H.set i (.dictT (dSet kvs k u))) else none
    | _, _ => none)
  | _, _ => none
theorem RepVs.put {ρ : Rho} {h h' : Heap} {a : Addr} {vs ys} (r : RepVs ρ h vs ys) (x : Heap.SameBut a h h') (hm : muts ρ a) : RepVs ρ h' vs ys :=
  r.keep (X := No) (.sameBut x) (fun b e n => absurd (e ▸ hm) n) (fun _ _ z => z) fun _ _ z => z
set_option tactic.hygienic true in
theorem setItem_ok {A : Around} {l : List Env} {v w u : V} {x y z : Value} {ρ : Rho} {H H' : Hp} {s : Shared} {Q : Unit → Shared → Prop} {E : Value → Shared → Prop} (st : St C l ρ H s) (r1 : RepV ρ s.heap v x) (r2 : RepV ρ s.heap w y) (r3 : RepV ρ s.heap u z) (ho : oStore v w u H = some H') (hu : A.units + 2 < cLine)
    (q : ∀ s', Ev C l No ρ s ρ H' s' → Q () s') : wpAny (model C.prog C.w) A (setItem x y z) Q E s := by
  cases v with
  | ref i =>
    cases r1 with
    | ref hp =>
    rename_i a dd
    cases w with
    | int k =>
      cases r2 with
      | int _ t =>
      unfold oStore at ho
      dsimp only at ho
      split at ho
      · rename_i xs hi
        obtain ⟨a', items, n, sl, e, g, rs, hp'⟩ := list_at st hi (.ref hp)
        cases e
        rw [hp'] at hp; cases hp
        split at ho
        · rename_i hk
          cases ho
          have hlen : xs.length = items.size := by rw [rs.length, Array.length_toList]
          have hm : muts ρ a := ⟨_, List.mem_of_getElem? hp', .inl rfl⟩
          refine setItem_own g hk.1 (by omega) (by omega) fun h' n' g' sb => q _ ?_
          refine Ev.put st hp' (.inl rfl) (.sameBut sb) ⟨rfl, rfl, rfl⟩ ⟨rfl, n', _, sl, g', ?_⟩
          rw [Array.toList_setIfInBounds]
          exact ((rs.set r3 k.toNat)).put sb hm
        · cases ho
      · rename_i kvs hi
        split at ho
        · rename_i hk
          cases ho
          obtain ⟨e, ys, hd, rs⟩ := st.rep.obj i _ _ hi hp
          cases e
          have hm : muts ρ a := ⟨_, List.mem_of_getElem? hp, .inl rfl⟩
          obtain ⟨ys', e1, rs'⟩ := rep_stored (k := k) r3 rs
          refine wpAny_setItem_pairs (knd := intKind C.prog C.w) (k := k) (by simp [intKind, Value.isInt]) hd (fun h' hd' sb => q _ ?_) (by rw [List.length_zip, sizeLine_eq]; simp; omega)
          rw [e1] at hd'
          exact (Ev.put (s' := { s with heap := h', toks := s.toks + 1 }) st hp (.inl rfl) (.sameBut sb) ⟨rfl, rfl, rfl⟩ ⟨rfl, ys', hd', rs'.put sb hm⟩)
        · cases ho
      · cases ho
    | str k =>
      cases r2 with
      | str _ t =>
      unfold oStore at ho
      dsimp only at ho
      split at ho
      · rename_i kvs hi
        split at ho
        · rename_i hk
          cases ho
          obtain ⟨e, ys, hd, rs⟩ := st.rep.obj i _ _ hi hp
          cases e
          have hm : muts ρ a := ⟨_, List.mem_of_getElem? hp, .inl rfl⟩
          obtain ⟨ys', e1, rs'⟩ := rep_stored (k := k) r3 rs
          refine wpAny_setItem_pairs (knd := PySem.strKind C.prog C.w) (k := k) (by simp [PySem.strKind, Value.isStrOf]) hd (fun h' hd' sb => q _ ?_) (by rw [List.length_zip, sizeLine_eq]; simp; omega)
          rw [e1] at hd'
          exact (Ev.put (s' := { s with heap := h', toks := s.toks + 1 }) st hp (.inl rfl) (.sameBut sb) ⟨rfl, rfl, rfl⟩ ⟨rfl, ys', hd', rs'.put sb hm⟩)
        · cases ho
      · cases ho
    | tup ks =>
      unfold oStore at ho
      dsimp only at ho
      split at ho
      · rename_i kvs k hi hk
        split at ho
        · rename_i hl
          cases ho
          have ek := toTK_eq hk
          rw [ek] at r2
          obtain ⟨b, eb, ib⟩ := rep_tk (prog := C.prog) (w := C.w) r2
          subst eb
          obtain ⟨e, xs, hd, e5, kk, rs⟩ := dictT_at st hi hp
          subst e
          have hm : muts ρ dd := ⟨_, List.mem_of_getElem? hp, .inl rfl⟩
          obtain ⟨q1, q2, q3⟩ := rep_storedT r3 r2 e5 rs kk
          have hlen : xs.length = kvs.length := by rw [← List.length_map (f := (·.1)), ← e5, List.length_map]
          refine wpAny_setItem_heap (knd := tkKind C.prog C.w) (k := k) (by show A.units + 1 + 1 < _; omega) ib hd (fun h' hd' sb => q _ ?_) (by rw [sizeLine_eq]; omega)
          obtain ⟨o', es', ep', g', h1, h2, h3, _, h4⟩ := hd'
          exact Ev.put (s' := { s with heap := h', toks := s.toks + k.2.1.length + 5 }) st hp (.inl rfl) (.sameBut sb) ⟨rfl, rfl, rfl⟩ ⟨rfl, o', es', ep', _, g', ⟨h1, h2, h3, h4, q1⟩, fun x hx => (q3 x hx).put sb hm, q2.put sb hm⟩
        · cases ho
      · cases ho
    | _ => cases ho
  | _ => cases ho

/-- a subscript as a target -/
noncomputable def fSetSub (f g : FE) : V → FS := fun u m H => (f m H).bindS m fun v H1 => (g m H1).bindS m fun w H2 => match oStore v w u H2 with
  | some H' => .ok .next m H'
  | none => .bad
theorem simA_sub {e i pos f g} (h1 : SimE C d sc e f) (h2 : SimE C d sc i g) : SimA C d sc (.Subscript e i pos) (fSetSub f g) := by
  intro A env l m ρ H s u z Q E hb ha he fr st r p
  rw [arm_assign_Subscript]
  refine wpAny_bind (wpAny_holding (h1 A env l m ρ H s _ E hb ha he fr st (PostS.bindE p st fr fun v H1 ρ1 x s1 _ e1 fr1 r1 p1 => ?_)))
  refine wpAny_bind (wpAny_holding (h2 A env l m ρ1 H1 s1 _ E hb ha he fr1 e1.st (PostS.bindE p1 e1.st fr1 fun w H2 ρ2 y s2 _ e2 fr2 r2 p2 => ?_)))
  refine wpAny_bind (wpAny_standAt (wpAny_bind (wpAny_holding ?_)))
  cases hs : oStore v w u H2 with
  | none => rw [hs] at p2; exact p2.elim
  | some H' =>
    rw [hs] at p2
    refine setItem_ok e2.st (r1.ev0 e1.st e2) r2 ((r.ev0 st e1).ev0 e1.st e2) hs (hb.roomC (by omega)) fun s' e3 => wpAny_release' ?_
    exact p2 ρ2 .next s' e3.no (fr2.ev e2.st e3) .next rfl

/-- an augmented assignment under a subscript: x[i] += e on vInts -/
noncomputable def fAugSub (f g h : FE) : FS := fun m H => (f m H).bindS m fun v H1 => (g m H1).bindS m fun w H2 => (oItem v w H2).bindS m fun o H3 => (h m H3).bindS m fun u H4 => match o, u with
  | .int a, .int b => (match oStore v w (.int (a + b)) H4 with
    | some H' => .ok .next m H'
    | none => .bad)
  | _, _ => .bad
theorem simS_augSub {e i x tpos pos f g h} (h1 : SimE C d sc e f) (h2 : SimE C d sc i g) (h3 : SimE C d sc x h) (hi : ∀ ov iv new, augStore i ov iv new = (do holding [new, ov, iv] (setItem ov iv new); release [new, ov, iv] []; pure .next)) :
    SimS C d sc (.AugAssign (.Subscript e i tpos) .Add x pos) (fAugSub f g h) := by
  intro A env l m ρ H s Q E hb ha he fr st p
  refine wpAny_AugAssign_SubscriptAny (h1 A env l m ρ H s _ E hb ha he fr st (PostS.bindE p st fr fun v H1 ρ1 xv s1 _ e1 fr1 r1 p1 => ?_)) hi
  refine h2 A env l m ρ1 H1 s1 _ E hb ha he fr1 e1.st (PostS.bindE p1 e1.st fr1 fun w H2 ρ2 y s2 _ e2 fr2 r2 p2 => ?_)
  have r1' := r1.ev0 e1.st e2
  refine (getItem_own (A := A) e2.st r1' r2 (PostE.any (PostS.bindE p2 e2.st fr2 fun o H3 ρ3 z s3 _ e3 fr3 r3 p3 => ?_))).1
  refine h3 A env l m ρ3 H3 s3 _ E hb ha he fr3 e3.st (PostS.bindE p3 e3.st fr3 fun u H4 ρ4 z4 s4 _ e4 fr4 r4 p4 => ?_)
  have r3' := r3.ev0 e3.st e4
  cases o with
  | int a =>
    cases u with
    | int b =>
      dsimp only at p4
      cases hs : oStore v w (.int (a + b)) H4 with
      | none => rw [hs] at p4; exact p4.elim
      | some H' =>
        rw [hs] at p4
        cases r3'; cases r4
        refine P.iadd_int ?_
        have e5 : Ev C l No ρ4 s4 ρ4 H4 { s4 with toks := s4.toks + 1 } := .tok e4.st
        have q1 := (r1'.ev0 e2.st e3).ev0 e3.st e4
        have q2 := (r2.ev0 e2.st e3).ev0 e3.st e4
        refine setItem_ok (s := { s4 with toks := s4.toks + 1 }) e5.st q1 q2 (.int _ _) hs (hb.roomC (by omega)) fun s' e6 => ?_
        exact p4 ρ4 .next s' (e5.trans e6).no (fr4.ev e4.st (e5.trans e6)) .next
    | _ => exact p4.elim
  | _ => exact p4.elim
end
end MP
namespace MP

/-- a part of a list -/
noncomputable def cut {α : Type} (xs : List α) (lo hi : Option Int) : List α := (xs.drop (lo.elim 0 (clipAt xs.length))).take (hi.elim xs.length (clipAt xs.length) - lo.elim 0 (clipAt xs.length))
noncomputable def part : V → Option (Option Int)
  | .none => some none
  | .int i => some (some i)
  | _ => none
theorem rep_part {ρ h v x k} (r : RepV ρ h v x) (hk : part v = some k) : IsPart x k := by
  cases r with
  | none => cases hk; exact .none
  | int i t => cases hk; exact .int i t
  | _ => cases hk
theorem fm_congr {α β : Type} {f g : α → Option β} : ∀ l : List α, (∀ x ∈ l, f x = g x) → l.filterMap f = l.filterMap g
  | [], _ => rfl
  | x :: l, h => by rw [List.filterMap_cons, List.filterMap_cons, h x List.mem_cons_self, fm_congr l fun y hy => h y (List.mem_cons_of_mem _ hy)]
theorem filterMap_range_all {α : Type} (a : List α) : (List.range a.length).filterMap (fun i => a[i]?) = a := by
  induction a with
  | nil => rfl
  | cons x a ih =>
    rw [List.length_cons, List.range_succ_eq_map, List.filterMap_cons, List.filterMap_map]
    simp only [List.getElem?_cons_zero]
    congr 1
theorem slicePick_rev (items : Array Value) : slicePick items none none (some (-1)) = items.toList.reverse.toArray := by
  unfold slicePick
  have e : sliceBounds none none (some (-1)) items.size = ((items.size : Int) - 1, -1, -1) := by simp [sliceBounds]
  rw [e]
  have e2 : sliceRange ((items.size : Int) - 1) (-1) (-1) = (List.range items.size).map fun k => items.size - 1 - k := by
    unfold sliceRange
    simp only [show ¬ ((-1 : Int) > 0) by decide, if_false]
    have : (if (items.size : Int) - 1 > -1 then ((items.size : Int) - 1 - -1 - -1 - 1) / (- -1) else 0).toNat = items.size := by
      by_cases h : 0 < items.size
      · rw [if_pos (by omega)]
        have : ((items.size : Int) - 1 - -1 - -1 - 1) / (- -1) = items.size := by
          rw [show (- -1 : Int) = 1 by decide, Int.ediv_one]; omega
        rw [this]; simp
      · rw [if_neg (by omega)]; simp; omega
    rw [this]
    refine List.map_congr_left fun k hk => ?_
    have := List.mem_range.mp hk
    omega
  rw [e2]
  congr 1
  rw [List.filterMap_map]
  have e3 : ((List.range items.size).filterMap ((fun x => items[x]?) ∘ fun k => items.size - 1 - k)) = ((List.range items.size).filterMap fun i => items.reverse[i]?) := by
    refine fm_congr _ fun k hk => ?_
    have hk := List.mem_range.mp hk
    simp only [Function.comp]
    rw [Array.getElem?_reverse hk]
  rw [e3]
  have := filterMap_range_all items.toList.reverse
  rw [List.length_reverse, Array.length_toList] at this
  rw [← this]
  refine fm_congr _ fun k _ => ?_
  rw [← Array.toList_reverse, Array.getElem?_toList]

section
variable {C : Cx} {d : Nat} {sc : Scope}

noncomputable def SimP (C : Cx) (d : Nat) (sc : Scope) (e : Option Expr) (f : FE) : Prop :=
  ∀ (A : Around) (env : Env) (l : List Env) (m : Fm) (ρ : Rho) (H : Hp) (s : Shared) (Q E : Value → Shared → Prop),
    Bud d A → A.frames = some l → env.scope = sc → FrOk C env l m ρ s.heap → St C l ρ H s → PostE C l env.frame ρ s Q E (f m H) → wpAny (model C.prog C.w) A (evalPart e env) Q E s
theorem simP_none : SimP C d sc none (fC .none) := by
  intro A env l m ρ H s Q E _ _ _ _ st p
  exact evalPart_none_step (p ρ _ s (.refl st) .none)
theorem simP_some {e f} (h : SimE C d sc e f) : SimP C d sc (some e) f := by
  intro A env l m ρ H s Q E hb ha he fr st p
  exact evalPart_some_step (h A env l m ρ H s Q E hb ha he fr st p)

noncomputable def oCut (v a b c : V) (H : Hp) : Out V := match v with
  | .ref i => (match H[i]?, part a, part b, c with
    | some (.list xs), some lo, some hi, .none => newL (cut xs lo hi) H
    | some (.list xs), some none, some none, .int (-1) => newL xs.reverse H
    | _, _, _, _ => .bad)
  | _ => .bad
noncomputable def smallL (v : V) (H : Hp) : Bool := match v with
  | .ref i => (match H[i]? with | some (.list xs) => decide (xs.length ≤ 1000000) | _ => false)
  | _ => false
noncomputable def fSlice (f a b c : FE) : FE := fun m H => (f m H).bind fun v H1 => (a m H1).bind fun x H2 => (b m H2).bind fun y H3 => (c m H3).bind fun z H4 => if smallL v H4 = true then oCut v x y z H4 else .bad
set_option tactic.hygienic true in
theorem simE_slice {e lo hi st p pos f a b c} (h0 : SimE C d sc e f) (h1 : SimP C d sc lo a) (h2 : SimP C d sc hi b) (h3 : SimP C d sc st c) (hs : ∃ b : Bool, ∀ o iv, subscripted (.Slice lo hi st p) false o iv = operate (if b then [iv, o] else [o, iv]) (getItem o iv)) :
    SimE C d sc (.Subscript e (.Slice lo hi st p) pos) (fSlice f a b c) := by
  intro A env l m ρ H s Q E hb ha he fr st' pp
  refine Subscript_ (h0 A env l m ρ H s _ E hb ha he fr st' (PostE.bind pp fun v H1 ρ1 x s1 _ e1 r1 p1 => ?_))
  have fr1 := fr.ev st' e1
  refine wpAny_Slice (h1 A env l m ρ1 H1 s1 _ E hb ha he fr1 e1.st (PostE.bind p1 fun va H2 ρ2 xa s2 _ e2 r2 p2 => ?_))
  have fr2 := fr1.ev e1.st e2
  refine h2 A env l m ρ2 H2 s2 _ E hb ha he fr2 e2.st (PostE.bind p2 fun vb H3 ρ3 xb s3 _ e3 r3 p3 => ?_)
  have fr3 := fr2.ev e2.st e3
  refine h3 A env l m ρ3 H3 s3 _ E hb ha he fr3 e3.st (PostE.bind p3 fun vc H4 ρ4 xc s4 _ e4 r4 p4 => ?_)
  have q1 := ((r1.ev0 e1.st e2).ev0 e2.st e3).ev0 e3.st e4
  have q2 := (r2.ev0 e2.st e3).ev0 e3.st e4
  have q3 := r3.ev0 e3.st e4
  by_cases hsz : smallL v H4 = true
  · rw [if_pos hsz] at p4
    unfold smallL at hsz
    cases v with
    | ref i =>
      dsimp only at hsz
      cases ho : H4[i]? with
      | none => rw [ho] at hsz; cases hsz
      | some ob =>
        rw [ho] at hsz
        cases ob with
        | list xs =>
          simp only [decide_eq_true_eq] at hsz
          obtain ⟨a', items, n, sl, rfl, g, rs, hp⟩ := list_at e4.st ho q1
          have hlen : xs.length = items.size := by rw [rs.length, Array.length_toList]
          let s5 : Shared := { s4 with heap := s4.heap.push { cls := .type "slice", data := .fields #[xa, xb, xc] } }
          have e5 : Ev C l No ρ4 s4 ρ4 H4 s5 := Ev.keepNo e4.st (Keep.push ..) ⟨rfl, rfl, rfl⟩
          have hl : s5.heap.IsList a' items := ⟨_, Heap.get?_push_of_some _ g, rfl, n, rfl⟩
          have rs5 : RepVs ρ4 s5.heap xs items.toList := rs.ev0 e4.st e5
          obtain ⟨bb, hs⟩ := hs
          refine tail_any (s := s5) hl.typeIs slot_list_getitem.lookup ?_ (hs _ _)
          have p5 := p4.shift e5
          unfold oCut at p5
          dsimp only at p5
          rw [ho] at p5
          cases ka : part va with
          | none => rw [ka] at p5; exact p5.elim
          | some lo' =>
            cases kb : part vb with
            | none => rw [ka, kb] at p5; exact p5.elim
            | some hi' =>
              rw [ka, kb] at p5
              have i1 := rep_part q2 ka
              have i2 := rep_part q3 kb
              cases vc with
              | none =>
                cases r4
                dsimp only at p5
                refine wpAny_getItem_list_slice (s := s5) hl (Heap.IsSliceOf.new ..) i1 i2 .none (by simp) ?_ (by rw [sizeLine_eq]; omega)
                rw [slicePick_plain]
                have rc : RepVs ρ4 s5.heap (cut xs lo' hi') ((items.toList.drop (lo'.elim 0 (clipAt items.size))).take (hi'.elim items.size (clipAt items.size) - lo'.elim 0 (clipAt items.size))) := by
                  unfold cut
                  rw [hlen]
                  exact (rs5.drop _).take _
                exact (newL_post (n := 0) p5 e5.st rc).2
              | int k =>
                cases r4
                split at p5
                · rename_i hh; cases hh
                · rename_i h1 h2 h3 h4
                  cases h1; cases h2; cases h3; cases h4
                  refine wpAny_getItem_list_slice (s := s5) hl (Heap.IsSliceOf.new ..) i1 i2 (.int _ _) (by simp) ?_ (by rw [sizeLine_eq]; omega)
                  rw [slicePick_rev]
                  exact (newL_post (n := 0) p5 e5.st rs5.reverse).2
                · exact p5.elim
              | _ => exact p5.elim
        | _ => cases hsz
    | _ => cases hsz
  · rw [if_neg hsz] at p4; exact p4.elim

/-- builtins on the store -/
noncomputable def bLen (vs : List V) (H : Hp) : Out V := match vs with
  | [.tup xs] => if xs.length < 1000000000 then .ok (.int xs.length) H else .bad
  | [.ref i] => (match H[i]? with
    | some (.list xs) => if xs.length < 1000000000 then .ok (.int xs.length) H else .bad
    | _ => .bad)
  | _ => .bad
set_option tactic.hygienic true in
theorem simF_len : SimF C d (.builtin "len") bLen := by
  intro A l vs xs ρ H s Q E hb ha st r p
  unfold bLen at p
  split at p
  · rename_i ys
    split at p
    · rename_i hl
      cases r with
      | cons r rs =>
      cases rs
      cases r with
      | tup hm g c dd rs =>
      rename_i a o items n
      have hlen : ys.length = items.size := by rw [rs.length, Array.length_toList]
      rw [hlen] at p hl
      exact len_tuple ⟨_, g, c, _, dd⟩ (by omega) (p ρ _ { s with toks := s.toks + 1 + 1 } (.tok st) (.int _ _))
    · exact p.elim
  · rename_i i
    split at p
    · rename_i ys ho
      split at p
      · rename_i hl
        cases r with
        | cons r rs =>
        cases rs
        obtain ⟨a, items, n, sl, rfl, g, rs, hp⟩ := list_at st ho r
        have hlen : ys.length = items.size := by rw [rs.length, Array.length_toList]
        rw [hlen] at p hl
        exact Calls.call_len_list ⟨_, g, rfl, n, rfl⟩ (by omega) (p ρ _ { s with toks := s.toks + 1 + 1 } (.tok st) (.int _ _))
      · exact p.elim
    · exact p.elim
  · exact p.elim
noncomputable def bAbs (vs : List V) (H : Hp) : Out V := match vs with
  | [.int i] => .ok (.int (if i < 0 then -i else i)) H
  | _ => .bad
theorem simF_abs : SimF C d (.builtin "abs") bAbs := by
  intro A l vs xs ρ H s Q E hb ha st r p
  unfold bAbs at p
  split at p
  · cases r with
    | cons r rs =>
    cases rs
    cases r with
    | int i t => exact call_abs_int fun u tk => p ρ _ { s with toks := tk } (.tok st) (.int _ _)
  · exact p.elim

noncomputable def isL : AObj → Bool
  | .list _ => true
  | _ => false
theorem simM_append : SimM C d "append" isL (.builtin "list.append") := by
  intro A l ρ H s i o a pl Q E hb ha st ho hK ⟨dd, hp⟩ q
  cases o with
  | list xs =>
    obtain ⟨items, hl, rs, hsz, ⟨n, sl, g⟩, e⟩ := rep_list st ho hp
    exact getMethod_list_of slot_list_append type_list_append hl ⟨_, g, rfl⟩ q
  | _ => cases hK
noncomputable def bAppend (vs : List V) (H : Hp) : Out V := match vs with
  | [.ref i, v] => (match H[i]? with
    | some (.list xs) => if xs.length < 1000000 then .ok .none (H.set i (.list (xs ++ [v]))) else .bad
    | _ => .bad)
  | _ => .bad
set_option tactic.hygienic true in
theorem simF_append : SimF C d (.builtin "list.append") bAppend := by
  intro A l vs xs ρ H s Q E hb ha st r p
  unfold bAppend at p
  split at p
  · rename_i i v
    split at p
    · rename_i ys ho
      split at p
      · rename_i hl
        cases r with
        | cons r rs =>
        cases rs with
        | cons r' rs =>
        cases rs
        obtain ⟨a, items, n, sl, rfl, g, rs, hp⟩ := list_at st ho r
        have hlen : ys.length = items.size := by rw [rs.length, Array.length_toList]
        have hm : muts ρ a := ⟨_, List.mem_of_getElem? hp, .inl rfl⟩
        refine append_own g (fun h' n' g' sb => p ρ _ { s with heap := h' } ?_ .none) (by rw [sizeLine_eq]; omega)
        refine Ev.put st hp (.inl rfl) (.sameBut sb) ⟨rfl, rfl, rfl⟩ ⟨rfl, n', _, sl, g', ?_⟩
        rw [Array.toList_push]
        exact (rs.append (.cons r' .nil)).put sb hm
      · exact p.elim
    · exact p.elim
  · exact p.elim
end
end MP
namespace MP

theorem bindL_eq (k : Str → Option NameKind) : ∀ (b : List (Str × Value)) (m : Str → Option Value) (x : Str), (b.map (·.1)).Nodup → k x = some .local → bindL k b m x = (b.lookup x).or (m x)
  | [], m, x, _, _ => by simp [bindL]
  | (n, v) :: r, m, x, hn, hx => by
    rw [List.map_cons, List.nodup_cons] at hn
    unfold bindL
    rw [bindL_eq k r _ x hn.2 hx, List.lookup_cons]
    by_cases hxn : x = n
    · subst hxn
      rw [if_pos hx]
      have : r.lookup x = none := by
        cases q : r.lookup x with
        | none => rfl
        | some w => exact absurd (List.mem_map.mpr ⟨(x, w), mem_of_lookup q, rfl⟩) hn.1
      simp [this]
    · have : (x == n) = false := beq_eq_false_iff_ne.mpr hxn
      rw [this]
      dsimp only
      congr 1
      split
      · simp [hxn]
      · rfl
theorem bindC_eq (k : Str → Option NameKind) : ∀ (b : List (Str × Value)) (m : Str → Option Value) (x : Str), (b.map (·.1)).Nodup → k x = some .cell → bindC k b m x = (b.lookup x).or (m x)
  | [], m, x, _, _ => by simp [bindC]
  | (n, v) :: r, m, x, hn, hx => by
    rw [List.map_cons, List.nodup_cons] at hn
    unfold bindC
    rw [bindC_eq k r _ x hn.2 hx, List.lookup_cons]
    by_cases hxn : x = n
    · subst hxn
      rw [if_neg (by rw [hx]; decide)]
      have : r.lookup x = none := by
        cases q : r.lookup x with
        | none => rfl
        | some w => exact absurd (List.mem_map.mpr ⟨(x, w), mem_of_lookup q, rfl⟩) hn.1
      simp [this]
    · have : (x == n) = false := beq_eq_false_iff_ne.mpr hxn
      rw [this]
      dsimp only
      congr 1
      split
      · rfl
      · simp [hxn]
theorem rep_zip {ρ : Rho} {h : Heap} : ∀ {ps : List Str} {vs : List V} {xs : List Value}, RepVs ρ h vs xs → ∀ {x : Str} {v : V}, (ps.zip vs).lookup x = some v → ∃ y, (ps.zip xs).lookup x = some y ∧ RepV ρ h v y
  | [], _, _, _, _, _, e => by simp at e
  | _ :: _, _, _, .nil, _, _, e => by simp at e
  | p :: ps, _, _, .cons r rs, x, v, e => by
    rw [List.zip_cons_cons, List.lookup_cons] at e ⊢
    cases hb : x == p with
    | true => rw [hb] at e; cases e; exact ⟨_, rfl, r⟩
    | false => rw [hb] at e; exact rep_zip rs e
theorem cellsFrom_some : ∀ (names : List (Str × NameKind)) (n : Nat) (acc : List (Str × Addr)) (x : Str), (acc.lookup x).isSome = true ∨ names.lookup x = some .cell → ((cellsFrom n names acc).lookup x).isSome = true
  | [], n, acc, x, h => by
    rcases h with h | h
    · exact h
    · cases h
  | (a, k) :: r, n, acc, x, h => by
    unfold cellsFrom
    by_cases hk : (k == NameKind.cell) = true
    · rw [if_pos hk]
      refine cellsFrom_some r _ _ x ?_
      by_cases hx : x = a
      · subst hx; left; simp
      · have hb : (x == a) = false := beq_eq_false_iff_ne.mpr hx
        rw [List.lookup_cons, hb] at h ⊢
        exact h
    · rw [if_neg hk]
      refine cellsFrom_some r _ _ x ?_
      rcases h with h | h
      · exact .inl h
      · rw [List.lookup_cons] at h
        cases hb : x == a with
        | true => rw [hb] at h; cases h; exact absurd rfl hk
        | false => rw [hb] at h; exact .inr h

section
variable {C : Cx} {d : Nat} {sc : Scope}

/-- a frame is left -/
theorem Ev.leave {l ρ H ρ' H'} {s s1 s' : Shared} {env : Env} (x : Ev C l No ρ s ρ H s1) (y : Ev C (env :: l) (ownA env) ρ s1 ρ' H' s') (ho : ∀ b, ownA env b → s.heap.objs.size ≤ b) (hf : ∀ L, env.frame = some L → s.heap.objs.size ≤ L) : Ev C l No ρ s ρ' H' s' := by
  obtain ⟨t2, e2, ht2⟩ := y.pre
  refine ⟨⟨y.st.old, y.st.hi, y.st.lo, y.st.rest, y.st.rep, y.st.frs.2.2, fun b hb => y.st.frm b (let ⟨e, he, q⟩ := hb; ⟨e, .tail _ he, q⟩)⟩, ⟨t2, e2, fun p hp => ⟨Nat.le_trans x.keep.1 (ht2 p hp).1, Nat.le_trans x.keep.1 (ht2 p hp).2⟩⟩, Nat.le_trans x.keep.1 y.keep.1, fun b o g w => ?_⟩
  obtain ⟨sl, g1, q1⟩ := x.keep.2 b o g w
  have lt := Heap.lt_size g
  obtain ⟨sl2, g2, q2⟩ := y.keep.2 b _ g1 (fun z => z.elim (fun m => w (.inl m)) fun o => absurd lt (Nat.not_lt.mpr (ho b o)))
  refine ⟨sl2, g2, fun nz => (q2 fun z => ?_).trans (q1 nz)⟩
  obtain ⟨e, he, q⟩ := z
  rcases List.mem_cons.mp he with rfl | he
  · exact absurd lt (Nat.not_lt.mpr (hf b q))
  · exact nz ⟨e, he, q⟩

noncomputable def fDef (ps : List Str) (f : FS) (vs : List V) (H : Hp) : Out V := if vs.length = ps.length then (match f (ps.zip vs) H with
    | .ok (.ret v) _ H' => .ok v H'
    | .ok _ _ H' => .ok .none H'
    | .exc _ H' => .exc H'
    | .bad => .bad) else .bad
structure DefOk (C : Cx) (a : Addr) (fd : FuncData) (ps : List Str) (body : List Stmt) : Prop where
  get : ∃ o, C.h0.get? a = some o ∧ o.data = .func fd
  code : C.h0.CodeRec fd.code fd.qualname
  body : fd.body = .stmts body
  bind : ∀ xs : List Value, xs.length = ps.length → bindArgs fd ⟨xs, []⟩ = pure (ps.zip xs)
  clo : fd.closure = []
  glob : fd.globals = mainGlobals
  bui : fd.builtins = builtinsNs
  sto : ps.all (isStore fd.scope) = true
  nodup : ps.Nodup
  kind : fd.scope.kind = .function
  co : fd.scope.isCoroutine = false
  gen : fd.scope.isGenerator = false
theorem Bud.deep {A : Around} {env : Env} (b : Bud (d + 1) A) : Bud d (A.deeper env) := by
  obtain ⟨h1, h2, h3⟩ := b
  refine ⟨?_, ?_, h3⟩
  · show A.depth + 1 + 2 * d < 900; omega
  · show A.units + 3 + 20 * d < 9800; omega
theorem zip_fst {α : Type} : ∀ {ps : List Str} {vs : List α}, vs.length = ps.length → (ps.zip vs).map (·.1) = ps
  | [], [], _ => rfl
  | _ :: ps, _ :: vs, e => by rw [List.zip_cons_cons, List.map_cons, zip_fst (by simpa using e)]

/-- the same for the code of a call -/
noncomputable def SimC (C : Cx) (d : Nat) (f : Value) (F : List V → Hp → Out V) : Prop :=
  ∀ (A : Around) (l : List Env) (vs : List V) (xs : List Value) (ρ : Rho) (H : Hp) (s : Shared) (Q E : Value → Shared → Prop),
    Bud d A → A.frames = some l → St C l ρ H s → RepVs ρ s.heap vs xs → PostE C l none ρ s Q E (F vs H) → codeAny (model C.prog C.w) A (.call f ⟨xs, []⟩) (fun r s' => match r with | .ok (.ret v) => Q v s' | .ok _ => False | .error e => E e s') s
theorem SimC.sim {f F} (h : SimC C d f F) : SimF C d f F := fun A l vs xs ρ H s Q E hb ha st r p => wpAny_call (h A l vs xs ρ H s Q E hb ha st r p)
theorem simC_def {a fd ps body f} (O : C.Ok) (D : DefOk C a fd ps body) (h : SimB C d fd.scope body f) : SimC C (d + 1) (.ref a) (fDef ps f) := by
  intro A l vs xs ρ H s Q E hb ha st r p
  unfold fDef at p
  by_cases hlen : vs.length = ps.length
  · rw [if_pos hlen] at p
    obtain ⟨o, ho, hd⟩ := D.get
    have hxl : xs.length = ps.length := r.length ▸ hlen
    refine (codeAny_call_function hb.room (st.old _ _ ho) hd D.co D.gen D.body (D.code.keeps st.old) ?_)
    rw [D.bind xs hxl, D.clo, D.glob, D.bui]
    have hkind : ∀ x ∈ ps.zip xs, fd.scope.names.lookup x.1 = some .local ∨ (fd.scope.names.lookup x.1 = some .cell ∧ ((cellsFrom (s.heap.objs.size + 1) fd.scope.names []).lookup x.1).isSome = true) := fun x hx => by
      have hm : x.1 ∈ ps := by rw [← zip_fst hxl]; exact List.mem_map_of_mem hx
      have := List.all_eq_true.mp D.sto _ hm
      unfold isStore at this
      cases q : fd.scope.names.lookup x.1 with
      | none => rw [q] at this; cases this
      | some k =>
        rw [q] at this
        cases k with
        | «local» => exact .inl rfl
        | cell => exact .inr ⟨rfl, cellsFrom_some _ _ _ _ (.inr q)⟩
        | _ => cases this
    refine wpAny_pure (wpAny_newFunctionEnv_cells D.kind hkind fun env he s1 x => ⟨(O.nolimit.keeps st.old).keeps x.toInCall.keep, codeAny_func ?_⟩)
    have hloc : env.locals = s.heap.objs.size := by rw [he]; rfl
    have hfrm : env.frame = some s.heap.objs.size := by rw [he]; rfl
    have hsc : env.scope = fd.scope := by rw [he]; rfl
    have hglob : env.globals = mainGlobals := by rw [he]; rfl
    have hbui : env.builtins = builtinsNs := by rw [he]; rfl
    have hcells : env.cells = cellsFrom (s.heap.objs.size + 1) fd.scope.names [] := by rw [he]; rfl
    have ns := x.toInCall.ns
    have hsz : s.heap.objs.size ≤ s1.heap.objs.size := by
      obtain ⟨o', _, _, g', _⟩ := ns
      rw [hloc] at g'
      exact Nat.le_of_lt (Heap.lt_size g')
    have hrest : s1.gens = s.gens ∧ s1.drawn = s.drawn ∧ s1.os = s.os := by
      obtain ⟨h', tk, e⟩ := x.toInCall.same
      rw [e]; exact ⟨rfl, rfl, rfl⟩
    have k1 : Keep No (inFr l) s.heap s1.heap := ⟨hsz, fun b o g _ => ⟨o.slots, x.toInCall.keep b o g, fun _ => rfl⟩⟩
    have e1 : Ev C l No ρ s ρ H s1 := Ev.keepNo st k1 hrest
    have own_ge : ∀ b, ownA env b → s.heap.objs.size ≤ b := by
      rintro b (rfl | ⟨n, hn⟩)
      · rw [hloc]; exact Nat.le_refl _
      · have := x.above n b (mem_of_lookup hn)
        rw [hloc] at this
        exact Nat.le_of_lt this
    have none0 : C.h0.get? s.heap.objs.size = none := by
      cases q : C.h0.get? s.heap.objs.size with
      | none => rfl
      | some o => exact absurd (Heap.lt_size (st.old _ _ q)) (Nat.lt_irrefl _)
    have st1 : St C (env :: l) ρ H s1 := by
      refine ⟨e1.st.old, e1.st.hi, e1.st.lo, e1.st.rest, e1.st.rep, ⟨?_, ⟨s.heap.objs.size, ?_⟩, e1.st.frs⟩, fun b hb => ?_⟩
      · rw [hsc, D.kind]; decide
      · obtain ⟨o', es, ep, g', d', _⟩ := ns
        rw [hloc] at g'
        exact ⟨o', hfrm, none0, g', fun vs z => by rw [d'] at z; cases z⟩
      · obtain ⟨e, he', q⟩ := hb
        rcases List.mem_cons.mp he' with rfl | he'
        · rw [hfrm] at q; cases q
          exact st.fresh (Nat.le_refl _)
        · exact e1.st.frm b ⟨e, he', q⟩
    have hnd : ((ps.zip xs).map (·.1)).Nodup := by rw [zip_fst hxl]; exact D.nodup
    have r1 : RepVs ρ s1.heap vs xs := r.ev0 st e1
    have fr1 : FrOk C env (env :: l) (ps.zip vs) ρ s1.heap := by
      refine ⟨by rw [hsc]; exact D.kind, hglob, hbui, ⟨env, l, rfl, rfl⟩, ⟨_, ns, fun y v hv hk => ?_⟩, fun y v hv hk => ?_, fun y c hc => ⟨_, x.cell y c hc⟩, fun y y' c hc hc' => name_of_addr x.apart (mem_of_lookup hc) (mem_of_lookup hc'),
        ⟨by rw [hloc]; exact st.lo, by rw [hloc]; exact st.fresh (Nat.le_refl _)⟩, fun y c hc => ⟨Nat.le_trans st.lo (own_ge c (.inr ⟨y, hc⟩)), st.fresh (own_ge c (.inr ⟨y, hc⟩))⟩, fun y hk => ?_⟩
      · obtain ⟨z, hz, rz⟩ := rep_zip r1 hv
        exact ⟨z, by rw [bindL_eq _ _ _ _ hnd hk, hz]; rfl, rz⟩
      · obtain ⟨z, hz, rz⟩ := rep_zip r1 hv
        have hk' : env.kindOf y = some .cell := by
          have hm : y ∈ ps := by rw [← zip_fst hlen]; exact List.mem_map.mpr ⟨_, mem_of_lookup hv, rfl⟩
          have := List.all_eq_true.mp D.sto _ hm
          unfold isStore at this
          unfold Env.kindOf at hk ⊢
          rw [hsc] at hk ⊢
          rcases hk with hk | hk
          · exact hk
          · rw [hk] at this; cases this
        have hs : (env.cells.lookup y).isSome = true := by
          rw [hcells]
          refine cellsFrom_some _ _ _ _ (.inr ?_)
          unfold Env.kindOf at hk'
          rw [hsc] at hk'; exact hk'
        obtain ⟨c, hc⟩ := Option.isSome_iff_exists.mp hs
        have ic := x.cell y c hc
        rw [bindC_eq _ _ _ _ hnd hk', hz] at ic
        exact ⟨c, z, hc, ic, rz⟩
      · rw [hcells]
        refine cellsFrom_some _ _ _ _ (.inr ?_)
        unfold Env.kindOf at hk
        rw [hsc] at hk; exact hk
    have hfr : (A.deeper env).frames = some (env :: l) := by show A.frames.map _ = _; rw [ha]; rfl
    refine h (A.deeper env) env (env :: l) (ps.zip vs) ρ H s1 _ _ hb.deep hfr hsc fr1 st1 ?_
    cases hf : f (ps.zip vs) H with
    | bad => rw [hf] at p; exact p.elim
    | ok fl m' H' =>
      rw [hf] at p
      intro ρ' F s' y fr' rf
      have e2 := e1.leave y own_ge fun L hL => by rw [hfrm] at hL; cases hL; exact Nat.le_refl _
      cases rf with
      | ret rv => exact p ρ' _ s' e2 rv
      | next => exact p ρ' _ s' e2 .none
      | cont => exact p ρ' _ s' e2 .none
      | brk => exact p ρ' _ s' e2 .none
    | exc m' H' =>
      rw [hf] at p
      intro ρ' e s' y fr' fly
      rw [hfrm] at fly
      refine pass_def hfr hfrm y.st.frs y.keep.1 fly fun h' fa k => ?_
      have y2 := y.thru (s' := { s' with heap := h' }) k st1.lo ⟨rfl, rfl, rfl⟩
      have e2 := e1.leave y2 own_ge fun L hL => by rw [hfrm] at hL; cases hL; exact Nat.le_refl _
      exact p ρ' e { s' with heap := h' } e2 (.inr (.inl (fa.mono hsz)))
  · rw [if_neg hlen] at p; exact p.elim
end
end MP
namespace MP

noncomputable def baseMro : List Value := [.type "Exception", .type "BaseException", .type "object"]
/-- own exceptions: what the text holds -/
structure ExcOk (C : Cx) (sm fI : Addr) (nm q : Str) (N : Addr) (bs : List Value) (hdct : Bool) (sn : List Str) (sub : List Value) (ab : Bool) (col : Option Bool) (dd : Option Addr) (k0 k1 k2 k3 k5 : Option Value) : Prop where
  sf : C.K.lookup C.sf = some (excClassObj nm q C.sf N bs (.ref sm :: baseMro) hdct sn sub ab col dd k0 k1 k2 k3 k5 "Exception.__new__")
  init : findIn C.K (.ref C.sf) "__init__" = some (some (.ref fI))
  fn : typeIn C.K (.ref fI) = some (.type "function")

section
variable {C : Cx} {d : Nat} {sc : Scope}
variable {sm fI : Addr} {nm q : Str} {N : Addr} {bs : List Value} {hdct : Bool} {sn : List Str} {sub : List Value} {ab : Bool} {col : Option Bool} {dd : Option Addr} {k0 k1 k2 k3 k5 : Option Value}

theorem ownTail_any {h : Heap} : ∀ (X : String), (Value.ref sm :: baseMro).contains (.type X) = baseMro.contains (.type X) := fun X => by
  rw [List.contains_cons]; rfl

theorem check_new_sf {M : Model} {A : Around} {E : Value → Shared → Prop} {h : Heap} {g d t os} {rest : List Value} {Q : Unit → Shared → Prop} (hC : h.get? C.sf = some (excClassObj nm q C.sf N bs (.ref sm :: baseMro) hdct sn sub ab col dd k0 k1 k2 k3 k5 "Exception.__new__"))
    (hq : Q () ⟨h, g, d, t, os⟩) : wpAny M A (checkBuiltinCall "Exception.__new__" ⟨.ref C.sf :: rest, []⟩) Q E ⟨h, g, d, t, os⟩ := by
  have F := F.excBase_Exception
  have hcont : (Value.ref C.sf :: .ref sm :: baseMro).contains (.type "Exception") = true := by rw [List.contains_cons, ownTail_any (h := h)]; rfl
  have hstar := F.noStar
  simp only [checkBuiltinCall, F.newKind, F.newSplit, F.newRow]
  repeat (first | refine wpAny_loadPart_at hC ?_ | (refine wpAny_isSubtype_exc hC ?_; rw [hcont]) | refine wpAny_staticBase_exc hC ?_ | refine wpAny_madeBy_exc hC ?_ | simp only [bne_self_eq_false, Bool.false_eq_true, if_false] | wp_step)
  exact hq

theorem code_new_sf {prog w} {A : Around} {R : Result → Shared → Prop} {h : Heap} {g d t os} {rest : List Value} (hC : h.get? C.sf = some (excClassObj nm q C.sf N bs (.ref sm :: baseMro) hdct sn sub ab col dd k0 k1 k2 k3 k5 "Exception.__new__"))
    (hq : R (.ok (.ret (.ref (h.objs.size + 1)))) ⟨(h.push { cls := .type "tuple", data := .seq rest.toArray }).push
      { cls := .ref C.sf, data := .fields #[.ref h.objs.size, .none, .none, .none, .bool false, .none] }, g, d, t, os⟩) (hrest : rest.length ≤ sizeLine) :
    codeAny (model prog w) A (.builtin "Exception.__new__" ⟨.ref C.sf :: rest, []⟩) R ⟨h, g, d, t, os⟩ := by
  have F := F.excBase_Exception
  have hends := F.ends
  have hcB : (Value.ref C.sf :: .ref sm :: baseMro).contains (.type "Exception") = true := by rw [List.contains_cons, ownTail_any (h := h)]; rfl
  have hcA : (Value.ref C.sf :: .ref sm :: baseMro).contains (.type "AttributeError") = false := by rw [List.contains_cons, ownTail_any (h := h)]; rfl
  have hcN : (Value.ref C.sf :: .ref sm :: baseMro).contains (.type "NameError") = false := by rw [List.contains_cons, ownTail_any (h := h)]; rfl
  refine codeAny_builtinAt F.entry ?_
  unfold Builtin.«BaseException.__new__»
  refine PySem.wpAt_bind ?_
  show PySem.wpAt _ _ _ (stack >>= _) _ _ _
  refine PySem.wpAt_bind (PySem.wpAt_stack fun p below => PySem.wpAt_of_wpAny ?_)
  wp_walk
  refine PySem.wpAt_of_wpAny ?_
  rw [F.owner]
  repeat (first | with_reducible refine wpAny_madeHere_exc F.canon hC ?_ | with_reducible refine wpAny_loadPart_at hC ?_ | (with_reducible refine wpAny_isSubtype_exc hC ?_; first | rw [hcB] | rw [hcA] | rw [hcN]) | wp_step)
  show R _ _
  rw [Heap.size_push]
  exact hq

theorem type_call_sf {prog w} {A : Around} {E : Value → Shared → Prop} {h : Heap} {g d t os} {rest : List Value} {Q : Fin → Shared → Prop} (X : C.K.In h) (O : ExcOk C sm fI nm q N bs hdct sn sub ab col dd k0 k1 k2 k3 k5)
    (hq : ∀ h' e, h.objs.size ≤ e → Heap.MadeExcOf h h' e (.ref C.sf) rest →
      wpAny (model prog w) A (call (.ref fI) (.ref e :: rest)) (fun r s' => r = .none ∧ Q (.done (.ret (.ref e))) s') E ⟨h', g, d, t, os⟩) (hrest : rest.length ≤ sizeLine) :
    wpAny (model prog w) A (Builtin.«type.__call__» ⟨.ref C.sf :: rest, []⟩) Q E ⟨h, g, d, t, os⟩ := by
  have F := F.excBase_Exception
  have hC := X _ _ O.sf
  repeat (first | with_reducible refine wpAny_loadPart_at hC ?_ | with_reducible refine wpAny_madeBy_exc hC ?_ | wp_step)
  refine codeAny_call_builtin_code (Code.quiet_builtin _ F.quiet) (check_new_sf hC ?_)
  refine code_new_sf hC ?_ hrest
  show wpAny _ _ _ _ _ _
  have kk : ∀ b o, h.get? b = some o → ((h.push { cls := .type "tuple", data := .seq rest.toArray }).push { cls := .ref C.sf, data := .fields #[.ref h.objs.size, .none, .none, .none, .bool false, .none] }).get? b = some o :=
    fun b o e => Heap.get?_push_of_some _ (Heap.get?_push_of_some _ e)
  have hC₁ := kk _ _ hC
  have X₁ := X.keeps kk
  have hget : ((h.push { cls := .type "tuple", data := .seq rest.toArray }).push
      { cls := .ref C.sf, data := .fields #[.ref h.objs.size, .none, .none, .none, .bool false, .none] }).get? (h.objs.size + 1) = some
      { cls := .ref C.sf, data := .fields #[.ref h.objs.size, .none, .none, .none, .bool false, .none] } := by heap_get
  have hcC : (Value.ref C.sf :: .ref sm :: baseMro).contains (.ref C.sf) = true := by simp
  unfold isInstance
  repeat (first | with_reducible refine wpAny_loadPart_at hget ?_ | (with_reducible refine wpAny_isSubtype_exc hC₁ ?_; rw [hcC]) | wp_step)
  show wpAny _ _ (typeLookup (.ref C.sf) _) _ _ _
  refine (looks_findIn X₁ O.init).at ?_
  refine wpAny_holding (wpAny_bind ?_)
  refine (bind_fn X₁ _ O.fn).at ?_
  refine (wpAny_bind (wpAny_mono (hq _ (h.objs.size + 1) (Nat.le_succ _) ⟨kk, Heap.get?_none_of_le (Nat.le_succ _), h.objs.size, hget, Heap.get?_none_of_le (Nat.le_refl _), ?_⟩) (fun r s' hr => ?_) fun _ _ x => x))
  · exact Heap.get?_push_of_some _ (Heap.get?_push_at rfl rfl)
  · obtain ⟨rfl, hQ⟩ := hr
    wp_walk
    exact hQ
theorem call_sf {prog w} {A : Around} {E : Value → Shared → Prop} {h : Heap} {g d t os} {rest : List Value} {Q : Value → Shared → Prop} (X : C.K.In h) (O : ExcOk C sm fI nm q N bs hdct sn sub ab col dd k0 k1 k2 k3 k5)
    (hq : ∀ h' e, h.objs.size ≤ e → Heap.MadeExcOf h h' e (.ref C.sf) rest →
      wpAny (model prog w) (A.under (.builtin "type.__call__" ⟨.ref C.sf :: rest, []⟩)) (call (.ref fI) (.ref e :: rest)) (fun r s' => r = .none ∧ Q (.ref e) s') E ⟨h', g, d, t, os⟩) (hrest : rest.length ≤ sizeLine) :
    wpAny (model prog w) A (call (.ref C.sf) rest) Q E ⟨h, g, d, t, os⟩ := by
  have hC := X _ _ O.sf
  have f1 := tc_lookup
  have f2 := tc_bind (.ref C.sf)
  have hT : (⟨h, g, d, t, os⟩ : Shared).TypeIs (.ref C.sf) "type" := ⟨_, hC, rfl⟩
  refine wpAny_call (codeAny_of_tree ?_)
  show wpAny _ _ (callAny (.ref C.sf) _) _ _ _
  repeat (any_goals (first | assumption | with_reducible refine wpAny_loadPart_at hC ?_ | wp_step))
  refine ⟨rfl, ?_⟩
  refine codeAny_call_builtin_at (Code.quiet_builtin _ (by decide +kernel)) entry_typeCall (wpAny_check_type_call_sub hC (type_call_sf X O (fun h' e hle hm => ?_) hrest))
  exact hq h' e hle hm
end
end MP
namespace MP

noncomputable def initScope : Scope := { kind := .function, names := [(Str.ofString "self", .local), (Str.ofString "what", .local), (Str.ofString "__class__", .free), (Str.ofString "super", .globalImplicit)], isGenerator := false, isCoroutine := false }
noncomputable def initBody (p1 p2 p3 p4 p5 p6 p7 p8 p9 pa : Pos) : List Stmt := [
  .Expr (.Call (.Attribute (.Call (.Name (Str.ofString "super") p1) [] [] p2) (Str.ofString "__init__") p3) [.Name (Str.ofString "what") p4] [] p5) p6,
  .Assign [.Attribute (.Name (Str.ofString "self") p7) (Str.ofString "what") p8] (.Name (Str.ofString "what") p9) pa]
structure InitOk (C : Cx) (sm fI ce cd : Addr) (fd : FuncData) (file : Str) (p1 p2 p3 p4 p5 p6 p7 p8 p9 pa : Pos) : Prop where
  fn : ∃ o, C.h0.get? fI = some o ∧ o.data = .func fd
  first : (fd.params.posonlyargs ++ fd.params.args).head?.map (·.arg) = some (Str.ofString "self")
  bind : ∀ a b : Value, bindArgs fd ⟨[a, b], []⟩ = pure [(Str.ofString "self", a), (Str.ofString "what", b)]
  body : fd.body = .stmts (initBody p1 p2 p3 p4 p5 p6 p7 p8 p9 pa)
  scope : fd.scope = initScope
  clo : fd.closure = [(Str.ofString "__class__", ce)]
  glob : fd.globals = mainGlobals
  bui : fd.builtins = builtinsNs
  code : fd.code = .ref cd
  qual : ∃ o vs t t', C.h0.get? cd = some o ∧ o.data = .fields vs ∧ vs[1]? = some (.str fd.qualname t) ∧ vs[2]? = some (.str file t')
  cell : C.h0.IsCell ce (some (.ref sm))
  main : C.prog.main.file = file
  free : (C.prog.main.scope.names.lookup (Str.ofString "super")).isSome = false
  sup : C.mg (Str.ofString "super") = none ∧ C.mb (Str.ofString "super") = some (.type "super")
  isT : Looks (model C.prog C.w) C.h0 (isType (.ref sm)) true
  sub : Looks (model C.prog C.w) C.h0 (isSubtype (.ref C.sf) (.ref sm)) true
  ne : C.sf ≠ sm
  sfT : ∃ o, C.h0.get? C.sf = some o ∧ o.cls = .type "type"
  mro : Looks (model C.prog C.w) C.h0 (mroOf (.ref C.sf)) (.ref C.sf :: .ref sm :: baseMro)
  opq : ∀ x y, Looks (model C.prog C.w) C.h0 (notOfAnOpaqueClass x y (.ref C.sf)) ()
  subE : Looks (model C.prog C.w) C.h0 (isSubtype (.ref C.sf) (.type "Exception")) true

section
variable {C : Cx} {sm fI ce cd : Addr} {fd : FuncData} {file : Str} {p1 p2 p3 p4 p5 p6 p7 p8 p9 pa : Pos}
noncomputable def initEnv (fd : FuncData) (L fI : Addr) (ce : Addr) : Env := newEnv initScope L mainGlobals [(Str.ofString "__class__", ce)] (fd.qualname ++ ".<locals>.") (some fI) fd.code none builtinsNs

theorem comps_func {M : Model} {A : Around} {body : List Stmt} {env : Env} {s : Shared} {Q : List Env → Shared → Prop} {E : Value → Shared → Prop} (q : Q [] s) : PySem.wpAt M A (.func body env) comprehensionsAround Q E s := by
  unfold comprehensionsAround callersCodes
  refine PySem.wpAt_bind (PySem.wpAt_bind (PySem.wpAt_stack fun p below => ?_))
  have e1 : pastTheWaiting ((Code.func body env, p) :: below) = (Code.func body env, p) :: pastTheWaiting.go false (some (.func body env)) below := by
    unfold pastTheWaiting
    rw [pastTheWaiting.go]
    rfl
  rw [e1]
  refine PySem.wpAt_of_wpAny ?_
  show wpAny M A (if (some env.frame != some env.frame) = true then _ else pure _) _ _ _
  rw [if_neg (by rw [bne_self_eq_false]; exact Bool.false_ne_true)]
  refine wpAny_pure (PySem.wpAt_of_wpAny (wpAny_pure ?_))
  exact q

theorem atS {α : Type} {M : Model} {A : Around} {c : Code} {p : Pos} {s : Shared} {Q : α → Shared → Prop} {E : Value → Shared → Prop} {k : Unit → Sem α} (h : PySem.wpAt M A c (k ()) Q E s) : PySem.wpAt M A c (standAt p >>= k) Q E s :=
  PySem.wpAt_bind (PySem.wpAt_of_wpAny (wpAny_standAt h))

theorem super_base {A : Around} {s : Shared} {L e : Addr} {mm : Str → Option Value} {whole : Sem Value} {Q : Value → Shared → Prop} {E : Value → Shared → Prop} {bd : List Stmt} (OC : C.Ok) (O : InitOk C sm fI ce cd fd file p1 p2 p3 p4 p5 p6 p7 p8 p9 pa)
    (hk : ∀ b o, C.h0.get? b = some o → s.heap.get? b = some o) (hn : s.heap.Ns L mm) (hs : mm (Str.ofString "self") = some (.ref e))
    (q : wpAny (model C.prog C.w) A (call (.type "super") [.ref sm, .ref e]) Q E s) :
    PySem.wpAt (model C.prog C.w) A (.func bd (initEnv fd L fI ce)) (attributeBase (.Call (.Name (Str.ofString "super") p1) [] [] p2) (Str.ofString "__init__") (initEnv fd L fI ce) whole) Q E s := by
  unfold attributeBase
  obtain ⟨o, ho, hd⟩ := O.fn
  obtain ⟨oc, vs, t, t', hoc, hdc, h1, h2⟩ := O.qual
  dsimp only
  have k1 : (initEnv fd L fI ce).kindOf (Str.ofString "super") = some .globalImplicit := by show initScope.names.lookup _ = _; decide +kernel
  have k2 : (initEnv fd L fI ce).kindOf (Str.ofString "__class__") = some .free := by show initScope.names.lookup _ = _; decide +kernel
  have k3 : (initEnv fd L fI ce).kindOf (Str.ofString "self") = some .local := by show initScope.names.lookup _ = _; decide +kernel
  rw [k1, k2]
  rw [if_neg (by decide +kernel)]
  show PySem.wpAt _ _ _ (pure (initEnv fd L fI ce) >>= _) _ _ _
  refine PySem.wpAt_bind (PySem.wpAt_of_wpAny (wpAny_pure ?_))
  show PySem.wpAt _ _ _ (if ((initEnv fd L fI ce).kindOf (Str.ofString "__class__") != some NameKind.free) = true then _ else _) _ _ _
  rw [k2, if_neg (by decide +kernel)]
  refine PySem.wpAt_bind (PySem.wpAt_of_wpAny ?_)
  unfold funcData
  refine wpAny_bind (wpAny_load (hk _ _ ho) ?_)
  rw [hd]
  refine wpAny_pure ?_
  have hf : ∃ a, (fd.params.posonlyargs ++ fd.params.args).head? = some a ∧ a.arg = Str.ofString "self" := Option.map_eq_some_iff.mp O.first
  obtain ⟨a, ha, har⟩ := hf
  show PySem.wpAt _ _ _ (match (fd.params.posonlyargs ++ fd.params.args).head? with | some first => _ | _ => _) _ _ _
  rw [ha]
  dsimp only
  refine PySem.wpAt_bind (PySem.wpAt_of_wpAny (wpAny_askSetting ?_))
  have hcd : (initEnv fd L fI ce).code = .ref cd := O.code
  rw [hcd]
  refine PySem.wpAt_bind (PySem.wpAt_of_wpAny (wpAny_field (hk _ _ hoc) hdc h2 ?_))
  show PySem.wpAt _ _ _ (match if (C.prog.main.file == file) = true then some C.prog.main else _ with | some top => _ | _ => _) _ _ _
  rw [if_pos (by rw [O.main]; exact beq_self_eq_true _)]
  dsimp only
  rw [O.free, if_neg (by decide)]
  refine PySem.wpAt_bind (PySem.wpAt_of_wpAny (wpAny_rule ?_))
  refine atS (PySem.wpAt_bind (PySem.wpAt_of_wpAny ?_))
  rw [loadName_read rfl k1]
  refine Calls.loadGlobal_builtin (mg := C.mg) (mb := C.mb) (OC.g.keeps hk) O.sup.1 (OC.b.keeps hk) O.sup.2 ?_
  refine PySem.wpAt_bind (PySem.wpAt_of_wpAny (wpAny_loadName_free rfl k2 (by show List.lookup _ [(Str.ofString "__class__", ce)] = some ce; simp) (O.cell.keeps hk) ?_ (by decide +kernel)))
  refine PySem.wpAt_bind (comps_func ?_)
  rw [har]
  refine PySem.wpAt_bind (PySem.wpAt_of_wpAny (wpAny_loadName_local (env := initEnv fd L fI ce) rfl k3 hn hs ?_))
  refine PySem.wpAt_bind (PySem.wpAt_of_wpAny ((O.isT.keeps hk).here ?_))
  rw [if_pos (by decide +kernel)]
  exact PySem.wpAt_of_wpAny q
end
end MP
namespace MP
section
variable {C : Cx} {sm fI ce cd : Addr} {fd : FuncData} {file : Str} {p1 p2 p3 p4 p5 p6 p7 p8 p9 pa : Pos}

theorem mro_super : mroOf (.type "super") = pure [.type "super", .type "object"] := by rw [mroOf_type]; kernel_rfl
theorem lookup_super_new : typeLookup (.type "super") "__new__" = pure (some (.builtin "super.__new__")) := by rw [typeLookup_type, builtinLookup_eq_fast]; kernel_rfl
theorem slot_super_init : Slot "super" "__init__" "super.__init__" :=
  .of (owner := "super") (n := "__init__") (by rw [typeLookup_type, builtinLookup_eq_fast]; kernel_rfl) (by decide +kernel) (by decide +kernel) (by decide +kernel) (by first | exact .inl (by decide +kernel) | exact .inr (by decide +kernel)) (by rw [isSubtype_type]; kernel_rfl)
theorem called_super : TypeCalled "super" "super.__new__" "super.__init__" :=
  ⟨by decide +kernel, by decide +kernel, ⟨_, _, mro_super⟩, madeBy_type mro_super lookup_super_new (by decide +kernel), by decide +kernel, by rw [isSubtype_type]; kernel_rfl, slot_super_init⟩
theorem entry_super_new : entryFor table "super.__new__" = some Builtin.«super.__new__» := entryFor_of_tree (by kernel_rfl)
theorem entry_super_init : entryFor table "super.__init__" = some Builtin.«super.__init__» := entryFor_of_tree (by kernel_rfl)
theorem newCall_super (a b : Value) : checkBuiltinCall "super.__new__" ⟨[.type "super", a, b], []⟩ = pure () := by kernel_rfl
theorem args_super_init (a b c : Value) : argsOk "super.__init__" ⟨[a, b, c], []⟩ := by unfold argsOk; kernel_rfl
theorem typeSig_super (a b : Value) : (match Manifest.signature? "type.super" with | some sig => Bind.checkArgs "type.super" sig ⟨[a, b], []⟩ | none => pure ()) = pure () := by kernel_rfl

noncomputable def superObj (a b c : Value) : Obj := { cls := .type "super", data := .fields #[a, b, c] }
theorem call_super {A : Around} {s : Shared} {e : Addr} {oe : Obj} {Q : Value → Shared → Prop} {E : Value → Shared → Prop} (O : InitOk C sm fI ce cd fd file p1 p2 p3 p4 p5 p6 p7 p8 p9 pa)
    (hk : ∀ b o, C.h0.get? b = some o → s.heap.get? b = some o) (he : s.heap.get? e = some oe) (hce : oe.cls = .ref C.sf) (hnc : ∀ c, oe.data ≠ .cls c)
    (q : ∀ h', (∀ b o, s.heap.get? b = some o → h'.get? b = some o) → h'.get? s.heap.objs.size = some (superObj (.ref sm) (.ref e) (.ref C.sf)) → Q (.ref s.heap.objs.size) { s with heap := h' }) :
    wpAny (model C.prog C.w) A (call (.type "super") [.ref sm, .ref e]) Q E s := by
  have ft := called_super
  obtain ⟨c, tl, hmro⟩ := ft.mro
  have hmade := ft.made
  have hsub := ft.sub
  refine wpAny_call (codeAny_of_tree ?_)
  show wpAny _ _ (callAny (.type "super") _) _ _ _
  refine wpAny_pure ⟨Code.quiet_builtin _ (by decide +kernel), codeAny_builtin F.entry_type_call ?_⟩
  rw [Around.under_plain (weight_type_call_type "super" [.ref sm, .ref e] []) rfl]
  have h1 := ft.notType
  have h2 := ft.canCreate
  have hct : ∀ A' (Q' : Unit → Shared → Prop) (E' : Value → Shared → Prop), Q' () s → wpAny (model C.prog C.w) A' (checkTypeCall "super" ⟨[.ref sm, .ref e], []⟩) Q' E' s := by
    intro A' Q' E' q'
    have hsig := typeSig_super (.ref sm) (.ref e)
    unfold checkTypeCall
    rw [if_pos (by rfl)]
    dsimp only
    rw [if_neg (by simp)]
    refine wpAny_bind ((O.isT.keeps hk).here ?_)
    rw [if_neg (by decide +kernel)]
    exact wpAny_of_eq hsig q'
  repeat (any_goals (first | assumption | with_reducible refine wpAny_bind (hct _ _ _ ?_) | wp_step))
  refine codeAny_call_builtin_code (Code.quiet_builtin _ (by decide +kernel)) (wpAny_of_eq (newCall_super _ _) ?_)
  refine codeAny_builtin entry_super_new ?_
  unfold Builtin.«super.__new__»
  dsimp only
  rw [if_neg (by decide +kernel)]
  unfold newFields
  refine wpAny_bind (wpAny_newObj_type ?_)
  refine wpAny_pure ?_
  dsimp only
  have g0 : (s.heap.push (superObj .none .none .none)).get? s.heap.objs.size = some (superObj .none .none .none) := Heap.get?_push_size _ rfl
  have hT : ({ s with heap := s.heap.push (superObj .none .none .none) } : Shared).TypeIs (.ref s.heap.objs.size) "super" := ⟨_, g0, rfl⟩
  refine wpAny_bind (wpAny_isInstance (T := "super") (b := true) hT (by rw [isSubtype_type]; kernel_rfl) ?_)
  rw [if_neg (by decide +kernel)]
  refine wpAny_bind (wpAny_holding (wpAny_callSpecial?_slot (name := Str.ofString "__init__") hT slot_super_init (wpAny_call_entry slot_super_init hT entry_super_init ?_ (args_super_init _ _ _))))
  unfold Builtin.«super.__init__»
  refine wpAny_bind (wpAny_of_eq (a := ()) rfl ?_)
  dsimp only
  refine wpAny_bind (wpAny_pure ?_)
  dsimp only
  have hk1 : ∀ b o, C.h0.get? b = some o → (s.heap.push (superObj .none .none .none)).get? b = some o := fun b o g => Heap.get?_push_of_some _ (hk b o g)
  have he1 : (s.heap.push (superObj .none .none .none)).get? e = some oe := Heap.get?_push_of_some _ he
  refine wpAny_bind ((O.isT.keeps hk1).here ?_)
  rw [if_neg (by decide +kernel), if_neg (show ¬ ((Value.ref e == Value.none) = true) from by simp)]
  refine wpAny_bind ?_
  show wpAny _ _ (isType (.ref e) >>= _) _ _ _
  refine wpAny_bind (ks_wpAny_isType_inst he1 hnc ?_)
  rw [if_neg (by decide +kernel)]
  show wpAny _ _ (typeOf (.ref e) >>= _) _ _ _
  refine wpAny_bind (wpAny_bind (wpAny_load he1 (wpAny_pure ?_)))
  rw [hce]
  refine wpAny_bind ((O.sub.keeps hk1).here ?_)
  rw [if_pos (by decide +kernel)]
  refine wpAny_pure ?_
  refine wpAny_bind (wpAny_setField_rec g0 (by decide) fun h1' g1 s1 => ?_)
  refine wpAny_bind (wpAny_setField_rec g1 (by simp) fun h2' g2 s2 => ?_)
  refine wpAny_bind (wpAny_setField_rec g2 (by simp) fun h3' g3 s3 => ?_)
  refine wpAny_pure ⟨_, rfl, ?_⟩
  rw [if_neg (by decide +kernel)]
  refine wpAny_pure ?_
  refine q h3' (fun b o g => ?_) g3
  have hb : b ≠ s.heap.objs.size := Nat.ne_of_lt (Heap.lt_size g)
  exact s3.extBut b o hb (s2.extBut b o hb (s1.extBut b o hb (Heap.get?_push_of_some _ g)))
end
end MP
namespace MP
section
variable {C : Cx} {sm fI ce cd : Addr} {fd : FuncData} {file : Str} {p1 p2 p3 p4 p5 p6 p7 p8 p9 pa : Pos}

theorem slot_super_ga : Slot "super" "__getattribute__" "super.__getattribute__" :=
  .of (owner := "super") (n := "__getattribute__") (by rw [typeLookup_type, builtinLookup_eq_fast]; kernel_rfl) (by decide +kernel) (by decide +kernel) (by decide +kernel) (by first | exact .inl (by decide +kernel) | exact .inr (by decide +kernel)) (by rw [isSubtype_type]; kernel_rfl)
theorem entry_super_ga : entryFor table "super.__getattribute__" = some Builtin.«super.__getattribute__» := entryFor_of_tree (by kernel_rfl)
theorem args_super_ga (a b : Value) : argsOk "super.__getattribute__" ⟨[a, b], []⟩ := by unfold argsOk; kernel_rfl
theorem slot_wd_get : typeLookup (.type "wrapper_descriptor") "__get__" = pure (some (.builtin "wrapper_descriptor.__get__")) := by rw [typeLookup_type, builtinLookup_eq_fast]; kernel_rfl
theorem entry_wd_get : entryFor table "wrapper_descriptor.__get__" = some Builtin.«wrapper_descriptor.__get__» := entryFor_of_tree (by kernel_rfl)
theorem type_exc_init : typeOf (.builtin "Exception.__init__") = pure (.type "wrapper_descriptor") := by show builtinType _ = _; rw [builtinType_eq_fast]; kernel_rfl
theorem own_exc_init : classOwn (.type "Exception") "__init__" = pure (some (.builtin "Exception.__init__")) := by kernel_rfl
theorem canon_super_ga : (Manifest.canonical "super.__getattribute__" != "object.__getattribute__") = true := by decide +kernel

theorem slot_wd : Slot "wrapper_descriptor" "__get__" "wrapper_descriptor.__get__" :=
  .of (owner := "wrapper_descriptor") (n := "__get__") slot_wd_get (by decide +kernel) (by decide +kernel) (by decide +kernel) (by first | exact .inl (by decide +kernel) | exact .inr (by decide +kernel)) (by rw [isSubtype_type]; kernel_rfl)
theorem args_wd_get (a b c : Value) : argsOk "wrapper_descriptor.__get__" ⟨[a, b, c], []⟩ := by unfold argsOk; kernel_rfl
theorem super_attr {A : Around} {s : Shared} {e z : Addr} {oe : Obj} {Q : Value × List Value → Shared → Prop} {E : Value → Shared → Prop} {pl : Sem Bool} (O : InitOk C sm fI ce cd fd file p1 p2 p3 p4 p5 p6 p7 p8 p9 pa)
    (hk : ∀ b o, C.h0.get? b = some o → s.heap.get? b = some o) (he : s.heap.get? e = some oe) (hce : oe.cls = .ref C.sf) (hz : s.heap.get? z = some (superObj (.ref sm) (.ref e) (.ref C.sf)))
    (q : ∀ tk, Q (.ref s.heap.objs.size, []) { s with heap := s.heap.push { cls := .type "method-wrapper", data := .fields #[.builtin "Exception.__init__", .ref e] }, toks := tk }) :
    wpAny (model C.prog C.w) A (getMethod (.ref z) (Str.ofString "__init__") pl) Q E s := by
  have hT : ∀ tk : Nat, ({ s with toks := tk } : Shared).TypeIs (.ref z) "super" := fun _ => ⟨_, hz, rfl⟩
  unfold getMethod
  refine wpAny_bind (wpAny_specialOf (hT s.toks) slot_super_ga.lookup ?_)
  dsimp only
  rw [if_pos canon_super_ga]
  refine wpAny_bind ?_
  refine wpAny_bind ?_
  refine wpAny_mkText ?_
  unfold getAttrBy
  refine wpAny_holding (wpAny_bind (wpAny_typeOf (hT (s.toks + 1)) (wpAny_bind (wpAny_of_eq slot_super_ga.lookup ?_))))
  dsimp only
  rw [if_neg (by decide +kernel)]
  unfold getAttrByItsOwn
  refine wpAny_bind (wpAny_of_eq (a := none) rfl ?_)
  refine wpAny_bind (wpAny_attempt (wpAny_holding ?_))
  unfold callGetattribute
  rw [if_neg (by decide +kernel)]
  unfold boundAndCalled
  refine wpAny_bind (wpAny_of_eq (slot_super_ga.bind _) ?_)
  dsimp only
  refine wpAny_call_entry slot_super_ga (hT (s.toks + 1)) entry_super_ga ?_ (args_super_ga _ _)
  unfold Builtin.«super.__getattribute__»
  refine wpAny_bind (wpAny_pure ?_)
  rw [if_neg (by decide +kernel)]
  refine wpAny_bind (wpAny_pure ?_)
  dsimp only
  have hz' : ({ s with toks := s.toks + 1 } : Shared).heap.get? z = some (superObj (.ref sm) (.ref e) (.ref C.sf)) := hz
  refine wpAny_bind (wpAny_field hz' rfl (x := .ref sm) rfl ?_)
  refine wpAny_bind (wpAny_field hz' rfl (x := .ref e) rfl ?_)
  refine wpAny_bind (wpAny_field hz' rfl (x := .ref C.sf) rfl ?_)
  rw [if_neg (by rw [show (Value.ref C.sf == Value.none) = false from by simp]; decide +kernel)]
  refine wpAny_bind (O.opq _ _ _ _ _ { s with toks := s.toks + 1 } hk ?_)
  rw [if_neg (show ¬ ((Value.ref C.sf == Value.type "module") = true) from by simp)]
  refine wpAny_bind (O.mro _ _ _ { s with toks := s.toks + 1 } hk ?_)
  have hdrop : List.drop 1 (List.dropWhile (fun x => x != Value.ref sm) (.ref C.sf :: .ref sm :: baseMro)) = baseMro := by
    have : (Value.ref C.sf != Value.ref sm) = true := by simp [O.ne]
    rw [List.dropWhile_cons, if_pos this, List.dropWhile_cons, if_neg (by simp)]
    rfl
  rw [hdrop]
  unfold baseMro
  rw [List.forIn_cons]
  refine wpAny_bind (wpAny_bind (wpAny_bind (wpAny_of_eq own_exc_init ?_)))
  dsimp only
  refine wpAny_bind (wpAny_of_eq type_exc_init (wpAny_bind (wpAny_of_eq slot_wd_get ?_)))
  dsimp only
  refine wpAny_bind (wpAny_holding ?_)
  have hes : e ≠ C.sf := by
    rintro rfl
    obtain ⟨o, g, c⟩ := O.sfT
    rw [hk _ _ g] at he; cases he
    rw [c] at hce; cases hce
  rw [if_neg (show ¬ ((Value.ref e == Value.ref C.sf) = true) from by simp [hes])]
  have hTw : ({ s with toks := s.toks + 1 } : Shared).TypeIs (.builtin "Exception.__init__") "wrapper_descriptor" := type_exc_init
  refine wpAny_call_entry slot_wd hTw entry_wd_get ?_ (args_wd_get _ _ _)
  unfold Builtin.«wrapper_descriptor.__get__»
  refine wpAny_bind (wpAny_of_eq (a := (Value.builtin "Exception.__init__", some (Value.ref e), some (Value.ref C.sf))) (by kernel_rfl) ?_)
  dsimp only
  show wpAny _ _ ((pure ((Str.ofString "__init__", Value.type "Exception") : Str × Value) >>= _) >>= _) _ _ _
  refine wpAny_bind (wpAny_bind (wpAny_pure ?_))
  dsimp only
  have ht : Looks (model C.prog C.w) s.heap (typeOf (.ref e)) (.ref C.sf) := hce ▸ (Looks.ld he).andThen .now
  refine wpAny_bind (wpAny_bind (ht _ _ _ { s with toks := s.toks + 1 } (fun _ _ g => g) ?_))
  refine O.subE _ _ _ { s with toks := s.toks + 1 } hk ?_
  rw [if_neg (by decide +kernel)]
  refine wpAny_pure ?_
  unfold newFields
  refine wpAny_bind (wpAny_newObj_type (wpAny_pure ⟨_, rfl, ?_⟩))
  refine wpAny_bind (wpAny_pure (wpAny_pure ?_))
  dsimp only
  refine wpAny_pure ?_
  dsimp only
  refine wpAny_pure ⟨_, rfl, ?_⟩
  refine wpAny_pure (wpAny_pure ?_)
  exact q _
end
end MP
namespace MP
section
variable {nm qn : Str} {N : Addr} {bs : List Value} {hdct : Bool} {sn : List Str} {sub : List Value} {ab : Bool} {col : Option Bool} {dd : Option Addr} {k0 k1 k2 k3 k5 : Option Value}
variable {C : Cx} {sm fI ce cd : Addr} {fd : FuncData} {file : Str} {p1 p2 p3 p4 p5 p6 p7 p8 p9 pa : Pos}

theorem bound_exc_init {M : Model} {A : Around} {E : Value → Shared → Prop} {s : Shared} {Q : Unit → Shared → Prop} {oe : Obj} (e : Addr) (x : Value) (hC : s.heap.get? C.sf = some (excClassObj nm qn C.sf N bs (.ref sm :: baseMro) hdct sn sub ab col dd k0 k1 k2 k3 k5 "Exception.__new__")) (he : s.heap.get? e = some oe) (hce : oe.cls = .ref C.sf) (qq : Q () s) : wpAny M A (checkBoundCall "Exception.__init__" ⟨[.ref e, x], []⟩) Q E s := by
  have F := F.excBase_Exception
  have hshort := F.noStar
  obtain ⟨h, g, d, t, os⟩ := s
  simp only [checkBoundCall, F.initKind, F.initRow]
  rw [if_pos (by decide +kernel)]
  repeat (first | (with_reducible refine wpAny_loadPart_at he ?_; rw [hce]) | with_reducible refine wpAny_loadPart_at hC ?_ | wp_step)
  exact qq

theorem call_wrapper {A : Around} {s : Shared} {e z : Addr} {oe : Obj} {vs : Array Value} {x : Value} {Q : Value → Shared → Prop} {E : Value → Shared → Prop}
    (hw : s.heap.get? z = some { cls := .type "method-wrapper", data := .fields #[.builtin "Exception.__init__", .ref e] }) (he : s.heap.get? e = some oe) (hd : oe.data = .fields vs) (hv : 0 < vs.size) (hce : oe.cls = .ref C.sf) (hC : s.heap.get? C.sf = some (excClassObj nm qn C.sf N bs (.ref sm :: baseMro) hdct sn sub ab col dd k0 k1 k2 k3 k5 "Exception.__new__"))
    (q : ∀ h', h'.get? e = some { oe with data := .fields (vs.setIfInBounds 0 (.ref s.heap.objs.size)) } → (∀ b o, b ≠ e → s.heap.get? b = some o → h'.get? b = some o) → Q .none { s with heap := h' }) :
    wpAny (model C.prog C.w) A (call (.ref z) [x]) Q E s := by
  refine wpAny_call (codeAny_of_tree ?_)
  show wpAny _ _ (callAny (.ref z) _) _ _ _
  unfold callAny
  refine wpAny_bind (wpAny_load hw ?_)
  dsimp only
  rw [if_pos (by decide +kernel)]
  show wpAny _ _ (if _ then _ else _) _ _ _
  rw [if_pos (by decide +kernel)]
  refine wpAny_bind (bound_exc_init e x hC he hce ?_)
  refine wpAny_bind (wpAny_pure ?_)
  refine wpAny_pure ⟨Code.quiet_builtin _ (by decide +kernel), codeAny_builtin F.excBase_Exception.initEntry ?_⟩
  unfold Builtin.«BaseException.__init__»
  show wpAny _ (A.under (Code.builtin "Exception.__init__" ⟨[.ref e, x], []⟩)) (newTuple [x] >>= fun t => Builtin.BaseException.bexcPut (.ref e) 0 t >>= fun _ => ret .none) _ _ _
  refine wpAny_bind (wpAny_newObj_type ?_)
  have he1 := Heap.get?_push_of_some { cls := .type "tuple", data := .seq #[x] } he
  unfold Builtin.BaseException.bexcPut
  refine wpAny_bind (wpAny_bind (wpAny_field he1 hd (x := vs[0]) (Array.getElem?_eq_getElem hv) ?_))
  refine wpAny_bind (wpAny_setField he1 hd hv ?_)
  have fin : wpAny (model C.prog C.w) (A.under (Code.builtin "Exception.__init__" ⟨[.ref e, x], []⟩)) (ret .none) (fun fin s' =>
      match fin with
      | Fin.done f =>
        match Except.ok f with
        | Except.ok (Flow.ret v) => Q v s'
        | Except.ok a => False
        | Except.error e => E e s'
      | Fin.again c' =>
        c'.quiet = true ∧
          codeAny (model C.prog C.w) A c'
            (fun r s' =>
              match r with
              | Except.ok (Flow.ret v) => Q v s'
              | Except.ok a => False
              | Except.error e => E e s')
            s') E { s with heap := (s.heap.push { cls := .type "tuple", data := .seq #[x] }).update e (Obj.mapFields (·.setIfInBounds 0 (.ref s.heap.objs.size))) } := by
    refine wpAny_pure (q _ ?_ fun b o hb g => ?_)
    · rw [Heap.get?_update_self _ he1 (Obj.isFreed_of_fields (Obj.data_mapFields hd _))]
      obtain ⟨c, dt, da, sl⟩ := oe
      dsimp only at hd
      subst hd
      rfl
    · rw [Heap.get?_update_other _ _ (Ne.symm hb)]
      exact Heap.get?_push_of_some _ g
  cases vs[0] with
  | ref a => exact wpAny_letGo fin
  | _ => exact wpAny_pure fin
end
end MP
namespace MP
section
variable {C : Cx}

theorem refuse_exc (self : Value) (a b : Addr) : refuseLoop self "__setattr__" (.ref a :: .ref b :: baseMro) = pure () := by
  rw [refuseLoop_ref, refuseLoop_ref]; kernel_rfl

structure SetOk (C : Cx) (sm : Addr) : Prop where
  set : findIn C.K (.ref C.sf) "__setattr__" = some (some (.builtin "object.__setattr__"))
  what : findIn C.K (.ref C.sf) (Str.ofString "what") = some none
  cls : ∃ cd, clsIn C.K C.sf = some cd ∧ cd.mro = .ref C.sf :: .ref sm :: baseMro ∧ cd.hasDict = true

theorem set_exc {A : Around} {s : Shared} {e sm : Addr} {vs : Array Value} {y : Value} {Q : Unit → Shared → Prop} {E : Value → Shared → Prop} {slx : Array (Option Value)} (X : C.K.In s.heap) (S : SetOk C sm)
    (he : s.heap.get? e = some ⟨.ref C.sf, none, .fields vs, slx⟩)
    (q : ∀ h' tk, h'.get? e = some ⟨.ref C.sf, some s.heap.objs.size, .fields vs, slx⟩ → (∀ b o, b ≠ e → s.heap.get? b = some o → h'.get? b = some o) → Q () { s with heap := h', toks := tk }) :
    wpAny (model C.prog C.w) A (setAttr (.ref e) (Str.ofString "what") y) Q E s := by
  obtain ⟨cd, hc, hmro, hdict⟩ := S.cls
  have I : PySem.W.InstAt s.heap e ⟨.ref C.sf, none, .fields vs, slx⟩ C.sf none := ⟨he, rfl, rfl, trivial⟩
  refine set_plain X I S.set ?_
  have SF := PySem.F.store_object
  have ne : cd.mro.isEmpty = false := by rw [hmro]; rfl
  have sub : Looks (model C.prog C.w) s.heap (isInstance (.ref e) (.type "object")) true := I.type.andThen (looks_mroIn X (by unfold mroIn; rw [hc, Option.bind_some, if_neg (by rw [ne]; decide), hmro]; simp [baseMro]))
  refine codeAny_call_builtin SF.slot.plain SF.entry (@check_slot (model C.prog C.w) _ _ { s with toks := s.toks + 1 } "object.__setattr__" "object" "__setattr__" (.ref e) [.str (Str.ofString "what") s.toks, y] [] _ SF.kind SF.split sub (SF.args (.ref e) (.str (Str.ofString "what") s.toks) y) ?_)
  have hm : Looks (model C.prog C.w) s.heap (mroOf (.ref C.sf)) cd.mro := (looks_clsIn X hc).andThen .now
  rw [osa_eq, refuse_eq]
  refine wpAny_bind (wpAny_bind (I.type _ _ _ _ (fun _ _ g => g) (wpAny_bind (hm _ _ _ _ (fun _ _ g => g) ?_))))
  rw [hmro, refuse_exc]
  refine wpAny_pure (wpAny_bind (I.type _ _ _ _ (fun _ _ g => g) (wpAny_bind (looks_findIn X S.what _ _ _ _ (fun _ _ g => g) (wpAny_bind (wpAny_pure ?_))))))
  refine wpAny_bind (wpAny_pure ?_)
  refine wpAny_bind ?_
  refine wpAny_bind (wpAny_loadPart (s := { s with toks := s.toks + 1 }) he ?_)
  refine wpAny_bind (looks_clsIn X hc _ _ _ { s with toks := s.toks + 1 } (fun _ _ g => g) ?_)
  rw [hdict]
  dsimp only
  show wpAny _ _ (alloc emptyDict >>= fun d => update e (fun o => { o with dict := some d }) >>= fun _ => dictMade (.ref C.sf) e d) _ _ _
  refine wpAny_bind (wpAny_alloc ?_)
  have he1 : (s.heap.push emptyDict).get? e = some ⟨.ref C.sf, none, .fields vs, slx⟩ := Heap.get?_push_of_some _ he
  have gd1 : (s.heap.push emptyDict).get? s.heap.objs.size = some emptyDict := Heap.get?_push_size _ rfl
  have hne : e ≠ s.heap.objs.size := Nat.ne_of_lt (Heap.lt_size he)
  refine wpAny_bind (wpAny_update (s := { s with heap := s.heap.push emptyDict, toks := s.toks + 1 }) he1 ?_)
  have he2 : ((s.heap.push emptyDict).update e fun o => { o with dict := some s.heap.objs.size }).get? e = some ⟨.ref C.sf, some s.heap.objs.size, .fields vs, slx⟩ := Heap.get?_update_self _ he1 rfl
  have gd2 : ((s.heap.push emptyDict).update e fun o => { o with dict := some s.heap.objs.size }).get? s.heap.objs.size = some emptyDict := (Heap.get?_update_other _ _ hne).trans gd1
  refine wpAny_bind (wpAny_pure (wpAny_pure ?_))
  dsimp only
  refine wpAny_bind (wpAny_pure (wpAny_bind ?_))
  refine nsSet_own gd2 rfl (fun e he => by simp at he) fun h' o' es' ep' g' hd' sk' sz' hfi hs => ?_
  refine wpAny_bind (wpAny_lookBehind g' (by rw [hd']; exact pastItsLine_dict (by rw [sizeLine_eq]; simp at sz'; omega)) ?_)
  refine wpAny_pure ?_
  refine q h' _ ((hs.2 e hne).trans he2) fun b o hb g => ?_
  rw [hs.2 b (Nat.ne_of_lt (Heap.lt_size g)), Heap.get?_update_other _ _ (Ne.symm hb)]
  exact Heap.get?_push_of_some _ g
end
end MP
namespace MP

theorem wpAt_onRaise {α : Type} {M : Model} {A : Around} {c : Code} {m : Sem α} {k : Value → Sem Unit} {Q : α → Shared → Prop} {E : Value → Shared → Prop} {s : Shared}
    (h : PySem.wpAt M A c m Q (fun e s' => wpAny M A (k e) (fun _ s'' => E e s'') E s') s) : PySem.wpAt M A c (m.onRaise k) Q E s := fun Γ p hc hΓ => by
  rw [Sem.wp_onRaise]
  exact Sem.wp_mono M Γ m (fun _ _ _ h' => h') (fun e p' s' h' => h' Γ p' hΓ) p s (h Γ p hc hΓ)
theorem codeAny_func_at {M : Model} {A : Around} {R : Result → Shared → Prop} {s : Shared} {body : List Stmt} {env : Env} (hden : M.den (.func body env) = (do point; match ← (execs body env).onRaise (leaving env) with | .ret v => ret v | _ => ret .none))
    (h : PySem.wpAt M (A.deeper env) (.func body env) (execs body env) (fun f s' => R (.ok (.ret (match f with | .ret v => v | _ => .none))) s')
      (fun e s' => wpAny M (A.deeper env) (leaving env e) (fun _ s'' => R (.error e) s'') (fun e' s'' => R (.error e') s'') s') s) :
    codeAny M A (.func body env) R s := by
  refine PySem.codeAny_of_treeAt ?_
  rw [hden]
  show PySem.wpAt _ (A.deeper env) _ (do point; match ← (execs body env).onRaise (leaving env) with | .ret v => ret v | _ => ret .none) _ _ s
  refine PySem.wpAt_bind (PySem.wpAt_of_wpAny (wpAny_point (PySem.wpAt_bind (wpAt_onRaise (PySem.wpAt_mono h (fun f s' h' => ?_) fun _ _ h' => h')))))
  refine PySem.wpAt_of_wpAny ?_
  cases f <;> exact wpAny_pure h'
theorem wpAt_execs_cons {M : Model} {A : Around} {c : Code} {st : Stmt} {rest : List Stmt} {env : Env} {Q : Flow → Shared → Prop} {E : Value → Shared → Prop} {s : Shared}
    (h : PySem.wpAt M A c (exec st env) (fun f s' => match f with | .next => wpAny M A (execs rest env) Q E s' | f => Q f s') E s) :
    PySem.wpAt M A c (execs (st :: rest) env) Q E s := fun Γ p hc hΓ => by
  rw [execs_cons, Sem.wp_bind']
  refine Sem.wp_mono M Γ _ (fun f p' s' h' => ?_) (fun _ _ _ h' => h') _ _ (h Γ p hc hΓ)
  cases f <;> first | exact h' Γ p' hΓ | exact h'

section
variable {C : Cx} {sm fI ce cd : Addr} {fd : FuncData} {file : Str} {p1 p2 p3 p4 p5 p6 p7 p8 p9 pa : Pos}
variable {nm qn : Str} {N : Addr} {bs : List Value} {hdct : Bool} {sn : List Str} {sub : List Value} {ab : Bool} {col : Option Bool} {dd : Option Addr} {k0 k1 k2 k3 k5 : Option Value}

theorem init_call {A : Around} {s : Shared} {e t0 : Addr} {y : Value} {Q : Value → Shared → Prop} {E : Value → Shared → Prop} (OC : C.Ok) (O : InitOk C sm fI ce cd fd file p1 p2 p3 p4 p5 p6 p7 p8 p9 pa) (S : SetOk C sm)
    (EO : ExcOk C sm fI nm qn N bs hdct sn sub ab col dd k0 k1 k2 k3 k5) (hline : (p3.endLine == p5.line) = true) (hk : ∀ b o, C.h0.get? b = some o → s.heap.get? b = some o) (he0 : C.h0.get? e = none) (hroom : A.depth < recursionLimit)
    (he : s.heap.get? e = some { cls := .ref C.sf, data := .fields #[.ref t0, .none, .none, .none, .bool false, .none] })
    (q : ∀ h' tk t1 dx, h'.get? e = some ⟨.ref C.sf, some dx, .fields #[.ref t1, .none, .none, .none, .bool false, .none], #[]⟩ → (∀ b o, b ≠ e → s.heap.get? b = some o → h'.get? b = some o) → Q .none { s with heap := h', toks := tk }) :
    wpAny (model C.prog C.w) A (call (.ref fI) [.ref e, y]) Q E s := by
  obtain ⟨o, ho, hd⟩ := O.fn
  obtain ⟨oc, vc, t, t', hoc, hdc, h1, h2⟩ := O.qual
  have hco : fd.scope.isCoroutine = false := by rw [O.scope]; rfl
  have hgen : fd.scope.isGenerator = false := by rw [O.scope]; rfl
  have hcode : C.h0.CodeRec fd.code fd.qualname := ⟨cd, oc, vc, t, O.code, hoc, hdc, h1⟩
  refine wpAny_call (codeAny_call_function hroom (hk _ _ ho) hd hco hgen O.body (hcode.keeps hk) ?_)
  have kl1 : initScope.names.lookup (Str.ofString "self") = some .local := by decide +kernel
  have kl2 : initScope.names.lookup (Str.ofString "what") = some .local := by decide +kernel
  rw [O.bind, O.clo, O.glob, O.bui, O.scope]
  refine wpAny_pure (wpAny_newFunctionEnv (by decide +kernel) (by intro x hx; simp only [List.mem_cons, List.not_mem_nil, or_false] at hx; rcases hx with rfl | rfl <;> first | exact kl1 | exact kl2) (fun h' hn hs => ?_) rfl)
  have hk1 : ∀ b o, s.heap.get? b = some o → h'.get? b = some o := fun b o g => (hs.2 b (Nat.ne_of_lt (Heap.lt_size g))).trans (Heap.get?_push_of_some _ g)
  refine ⟨(OC.nolimit.keeps hk).keeps hk1, codeAny_func_at rfl ?_⟩
  show PySem.wpAt _ _ (.func _ (initEnv fd s.heap.objs.size fI ce)) (execs (initBody ..) (initEnv fd s.heap.objs.size fI ce)) _ _ _
  have L1 : (fun x => List.lookup x [(Str.ofString "self", Value.ref e), (Str.ofString "what", y)].reverse) (Str.ofString "self") = some (.ref e) := by
    dsimp only
    rw [List.reverse_cons, List.reverse_cons, List.reverse_nil, List.nil_append, List.singleton_append, List.lookup_cons, show (Str.ofString "self" == Str.ofString "what") = false from by decide +kernel]
    dsimp only
    rw [List.lookup_cons, beq_self_eq_true]
  have L2 : (fun x => List.lookup x [(Str.ofString "self", Value.ref e), (Str.ofString "what", y)].reverse) (Str.ofString "what") = some y := by
    dsimp only
    rw [List.reverse_cons, List.reverse_cons, List.reverse_nil, List.nil_append, List.singleton_append, List.lookup_cons, beq_self_eq_true]
  have kk : ∀ b o, C.h0.get? b = some o → h'.get? b = some o := fun b o g => hk1 b o (hk b o g)
  refine wpAt_execs_cons ?_
  rw [exec_Expr _ _ _ rfl rfl]
  refine atS (PySem.wpAt_bind ?_)
  rw [arm_eval_Call]
  refine PySem.wpAt_bind (super_base (s := { s with heap := h', toks := s.toks + 2 }) OC O kk hn L1 ?_)
  have he1 := hk1 _ _ he
  refine call_super (s := { s with heap := h', toks := s.toks + 2 }) O kk he1 rfl (fun _ z => by cases z) fun h2 hk2 gz => ?_
  refine atS (PySem.wpAt_of_wpAny ?_)
  have kk2 : ∀ b o, C.h0.get? b = some o → h2.get? b = some o := fun b o g => hk2 b o (kk b o g)
  have few : methodCallForm ([Expr.Name (Str.ofString "what") p4].length + ([] : List Keyword).length) (backTo p5 (starEach [Expr.Name (Str.ofString "what") p4] (initEnv fd s.heap.objs.size fI ce))) (backToKw p5 (keywordEach [] (initEnv fd s.heap.objs.size fI ce))) = true := rfl
  unfold methodCall
  rw [few]
  refine wpAny_bind (wpAny_holding ?_)
  unfold calleeOf
  rw [if_pos rfl]
  refine super_attr (s := { s with heap := h2, toks := s.toks + 2 }) O kk2 (hk2 _ _ he1) rfl gz fun tk => ?_
  dsimp only
  have hpos : ∀ o env, methodCallPos true o env p3 p5 = pure p5 := fun o env => by
    unfold methodCallPos
    rw [hline]; rfl
  refine wpAny_bind (wpAny_of_eq (hpos _ _) ?_)
  let h3 := h2.push { cls := .type "method-wrapper", data := .fields #[.builtin "Exception.__init__", .ref e] }
  have hw : h3.get? h2.objs.size = some { cls := .type "method-wrapper", data := .fields #[.builtin "Exception.__init__", .ref e] } := Heap.get?_push_size _ rfl
  have hk3 : ∀ b o, h'.get? b = some o → h3.get? b = some o := fun b o g => Heap.get?_push_of_some _ (hk2 b o g)
  have hL : Looks (model C.prog C.w) h3 (keeperOf (.ref h2.objs.size)) .machine := fun A' Q' E' s' k' q' => by
    unfold keeperOf
    refine wpAny_bind (wpAny_load (k' _ _ hw) ?_)
    dsimp only
    rw [if_pos (by decide +kernel), if_pos (by decide +kernel)]
    exact wpAny_pure q'
  have hn3 : h3.Ns s.heap.objs.size (fun x => List.lookup x [(Str.ofString "self", Value.ref e), (Str.ofString "what", y)].reverse) := hn.keeps hk3
  have k2 : (initEnv fd s.heap.objs.size fI ce).kindOf (Str.ofString "what") = some .local := kl2
  have k1 : (initEnv fd s.heap.objs.size fI ce).kindOf (Str.ofString "self") = some .local := kl1
  refine callWith_any (h₀ := h3) (k := .machine) rfl hL (wpAny_items_cons (wpAny_Name (wpAny_loadName_local (env := initEnv fd s.heap.objs.size fI ce) rfl k2 hn3 L2 (wpAny_items_nil ?_)) (by decide +kernel)))
  refine ⟨fun _ _ g => g, ?_⟩
  have he3 := hk3 _ _ he1
  have hC3 := hk3 _ _ (hk1 _ _ (hk _ _ (OC.kin _ _ EO.sf)))
  refine call_wrapper (s := { s with heap := h3, toks := tk }) hw he3 rfl (by simp) rfl hC3 fun h4 ge4 hk4 => ?_
  have nL : s.heap.objs.size ≠ e := Nat.ne_of_gt (Heap.lt_size he)
  refine PySem.wpAt_of_wpAny (wpAny_pure ?_)
  dsimp only
  have hn4 : h4.Ns s.heap.objs.size (fun x => List.lookup x [(Str.ofString "self", Value.ref e), (Str.ofString "what", y)].reverse) := let ⟨o, es, ep, g, r⟩ := hn3; ⟨o, es, ep, hk4 _ _ nL g, r⟩
  have kk4 : ∀ b o, C.h0.get? b = some o → h4.get? b = some o := fun b o g => hk4 b o (fun z => by subst z; rw [he0] at g; cases g) (hk3 b o (kk b o g))
  refine wpAny_execs_cons (wpAny_Assign_stores (wpAny_Name (wpAny_loadName_local (env := initEnv fd s.heap.objs.size fI ce) rfl k2 hn4 L2 ?_) (by decide +kernel)) rfl rfl)
  show wpAny _ _ (assign (.Attribute (.Name (Str.ofString "self") p7) (Str.ofString "what") p8) (initEnv fd s.heap.objs.size fI ce) y) _ _ _
  show wpAny _ _ (do
    let ov ← holding [y] (eval (.Name (Str.ofString "self") p7) (initEnv fd s.heap.objs.size fI ce))
    standAt p8.atName
    holding [y, ov] (setAttr ov (Str.ofString "what") y)
    release [y, ov] []) _ _ _
  refine wpAny_bind (wpAny_holding (wpAny_Name (wpAny_loadName_local (env := initEnv fd s.heap.objs.size fI ce) rfl k1 hn4 L1 ?_) (by decide +kernel)))
  refine wpAny_bind (wpAny_standAt (wpAny_bind (wpAny_holding ?_)))
  refine set_exc (s := { s with heap := h4, toks := tk }) (OC.kin.keeps kk4) S ge4 fun h5 tk5 ge5 hk5 => ?_
  refine wpAny_release' ?_
  dsimp only
  refine wpAny_execs_nil ?_
  refine q h5 tk5 _ _ ge5 fun b o hb g => ?_
  exact hk5 b o hb (hk4 b o hb (hk3 b o (hk1 b o g)))
end
end MP
namespace MP
section
variable {M : Model} {A : Around} {E : Value → Shared → Prop} {env : Env}
variable {nm qn : Str} {sfA N : Addr} {bs bm : List Value} {hdct : Bool} {sn : List Str} {sub : List Value} {ab : Bool} {col : Option Bool} {dd : Option Addr} {k0 k1 k2 k3 k5 : Option Value} {newId : String}
theorem raise_own {s : Shared} {x : Sem Value} {Q : Flow → Shared → Prop} (hbase : bm.contains (.type "BaseException") = true) (hh : A.handled = none)
    (h : wpAny M A x (fun v s₁ => ∃ e t dx, v = .ref e ∧ s₁.heap.get? sfA = some (excClassObj nm qn sfA N bs bm hdct sn sub ab col dd k0 k1 k2 k3 k5 newId) ∧
      s₁.heap.get? e = some ⟨.ref sfA, some dx, .fields #[.ref t, .none, .none, .none, .bool false, .none], #[]⟩ ∧ E (.ref e) s₁) E s) :
    wpAny M A (raiseStmt env (some x) none) Q E s := by
  have hcB : (Value.ref sfA :: bm).contains (.type "BaseException") = true := by rw [List.contains_cons, hbase, Bool.or_true]
  unfold raiseStmt
  refine wpAny_bind (wpAny_mono h (fun v s₁ h₁ => ?_) fun _ _ x => x)
  obtain ⟨e, t, dx, rfl, hC, he, hE⟩ := h₁
  obtain ⟨hp, g, d, tk, os⟩ := s₁
  repeat (first | with_reducible refine wpAny_loadPart_at he ?_ | with_reducible refine wpAny_loadPart_at hC ?_ | (with_reducible refine wpAny_isSubtype_exc hC ?_; rw [hcB]) | wp_step)
  exact wpAny_raiseNew_none hh hE
end
section
variable {C : Cx} {d : Nat} {sc : Scope} {sm fI ce cd : Addr} {fd : FuncData} {file : Str} {p1 p2 p3 p4 p5 p6 p7 p8 p9 pa : Pos}
variable {nm qn : Str} {N : Addr} {bs : List Value} {hdct : Bool} {sn : List Str} {sub : List Value} {ab : Bool} {col : Option Bool} {dd : Option Addr} {k0 k1 k2 k3 k5 : Option Value}

structure RaiseOk (C : Cx) : Prop where
  ok : ∃ sm fI ce cd fd file p1 p2 p3 p4 p5 p6 p7 p8 p9 pa nm qn N bs hdct sn sub ab col dd k0 k1 k2 k3 k5, InitOk C sm fI ce cd fd file p1 p2 p3 p4 p5 p6 p7 p8 p9 pa ∧ SetOk C sm ∧ ExcOk C sm fI nm qn N bs hdct sn sub ab col dd k0 k1 k2 k3 k5 ∧ (p3.endLine == p5.line) = true

noncomputable def fRaise (g : FE) : FS := fun m H => (g m H).bindS m fun _ H1 => .exc m H1
set_option tactic.hygienic true in
theorem simS_raise {x np arg cpos pos g} (O : C.Ok) (R : RaiseOk C) (hn : isGlob sc x = true) (hx : C.mg x = some (.ref C.sf)) (hs : noStar arg = true) (h : SimE C d sc arg g) :
    SimS C d sc (.Raise (some (.Call (.Name x np) [arg] [] cpos)) none pos) (fRaise g) := by
  intro A env l m ρ H s Q E hb ha he fr st p
  obtain ⟨sm, fI, ce, cd, fd, file, p1, p2, p3, p4, p5, p6, p7, p8, p9, pa, nm, qn, N, bs, hdct, sn, sub, ab, col, dd, k0, k1, k2, k3, k5, IO, SO, EO, hline⟩ := R.ok
  have hC := O.kin _ _ EO.sf
  rw [arm_exec_Raise]
  refine wpAny_bind (wpAny_standAt ?_)
  show wpAny _ _ (raiseStmt env (some (do let v ← eval (.Call (.Name x np) [arg] [] cpos) env; standAt pos; pure v)) none) _ _ _
  refine raise_own (sfA := C.sf) (nm := nm) (qn := qn) (N := N) (bs := bs) (bm := .ref sm :: baseMro) (hdct := hdct) (sn := sn) (sub := sub) (ab := ab) (col := col) (dd := dd) (k0 := k0) (k1 := k1) (k2 := k2) (k3 := k3) (k5 := k5) (newId := "Exception.__new__") (by simp [baseMro]) hb.2.2 (wpAny_bind (wpAny_Call_ofName (name_glob O hn hx he fr st ?_)))
  have hL : Looks (model C.prog C.w) C.h0 (keeperOf (.ref C.sf)) .machine := fun A' Q' E' s' k' q' => by
    obtain ⟨hp, g', d', tk, os⟩ := s'
    exact wpAny_keeperOf_exc (k' _ _ hC) q'
  have hall : [arg].all noStar = true := by simp [hs]
  refine callWith_any (h₀ := C.h0) (k := .machine) hall hL (simL_cons hs h simL_nil A env l m ρ H s _ E cpos hb ha he fr st ?_)
  unfold fRaise at p
  unfold fCons fNil
  cases o : g m H with
  | bad => rw [o] at p; exact p.elim
  | exc H1 => rw [o] at p; exact fun ρ' e s' e1 fl => p ρ' e s' e1.no (fr.ev st e1) fl
  | ok v H1 =>
    rw [o] at p
    intro ρ1 ys s1 e1 r1
    cases r1 with
    | cons r rs =>
    cases rs
    rename_i y
    refine ⟨e1.st.old, ?_⟩
    obtain ⟨h1, gg, dr, tk, os⟩ := s1
    have hw : (Code.builtin "type.__call__" ⟨.ref C.sf :: ([] ++ [y]), []⟩).weight ≤ 50 := by
      rw [show (Code.builtin "type.__call__" ⟨.ref C.sf :: ([] ++ [y]), []⟩).weight = 1 from by kernel_rfl]; decide
    refine call_sf (O.kin.keeps e1.st.old) EO (fun h' e hle hm => ?_) (by rw [sizeLine_eq]; simp)
    obtain ⟨t, ge, gt, gt'⟩ := hm.there
    have k' : ∀ b o, C.h0.get? b = some o → h'.get? b = some o := fun b o g => hm.keeps _ _ (e1.st.old b o g)
    have he0 : C.h0.get? e = none := by
      cases q : C.h0.get? e with
      | none => rfl
      | some o' => exact absurd (Nat.lt_of_lt_of_le (Heap.lt_size q) e1.st.lo) (Nat.not_lt.mpr hle)
    refine init_call (s := ⟨h', gg, dr, tk, os⟩) O IO SO EO hline k' he0 (by have := hb.1; show A.depth + _ < 1000; omega) ge fun h2 tk2 t1 dx ge2 hk2 => ?_
    refine ⟨rfl, wpAny_bind (wpAny_standAt (wpAny_pure ⟨e, t1, dx, rfl, ?_, ge2, ?_⟩))⟩
    · exact hk2 _ _ (fun z => by rw [z, he0] at hC; cases hC) (k' _ _ hC)
    · have ks : Keep No (inFr l) h1 h2 := by
        refine ⟨Nat.le_of_lt (Nat.lt_of_le_of_lt hle (Heap.lt_size ge2)), fun b o gb _ => ⟨o.slots, ?_, fun _ => rfl⟩⟩
        exact hk2 b o (fun z => absurd (z ▸ Heap.lt_size gb) (Nat.not_lt.mpr hle)) (hm.keeps b o gb)
      have e2 : Ev C l No ρ1 ⟨h1, gg, dr, tk, os⟩ ρ1 H1 ⟨h2, gg, dr, tk2, os⟩ := Ev.keepNo e1.st ks ⟨rfl, rfl, rfl⟩
      have e3 := e1.trans e2
      exact p ρ1 e _ e3.no (fr.ev st e3) (.inl ⟨Nat.le_trans e1.keep.1 hle, _, _, ge2, rfl, rfl, rfl⟩)
end
end MP
namespace MP
section
variable {C : Cx} {d : Nat} {sc : Scope} {sm fI ce cd : Addr} {fd : FuncData} {file : Str} {p1 p2 p3 p4 p5 p6 p7 p8 p9 pa : Pos}
variable {nm qn : Str} {N : Addr} {bs : List Value} {hdct : Bool} {sn : List Str} {sub : List Value} {ab : Bool} {col : Option Bool} {dd : Option Addr} {k0 k1 k2 k3 k5 : Option Value}

theorem matches_sf {M : Model} {A : Around} {E : Value → Shared → Prop} {s : Shared} {e : Addr} {oe : Obj} {Q : Bool → Shared → Prop} (hC : s.heap.get? C.sf = some (excClassObj nm qn C.sf N bs (.ref sm :: baseMro) hdct sn sub ab col dd k0 k1 k2 k3 k5 "Exception.__new__"))
    (he : s.heap.get? e = some oe) (hce : oe.cls = .ref C.sf) (q : Q true s) : wpAny M A (excMatches (.ref e) (.ref C.sf)) Q E s := by
  have hcB : (Value.ref C.sf :: .ref sm :: baseMro).contains (.type "BaseException") = true := by simp [baseMro]
  have hcS : (Value.ref C.sf :: .ref sm :: baseMro).contains (.ref C.sf) = true := by simp
  obtain ⟨hp, g, dr, tk, os⟩ := s
  have hTT : isSubtype (.type "type") (.type "tuple") = pure false := by rw [isSubtype_type]; kernel_rfl
  unfold excMatches
  repeat (first | (with_reducible show wpAny _ _ (isSubtype (.type "type") (.type "tuple")) _ _ _; with_reducible refine wpAny_of_eq hTT ?_) | (with_reducible refine wpAny_loadPart_at he ?_; rw [hce]) | with_reducible refine wpAny_loadPart_at hC ?_ | (with_reducible refine wpAny_isSubtype_exc hC ?_; first | rw [hcB] | rw [hcS]) | wp_step)
  exact q

/-- what a handler's end tells -/
noncomputable def SimX (C : Cx) (sc : Scope) (e : Expr) (f : FE) : Prop :=
  ∀ (A : Around) (env : Env) (l : List Env) (m : Fm) (ρ : Rho) (H : Hp) (s : Shared) (Q E : Value → Shared → Prop),
    A.frames = some l → env.scope = sc → FrOk C env l m ρ s.heap → St C l ρ H s → PostE C l env.frame ρ s Q E (f m H) → wpAny (model C.prog C.w) A (eval e env) Q E s
theorem simX_none {k pos} : SimX C sc (.Constant .none k pos) (fC .none) := by
  intro A env l m ρ H s Q E _ _ _ st p
  exact wpAny_pure (p ρ _ s (.refl st) .none)

noncomputable def fTry (fb : FS) (fe : FE) : FS := fun m H => match fb m H with
  | .exc m1 H1 => (match fe m1 H1 with
    | .ok v H2 => .ok (.ret v) m1 H2
    | _ => .bad)
  | o => o
theorem simS_try {body x np e rpos hpos pos fb fe} (O : C.Ok) (R : RaiseOk C) (hn : isGlob sc x = true) (hx : C.mg x = some (.ref C.sf)) (h : SimB C d sc body fb) (he' : SimX C sc e fe) :
    SimS C d sc (.Try body [.ExceptHandler (some (.Name x np)) none [.Return (some e) rpos] hpos] [] [] pos) (fTry fb fe) := by
  intro A env l m ρ H s Q E hb ha he fr st p
  obtain ⟨sm, fI, ce, cd, fd, file, p1, p2, p3, p4, p5, p6, p7, p8, p9, pa, nm, qn, N, bs, hdct, sn, sub, ab, col, dd, k0, k1, k2, k3, k5, IO, SO, EO, hline⟩ := R.ok
  have hC := O.kin _ _ EO.sf
  refine wpAny_Try_except (h A env l m ρ H s _ _ hb ha he fr st ?_)
  unfold fTry at p
  cases o : fb m H with
  | bad => rw [o] at p; exact p.elim
  | ok fl m1 H1 =>
    rw [o] at p
    intro ρ1 F s1 e1 fr1 rf
    cases rf with
    | next => exact wpAny_execs_nil (p ρ1 _ s1 e1 fr1 .next)
    | cont => exact p ρ1 _ s1 e1 fr1 .cont
    | brk => exact p ρ1 _ s1 e1 fr1 .brk
    | ret r => exact p ρ1 _ s1 e1 fr1 (.ret r)
  | exc m1 H1 =>
    rw [o] at p
    dsimp only at p
    intro ρ1 x1 s1 e1 fr1 fly
    obtain ⟨e0, r, L, rfl, h0, hf⟩ := fr1.frame ⟨_, _, _, e1.st⟩
    rw [hf] at fly
    refine note_fly ha e1.st.frs h0 hf e1.keep.1 fly fun h2 y2 k2 => ?_
    have e2 := e1.thru (s' := { s1 with heap := h2 }) k2 st.lo ⟨rfl, rfl, rfl⟩
    have fr2 := fr1.thru k2
    refine flight_fly (X := inFr (e0 :: r)) (fr := none) y2 fun h3 y3 k3 => ?_
    have e3 := e2.thru (s' := { s1 with heap := h3 }) k3 st.lo ⟨rfl, rfl, rfl⟩
    have fr3 := fr2.thru k3
    refine wpAny_handleBy_cons (codeAny_handlers_test (name_glob O hn hx he fr3 e3.st ?_)) (by intro z; cases z)
    obtain ⟨hne, oe, vs, T, oT, ts, hT, gx, gc, gd, g1, hTe, gT, dT, g3⟩ := id y3
    refine matches_sf (e3.st.old _ _ hC) gx gc ?_
    refine codeAny_handlers_suite (flight_fly (X := inFr (e0 :: r)) (fr := none) y3 fun h4 y4 k4 => ?_)
    have e4 := e3.thru (s' := { s1 with heap := h4 }) k4 st.lo ⟨rfl, rfl, rfl⟩
    have fr4 := fr3.thru k4
    refine wpAny_execs_cons (wpAny_Return_some (he' (A.mark (some (.ref x1))) env (e0 :: r) m1 ρ1 H1 { s1 with heap := h4 } _ _ ha he fr4 e4.st ?_))
    cases oo : fe m1 H1 with
    | ok v H2 =>
      rw [oo] at p
      intro ρ5 y5 s5 e5 r5
      exact p ρ5 _ s5 (e4.trans e5.no) (fr4.ev e4.st e5) (.ret r5)
    | exc H2 => rw [oo] at p; exact p.elim
    | bad => rw [oo] at p; exact p.elim
end
end MP
namespace MP
section
variable {C : Cx} {d : Nat} {sc : Scope}

/-- an object is made -/
noncomputable def fMake (Kc : Addr) (F : List V → Hp → Out V) (vs : List V) (H : Hp) : Out V := (F (.ref H.length :: vs) (H ++ [.inst Kc []])).bind fun v H1 => match v with
  | .none => .ok (.ref H.length) H1
  | _ => .bad
theorem simC_make {Kc fI F} (O : C.Ok) (hm : makesIn C.K Kc = true) (hi : findIn C.K (.ref Kc) "__init__" = some (some (.ref fI))) (hf : typeIn C.K (.ref fI) = some (.type "function")) (hF : SimC C d (.ref fI) F) : SimC C (d + 1) (.ref Kc) (fMake Kc F) := by
  intro A l vs xs ρ H s Q E hb ha st r p
  have X := O.kin.keeps st.old
  have Y : Makes (model C.prog C.w) s.heap Kc := makes_of X hm
  have e1 : Ev C l No ρ s (ρ ++ [(s.heap.objs.size + 1, s.heap.objs.size)]) (H ++ [.inst Kc []]) { s with heap := (s.heap.push emptyDict).push (instObj Kc s.heap.objs.size) } := by
    refine Ev.grow st ⟨by rw [Heap.size_push, Heap.size_push]; omega, fun b o g _ => ⟨o.slots, Heap.get?_push_of_some _ (Heap.get?_push_of_some _ g), fun _ => rfl⟩⟩ ⟨rfl, rfl, rfl⟩ ⟨Nat.le_succ _, Nat.le_refl _⟩ ?_
    have g1 : ((s.heap.push emptyDict).push (instObj Kc s.heap.objs.size)).get? (s.heap.objs.size + 1) = some (instObj Kc s.heap.objs.size) := by
      have := Heap.get?_push_size (s.heap.push emptyDict) (o := instObj Kc s.heap.objs.size) rfl
      rwa [Heap.size_push] at this
    have g2 : ((s.heap.push emptyDict).push (instObj Kc s.heap.objs.size)).get? s.heap.objs.size = some emptyDict := Heap.get?_push_of_some _ (Heap.get?_push_size _ rfl)
    exact ⟨⟨_, g1⟩, emptyDict, _, _, g2, rfl, fun e he => by simp at he, by simp, fun x => ⟨fun v hv => (by cases hv), fun _ => rfl⟩⟩
  have rv : RepV (ρ ++ [(s.heap.objs.size + 1, s.heap.objs.size)]) ((s.heap.push emptyDict).push (instObj Kc s.heap.objs.size)) (.ref H.length) (.ref (s.heap.objs.size + 1)) := by
    refine .ref (d := s.heap.objs.size) ?_
    rw [← st.rep.len]; simp
  have hw : (Code.builtin "type.__call__" ⟨.ref Kc :: xs, []⟩).weight = 1 := by kernel_rfl
  have hu : (Code.builtin "type.__call__" ⟨.ref Kc :: xs, []⟩).cUnits = 1 := by kernel_rfl
  have hb' : Bud d (A.under (.builtin "type.__call__" ⟨.ref Kc :: xs, []⟩)) := by
    obtain ⟨b1, b2, b3⟩ := hb
    refine ⟨?_, ?_, b3⟩
    · show A.depth + _ + 2 * d < 900; omega
    · show A.units + _ + 20 * d < 9800; omega
  have ha' : (A.under (.builtin "type.__call__" ⟨.ref Kc :: xs, []⟩)).frames = some l := ha
  obtain ⟨h, g, dr, t, os⟩ := s
  refine make_core Y (looks_findIn X hi) (fun self => bind_fn X self hf) (.inl (by simp)) ?_
  have rs : RepVs (ρ ++ [(h.objs.size + 1, h.objs.size)]) ((h.push emptyDict).push (instObj Kc h.objs.size)) (.ref H.length :: vs) (.ref (h.objs.size + 1) :: xs) := .cons rv (r.ev0 st e1)
  refine codeAny_mono (hF _ l _ _ _ _ _ (fun v s' => v = .none ∧ Q (.ref (h.objs.size + 1)) s') E hb' ha' e1.st rs ?_) fun r s' z => ?_
  · unfold fMake at p
    cases o : F (.ref H.length :: vs) (H ++ [.inst Kc []]) with
    | bad => rw [o] at p; exact p.elim
    | exc H1 =>
      rw [o] at p
      exact fun ρ' e s' e2 fl => p ρ' e s' (e1.trans e2) (fl.mono e1.keep.1)
    | ok v H1 =>
      rw [o] at p
      intro ρ' y s' e2 r2
      cases v with
      | none =>
        cases r2
        exact ⟨rfl, p ρ' _ s' (e1.trans e2) (rv.ev0 e1.st e2)⟩
      | _ => exact p.elim
  · rcases r with e | (v | _ | _ | _)
    · exact z
    · exact z.elim
    · exact z.elim
    · exact z.elim
    · exact z
end
end MP
namespace MP

theorem rep_merged {K : Type} [DecidableEq K] {ρ : Rho} {h : Heap} {more : List (K × V)} : ∀ {mv : List Value}, RepVs ρ h (more.map (·.2)) mv → ∀ {kvs : List (K × V)} {ys : List Value}, RepVs ρ h (kvs.map (·.2)) ys →
    ∃ ys', merged ((kvs.map (·.1)).zip ys) ((more.map (·.1)).zip mv) = ((more.foldl (fun a kv => dSet a kv.1 kv.2) kvs).map (·.1)).zip ys' ∧ RepVs ρ h ((more.foldl (fun a kv => dSet a kv.1 kv.2) kvs).map (·.2)) ys' := by
  induction more with
  | nil => intro mv q kvs ys r; cases q.invN; exact ⟨ys, rfl, r⟩
  | cons p more ih =>
    intro mv q kvs ys r
    obtain ⟨k, v⟩ := p
    obtain ⟨y, mv, rfl, r1, rs⟩ := q.inv
    have r1 : RepV ρ h v y := r1
    obtain ⟨ys1, e1, q1⟩ := rep_stored (k := k) r1 r
    obtain ⟨ys2, e2, q2⟩ := ih rs q1
    refine ⟨ys2, ?_, q2⟩
    rw [List.map_cons, List.zip_cons_cons]
    show merged (stored ((kvs.map (·.1)).zip ys) k y) ((more.map (·.1)).zip mv) = _
    rw [e1]
    exact e2

section
variable {C : Cx} {d : Nat} {sc : Scope}

noncomputable def flatP (ps : List (Value × Value)) : List Value := ps.flatMap fun p => [p.1, p.2]
noncomputable def pairsOf (pos : Pos) (env : Env) : List Expr → List Expr → List (Sem Value × Sem Value)
  | k :: ks, v :: vs => (eval k env, do let x ← eval v env; standAt pos; pure x) :: pairsOf pos env ks vs
  | _, _ => []
noncomputable def SimPr (C : Cx) (d : Nat) (sc : Scope) (pos : Pos) (ks vs : List Expr) (f : Fm → Hp → Out (List V)) : Prop :=
  ∀ (A : Around) (env : Env) (l : List Env) (m : Fm) (ρ : Rho) (H : Hp) (s : Shared) (Q : List Value → Shared → Prop) (E : Value → Shared → Prop),
    Bud d A → A.frames = some l → env.scope = sc → FrOk C env l m ρ s.heap → St C l ρ H s → PostL C l env.frame ρ s Q E (f m H) → wpAny (model C.prog C.w) A (evalPairs (pairsOf pos env ks vs)) (fun ps s' => Q (flatP ps) s') E s
theorem simPr_nil {pos} : SimPr C d sc pos [] [] fNil := by
  intro A env l m ρ H s Q E _ _ _ _ st p
  exact evalPairs_nil (p ρ _ s (.refl st) .nil)
theorem simPr_cons {pos k ks v vs f g h} (h1 : SimE C d sc k f) (h2 : SimE C d sc v g) (h3 : SimPr C d sc pos ks vs h) : SimPr C d sc pos (k :: ks) (v :: vs) (fCons f (fCons g h)) := by
  intro A env l m ρ H s Q E hb ha he fr st p
  refine evalPairs_cons (h1 A env l m ρ H s _ E hb ha he fr st (PostL.bind p fun a H1 ρ1 x s1 _ e1 r1 p1 => ?_))
  have fr1 := fr.ev st e1
  unfold fCons at p1
  have p1' : PostL C l env.frame ρ1 s1 Q E ((g m H1).bind fun b H2 => (h m H2).bind fun vs H3 => .ok (a :: b :: vs) H3) := by
    cases o : g m H1 with
    | ok b H2 =>
      rw [o] at p1
      cases o2 : h m H2 with
      | ok vs H3 => simp only [Out.bind, o2] at p1 ⊢; exact p1
      | exc H3 => simp only [Out.bind, o2] at p1 ⊢; exact p1
      | bad => simp only [Out.bind, o2] at p1 ⊢; exact p1
    | exc H2 => rw [o] at p1; exact p1
    | bad => rw [o] at p1; exact p1
  refine wpAny_bind (h2 A env l m ρ1 H1 s1 _ E hb ha he fr1 e1.st (PostL.bind p1' fun b H2 ρ2 y s2 _ e2 r2 p2 => wpAny_bind (wpAny_standAt (wpAny_pure ?_))))
  refine h3 A env l m ρ2 H2 s2 (fun zs s3 => Q (x :: y :: zs) s3) E hb ha he (fr1.ev e1.st e2) e2.st (PostL.bindL p2 fun vs H3 ρ3 ys s3 _ e3 r3 p3 => ?_)
  exact p3 ρ3 _ s3 (.refl e3.st) (.cons ((r1.ev0 e1.st e2).ev0 e2.st e3) (.cons (r2.ev0 e2.st e3) r3))

theorem grow_rep {l ρ H} {s : Shared} {a d : Addr} (st : St C l ρ H s) (h : Heap) : RepV (ρ ++ [(a, d)]) h (.ref H.length) (.ref a) := by
  refine .ref (d := d) ?_
  rw [← st.rep.len]; simp

/-- an empty dict -/
noncomputable def fDict0S : FE := fun _ H => .ok (.ref H.length) (H ++ [.dictS []])
theorem simE_dict0S {pos} : SimE C d sc (.Dict [] [] pos) fDict0S := by
  intro A env l m ρ H s Q E hb ha he fr st p
  refine wpAny_Dict_empty ?_
  have e0 : Ev C l No ρ s (ρ ++ [(s.heap.objs.size, s.heap.objs.size)]) (H ++ [.dictS []]) { s with heap := s.heap.push { cls := .type "dict", data := .dict #[] } } :=
    Ev.grow st (Keep.push ..) ⟨rfl, rfl, rfl⟩ ⟨Nat.le_refl _, Nat.le_refl _⟩ ⟨rfl, [], Heap.DictOf.new _, .nil⟩
  exact p _ _ _ e0 (grow_rep st _)
noncomputable def unflatS : List V → Option (List (Str × V))
  | [] => some []
  | .str k :: v :: r => (unflatS r).map ((k, v) :: ·)
  | _ => none
theorem carriesS {ρ : Rho} {h : Heap} {ps : List (Value × Value)} : ∀ {vs : List V} {kvs : List (Str × V)}, RepVs ρ h vs (flatP ps) → unflatS vs = some kvs → ∃ mv, Carries (PySem.strKind C.prog C.w) ps ((kvs.map (·.1)).zip mv) ∧ RepVs ρ h (kvs.map (·.2)) mv := by
  induction ps with
  | nil =>
    intro vs kvs r e
    cases vs with
    | nil => cases e; exact ⟨[], trivial, .nil⟩
    | cons _ _ => cases r
  | cons p ps ih =>
    intro vs kvs r e
    obtain ⟨x, y⟩ := p
    cases vs with
    | nil => cases r
    | cons a vs => ?_
    obtain ⟨_, _, e1, r1, r⟩ := r.inv
    cases e1
    cases vs with
    | nil => cases r
    | cons b vs => ?_
    obtain ⟨_, _, e1, r2, rs⟩ := r.inv
    cases e1
    cases a with
    | str k =>
      unfold unflatS at e
      cases q : unflatS vs with
      | none => rw [q] at e; cases e
      | some r =>
        rw [q] at e; cases e
        obtain ⟨mv, c, rr⟩ := ih rs q
        cases r1
        exact ⟨y :: mv, ⟨by simp [PySem.strKind, Value.isStrOf], rfl, c⟩, .cons r2 rr⟩
    | _ => cases e
noncomputable def fDictS (g : Fm → Hp → Out (List V)) : FE := fun m H => (g m (H ++ [.dictS []])).bind fun vs H1 => match unflatS vs, H1[H.length]? with
  | some kvs, some (.dictS []) => .ok (.ref H.length) (H1.set H.length (.dictS (kvs.foldl (fun a kv => dSet a kv.1 kv.2) [])))
  | _, _ => .bad
theorem simE_dictS {ks vs pos g} (h : SimPr C d sc pos ks vs g) (h0 : ks ≠ [] ∧ ks.length = vs.length ∧ ks.length ≤ 15) (hshape : ∀ env, (evalEachOpt (ks.map some) env).zip ((evalEach vs env).map fun v => do let x ← v; standAt pos; pure x) = (pairsOf pos env ks vs).map fun p => (some p.1, p.2)) :
    SimE C d sc (.Dict (ks.map some) vs pos) (fDictS g) := by
  intro A env l m ρ H s Q E hb ha he fr st p
  have hlen : ∀ ks vs : List Expr, ks.length = vs.length → (pairsOf pos env ks vs).length = ks.length := by
    intro ks
    induction ks with
    | nil => intro vs _; cases vs <;> rfl
    | cons k ks ih => intro vs e; cases vs with
      | nil => cases e
      | cons v vs => simp only [pairsOf, List.length_cons]; rw [ih vs (by simpa using e)]
  have hl := hlen ks vs h0.2.1
  refine wpAny_Dict_pairs (knd := PySem.strKind C.prog C.w) (hshape env) (fun z => h0.1 (by rw [z] at hl; exact List.eq_nil_of_length_eq_zero hl.symm)) (by rw [hl]; exact h0.2.2) ?_
  let T : List (Value × Value) → Shared → Prop := fun ps s1 => ∃ kvs, Carries (PySem.strKind C.prog C.w) ps kvs ∧ s1.heap.DictOf (PySem.strKind C.prog C.w) s.heap.objs.size [] ∧
    ∀ h', h'.DictOf (PySem.strKind C.prog C.w) s.heap.objs.size (merged [] kvs) → Heap.SameBut s.heap.objs.size s1.heap h' → Q (.ref s.heap.objs.size) { s1 with heap := h', toks := s1.toks + ps.length }
  have e0 : Ev C l No ρ s (ρ ++ [(s.heap.objs.size, s.heap.objs.size)]) (H ++ [.dictS []]) { s with heap := s.heap.push { cls := .type "dict", data := .dict #[] } } :=
    Ev.grow st (Keep.push ..) ⟨rfl, rfl, rfl⟩ ⟨Nat.le_refl _, Nat.le_refl _⟩ ⟨rfl, [], Heap.DictOf.new _, .nil⟩
  have lk : (ρ ++ [(s.heap.objs.size, s.heap.objs.size)])[H.length]? = some (s.heap.objs.size, s.heap.objs.size) := by rw [← st.rep.len]; simp
  refine h A env l m _ _ _ (fun ys s1 => ∀ ps, flatP ps = ys → T ps s1) E hb ha he (fr.ev st e0) e0.st (PostE.bindL (p.shift e0) fun xs H1 ρ1 ys s1 _ e1 r1 p1 => ?_) |> fun z => wpAny_mono z (fun ps s1 q => q ps rfl) fun _ _ z => z
  intro ps hps
  subst hps
  cases hu : unflatS xs with
  | none => rw [hu] at p1; exact p1.elim
  | some kvs =>
    rw [hu] at p1
    cases ho : H1[H.length]? with
    | none => rw [ho] at p1; exact p1.elim
    | some ob =>
      rw [ho] at p1
      cases ob with
      | dictS k0 =>
        cases k0 with
        | cons _ _ => exact p1.elim
        | nil =>
          dsimp only at p1
          have lk1 := e1.look _ _ lk
          obtain ⟨_, ys0, hd, _⟩ := e1.st.rep.obj _ _ _ ho lk1
          obtain ⟨mv, hc, rm⟩ := carriesS (C := C) r1 hu
          refine ⟨_, hc, by simpa using hd, fun h' hd' sb => ?_⟩
          obtain ⟨ys', em, rr⟩ := rep_merged rm (kvs := []) (ys := []) .nil
          have hm : muts ρ1 s.heap.objs.size := ⟨_, List.mem_of_getElem? lk1, .inl rfl⟩
          have em' : merged [] ((kvs.map (·.1)).zip mv) = ((kvs.foldl (fun a kv => dSet a kv.1 kv.2) []).map (·.1)).zip ys' := em
          rw [em'] at hd'
          have e2 : Ev C l No ρ1 s1 ρ1 (H1.set H.length (.dictS (kvs.foldl (fun a kv => dSet a kv.1 kv.2) []))) { s1 with heap := h', toks := s1.toks + ps.length } :=
            Ev.put e1.st lk1 (.inl rfl) (.sameBut sb) ⟨rfl, rfl, rfl⟩ ⟨rfl, ys', hd', rr.put sb hm⟩
          exact p1 ρ1 _ _ e2 (.ref (d := s.heap.objs.size) (e2.look _ _ lk1))
      | _ => exact p1.elim

end
end MP
namespace MP
section
variable {C : Cx} {d : Nat} {sc : Scope}

theorem St.notSys {l ρ H} {s : Shared} (O : C.Ok) (st : St C l ρ H s) {i : Nat} {p : Addr × Addr} (hp : ρ[i]? = some p) : (p.1 == sysModules) = false := by
  have := (st.hi p (List.mem_of_getElem? hp)).1
  exact beq_eq_false_iff_ne.mpr fun e => absurd O.sys (Nat.not_lt.mpr (this.2 e))

noncomputable def hasKey (v : V) (o : AObj) : Option Bool := match o, v with
  | .dictS kvs, .str k => some (dGet kvs k).isSome
  | .dictI kvs, .int k => some (dGet kvs k).isSome
  | _, _ => none
noncomputable def oInD : V → V → Hp → Out V := fun v w H => match w with
  | .ref i => (match (H[i]?).bind (hasKey v) with
    | some b => .ok (.bool b) H
    | none => oIn v w H)
  | _ => oIn v w H

/-- the dict keyed by tuples -/
noncomputable def fDict0T : FE := fun _ H => .ok (.ref H.length) (H ++ [.dictT []])
theorem simE_dict0T {pos} : SimE C d sc (.Dict [] [] pos) fDict0T := by
  intro A env l m ρ H s Q E hb ha he fr st p
  refine wpAny_Dict_empty ?_
  have e0 : Ev C l No ρ s (ρ ++ [(s.heap.objs.size, s.heap.objs.size)]) (H ++ [.dictT []]) { s with heap := s.heap.push { cls := .type "dict", data := .dict #[] } } :=
    Ev.grow st (Keep.push ..) ⟨rfl, rfl, rfl⟩ ⟨Nat.le_refl _, Nat.le_refl _⟩ ⟨rfl, _, #[], 0, [], Heap.get?_push_size _ rfl, ⟨⟨rfl, rfl, rfl⟩, rfl, rfl, List.nodup_nil, rfl⟩, fun _ hx => by simp at hx, .nil⟩
  exact p _ _ _ e0 (grow_rep st _)
noncomputable def isT : AObj → Bool
  | .dictT _ => true
  | _ => false
theorem simM_getT : SimM C d "get" isT (.builtin "dict.get") := by
  intro A l ρ H s i o a pl Q E hb ha st ho hK ⟨dd, hp⟩ q
  cases o with
  | dictT kvs =>
    obtain ⟨e, xs, hd, _⟩ := dictT_at st ho hp
    exact getMethod_builtin hd.typeIs F.plainAttrs_dict F.slot_dict_get F.type_dict_get (fun b e => by cases e; obtain ⟨o, _, _, g, hx, _⟩ := hd; exact ⟨o, g, hx.2.1⟩) q
  | _ => cases hK
noncomputable def bGetT (vs : List V) (H : Hp) : Out V := match vs with
  | [.ref i, k, w] => (match H[i]?, toTK k with
    | some (.dictT kvs), some k => .ok ((dGet kvs k).getD w) H
    | _, _ => .bad)
  | _ => .bad
set_option tactic.hygienic true in
theorem simF_getT (O : C.Ok) : SimF C d (.builtin "dict.get") bGetT := by
  intro A l vs xs ρ H s Q E hb ha st r p
  unfold bGetT at p
  split at p
  · rename_i i k w
    split at p
    · rename_i kvs k' ho hk
      cases r with
      | cons r1 rs => cases rs with
        | cons r2 rs => cases rs with
          | cons r3 rs =>
            cases rs
            have ek := toTK_eq hk
            rw [ek] at r2
            obtain ⟨b, eb, ib⟩ := rep_tk (prog := C.prog) (w := C.w) r2
            subst eb
            cases r1 with
            | ref hp =>
            obtain ⟨e, xs, hd, e5, kk, rr⟩ := dictT_at st ho hp
            refine call_meetsIn F.slot_dict_get hd.typeIs F.entry_dict_get (F.args_dict_get_3 _ _ _) (meetsH_dict_get_default (tkKind C.prog C.w) _ _ (st.notSys O hp) _) ⟨?_, k', xs, ib, hd, ?_⟩
            · have := hb.roomC (n := 3) (by omega)
              show A.units + 1 + 1 < _
              omega
            · obtain ⟨h1, h2⟩ := rep_dGetT (k := k') e5 rr
              cases hg : dGet kvs k' with
              | none => rw [h2 hg]; rw [hg] at p; exact p ρ _ _ (.tok st) (r3.ev0 st (.tok (W := No) st))
              | some v => obtain ⟨y, hy, ry⟩ := h1 v hg; rw [hy]; rw [hg] at p; exact p ρ _ _ (.tok st) (ry.ev0 st (.tok (W := No) st))
    · exact p.elim
  · exact p.elim
end
end MP
namespace MP
section
variable {C : Cx} {d : Nat} {sc : Scope}

/-- formatted texts -/
noncomputable def fFv (f : FE) : FE := fun m H => (f m H).bind fun v H1 => match v with
  | .str x => if x.length ≤ 100000 then .ok (.str x) H1 else .bad
  | .int a => if a.natAbs < 1000000000000 then .ok (.str (Str.ofString (toString a))) H1 else .bad
  | _ => .bad
theorem simE_fval {e pos f} (h : SimE C d sc e f) : SimE C d sc (.FormattedValue e (-1) none pos) (fFv f) := by
  intro A env l m ρ H s Q E hb ha he fr st p
  refine wpAny_FormattedValue_plain (h A env l m ρ H s _ E hb ha he fr st (PostE.bind p fun v H1 ρ1 y s1 _ e1 r1 p1 => ?_))
  cases r1 with
  | str x t =>
    dsimp only at p1
    by_cases hx : x.length ≤ 100000
    · rw [if_pos hx] at p1
      exact wpAny_formatField_str (p1 ρ1 _ s1 (.refl e1.st) (.str _ _)) (p1 ρ1 _ _ (.tok e1.st) (.str _ _)) (by rw [sizeLine_eq]; omega)
    · rw [if_neg hx] at p1; exact p1.elim
  | int a t =>
    dsimp only at p1
    by_cases hx : a.natAbs < 1000000000000
    · rw [if_pos hx] at p1
      refine wpAny_formatField_int ?_ (p1 ρ1 _ { s1 with toks := s1.toks + 1 + 1 } (.tok e1.st) (.str _ _))
      by_cases h0 : a.natAbs = 0
      · rw [h0]; decide
      · exact Nat.lt_trans ((Nat.log2_lt h0).mpr (show a.natAbs < 2 ^ 40 by omega)) (by omega)
    · rw [if_neg hx] at p1; exact p1.elim
  | _ => exact p1.elim
noncomputable def SimJ (C : Cx) (d : Nat) (sc : Scope) (es : List Expr) (f : Str → FE) : Prop :=
  ∀ (A : Around) (env : Env) (l : List Env) (m : Fm) (ρ : Rho) (H : Hp) (s : Shared) (acc : Str) (Q E : Value → Shared → Prop),
    Bud d A → A.frames = some l → env.scope = sc → FrOk C env l m ρ s.heap → St C l ρ H s → PostE C l env.frame ρ s Q E (f acc m H) →
    Joins (model C.prog C.w) A E (evalEach es env) acc (fun out s₁ => out.length ≤ sizeLine ∧ Q (.str out s₁.toks) { s₁ with toks := s₁.toks + 1 }) s
noncomputable def fJ0 : Str → FE := fun acc _ H => if acc.length ≤ 1000000 then .ok (.str acc) H else .bad
noncomputable def fJ (g : FE) (r : Str → FE) : Str → FE := fun acc m H => (g m H).bind fun v H1 => match v with
  | .str y => if (acc ++ y).length ≤ 1000000 then r (acc ++ y) m H1 else .bad
  | _ => .bad
theorem simJ_nil : SimJ C d sc [] fJ0 := by
  intro A env l m ρ H s acc Q E hb ha he fr st p
  unfold fJ0 at p
  by_cases hx : acc.length ≤ 1000000
  · rw [if_pos hx] at p
    exact ⟨by rw [sizeLine_eq]; omega, p ρ _ _ (.tok st) (.str _ _)⟩
  · rw [if_neg hx] at p; exact p.elim
theorem simJ_cons {e es g r} (h1 : SimE C d sc e g) (h2 : SimJ C d sc es r) : SimJ C d sc (e :: es) (fJ g r) := by
  intro A env l m ρ H s acc Q E hb ha he fr st p
  refine h1 A env l m ρ H s _ E hb ha he fr st (PostE.bind p fun v H1 ρ1 y s1 _ e1 r1 p1 => ?_)
  cases r1 with
  | str x t =>
    dsimp only at p1
    by_cases hx : (acc ++ x).length ≤ 1000000
    · rw [if_pos hx] at p1
      exact ⟨x, t, rfl, by rw [sizeLine_eq]; omega, h2 A env l m ρ1 H1 s1 _ Q E hb ha he (fr.ev st e1) e1.st p1⟩
    · rw [if_neg hx] at p1; exact p1.elim
  | _ => exact p1.elim
theorem simE_joined {a b es pos f} (h : SimJ C d sc (a :: b :: es) f) : SimE C d sc (.JoinedStr (a :: b :: es) pos) (f Str.empty) := by
  intro A env l m ρ H s Q E hb ha he fr st p
  exact wpAny_JoinedStr (h A env l m ρ H s Str.empty Q E hb ha he fr st p)

/-- targets that are tuples -/
noncomputable def SimTs (C : Cx) (d : Nat) (sc : Scope) (ts : List Expr) (f : List V → FS) : Prop :=
  ∀ (A : Around) (env : Env) (l : List Env) (m : Fm) (ρ : Rho) (H : Hp) (s : Shared) (vs : List V) (ys : List Value) (Q : Unit → Shared → Prop) (E : Value → Shared → Prop),
    Bud d A → A.frames = some l → env.scope = sc → FrOk C env l m ρ s.heap → St C l ρ H s → RepVs ρ s.heap vs ys → vs.length = ts.length → PostS C env l ρ s (fun F s' => F = .next → Q () s') E (f vs m H) →
    wpAny (model C.prog C.w) A (assignInOrder ((assignEach ts env).map (·.2)) ys) Q E s

noncomputable def fT0 : List V → FS := fun vs m H => match vs with
  | [] => .ok .next m H
  | _ => .bad
noncomputable def fT (fa : V → FS) (r : List V → FS) : List V → FS := fun vs m H => match vs with
  | v :: vs => (fa v m H).bind fun fl m1 H1 => (match fl with
    | .next => r vs m1 H1
    | _ => .bad)
  | [] => .bad
theorem simTs_nil : SimTs C d sc [] fT0 := by
  intro A env l m ρ H s vs ys Q E hb ha he fr st r hl p
  cases r with
  | nil => exact wpAny_pure (p ρ .next s (.refl st) fr .next rfl)
  | cons _ _ => cases hl
theorem assignEach_cons {t : Expr} {r : List Expr} {env : Env} (h : noStar t = true) : (assignEach (t :: r) env).map (·.2) = assign t env :: (assignEach r env).map (·.2) := by
  cases t <;> first | rfl | cases h
set_option tactic.hygienic true in
theorem simTs_cons {t ts fa r} (ht : noStar t = true) (h1 : SimA C d sc t fa) (h2 : SimTs C d sc ts r) : SimTs C d sc (t :: ts) (fT fa r) := by
  intro A env l m ρ H s vs ys Q E hb ha he fr st rs hl p
  cases rs with
  | nil => cases hl
  | cons r1 rs =>
    rename_i v y vs ys
    rw [assignEach_cons ht]
    refine wpAny_bind (wpAny_holding (h1 A env l m ρ H s v y _ E hb ha he fr st r1 (PostS.bind p fun fl m1 H1 ρ1 F s1 _ e1 fr1 rf p1 => ?_)))
    rintro rfl
    cases rf
    exact h2 A env l m1 ρ1 H1 s1 vs ys Q E hb ha he fr1 e1.st (rs.evS st fr e1) (by simpa using hl) p1
noncomputable def fUnpack (n : Nat) (f : List V → FS) : V → FS := fun v m H => match v with
  | .tup vs => if vs.length = n then f vs m H else .bad
  | _ => .bad
set_option tactic.hygienic true in
theorem unpack_items {A : Around} {l : List Env} {ρ : Rho} {H : Hp} {s : Shared} {vs : List V} {y : Value} {Q : List Value → Shared → Prop} {E : Value → Shared → Prop} (hb : Bud d A) (st : St C l ρ H s) (r : RepV ρ s.heap (.tup vs) y)
    (q : ∀ ys s', Ev C l No ρ s ρ H s' → RepVs ρ s'.heap vs ys → Q ys s') : wpAny (model C.prog C.w) A (unpackItems y vs.length none) Q E s := by
  cases r with
  | tup hm g c dd rs =>
    rename_i a o items n
    have hlen : vs.length = items.size := by rw [rs.length, Array.length_toList]
    rw [hlen]
    refine wpAny_sz (wpAny_unpackItems_tuple hb.2.2 ⟨o, g, c, n, dd⟩ fun h' hx sz => ?_)
    have k : Keep No (inFr l) s.heap h' := ⟨sz, fun b o g _ => ⟨o.slots, hx b o (Nat.ne_of_lt (Heap.lt_size g)) g, fun _ => rfl⟩⟩
    have e : Ev C l No ρ s ρ H { s with heap := h' } := Ev.keepNo st k ⟨rfl, rfl, rfl⟩
    exact q _ _ e (rs.ev0 st e)
theorem simA_tuple {ts k pos f} (h : SimTs C d sc ts f) (hs : ts.all noStar = true) : SimA C d sc (.Tuple ts k pos) (fUnpack ts.length f) := by
  intro A env l m ρ H s v y Q E hb ha he fr st r p
  unfold fUnpack at p
  cases v with
  | tup vs =>
    dsimp only at p
    by_cases hl : vs.length = ts.length
    · rw [if_pos hl] at p
      have hn : ∀ ts : List Expr, ts.all noStar = true → (assignEach ts env).length = ts.length ∧ (assignEach ts env).findIdx? (·.1) = none := by
        intro ts
        induction ts with
        | nil => intro _; exact ⟨rfl, rfl⟩
        | cons t r ih =>
          intro h
          rw [List.all_cons, Bool.and_eq_true] at h
          obtain ⟨i1, i2⟩ := ih h.2
          have : assignEach (t :: r) env = (false, assign t env) :: assignEach r env := by cases t <;> first | rfl | (have := h.1; cases this)
          rw [this]
          exact ⟨by simp [i1], by simp [List.findIdx?_cons, i2]⟩
      obtain ⟨n1, n2⟩ := hn ts hs
      rw [arm_assign_Tuple]
      refine wpAny_bind (wpAny_standAt ?_)
      unfold unpack
      rw [n1, n2, ← hl]
      refine wpAny_bind (wpAny_holding (unpack_items hb st r fun ys s1 e1 r1 => ?_))
      exact h A env l m ρ H s1 vs ys Q E hb ha he (fr.ev st e1) e1.st r1 hl (p.shift e1.no)
    · rw [if_neg hl] at p; exact p.elim
  | _ => exact p.elim

/-- names of one line that are bound from the last one on -/
noncomputable def bindAll : List Str → List V → Fm → Fm
  | n :: ns, v :: vs, m => bindAll ns vs ((n, v) :: m)
  | _, _, m => m
noncomputable def fSwap (ns : List Str) : V → FS := fun v m H => match v with
  | .tup vs => if vs.length = ns.length then .ok .next (bindAll ns.reverse vs.reverse m) H else .bad
  | _ => .bad
theorem bind_all {A : Around} {env : Env} {l : List Env} {E : Value → Shared → Prop} {ρ : Rho} {H : Hp} {Q : Unit → Shared → Prop} (he : env.scope = sc) (ns : List Str) : ∀ (vs : List V) (ys : List Value) (m : Fm) (s : Shared), ns.all (isStore sc) = true → vs.length = ns.length → FrOk C env l m ρ s.heap → St C l ρ H s → RepVs ρ s.heap vs ys →
    (∀ s', Ev C l (ownA env) ρ s ρ H s' → FrOk C env l (bindAll ns vs m) ρ s'.heap → Q () s') → wpAny (model C.prog C.w) A (assignInOrder (ns.map fun n => bindName env n) ys) Q E s := by
  induction ns with
  | nil =>
    intro vs ys m s hs hl fr st r q
    cases r with
    | nil => exact wpAny_pure (q s (.refl st) fr)
    | cons _ _ => cases hl
  | cons n ns ih =>
    intro vs ys m s hs hl fr st r q
    cases r with
    | nil => cases hl
    | cons r rs =>
      rw [List.all_cons, Bool.and_eq_true] at hs
      refine wpAny_bind (wpAny_holding (wpAny_bindName (store_var hs.1 he fr st r fun s1 e1 fr1 => ?_)))
      exact ih _ _ _ s1 hs.2 (by simpa using hl) fr1 e1.st (rs.evS st fr e1) fun s' e2 fr2 => q s' (e1.trans e2) fr2
theorem simS_swap {ts k tp e pos fe ns} (h : SimE C d sc e fe) (hs : ∀ env, swapsWithSole [.Tuple ts k tp] e pos.line env = pure false) (hw : ∀ env, env.scope = sc → swappedStores [.Tuple ts k tp] e env = pure (some ns)) (hn : ns.reverse.all (isStore sc) = true) :
    SimS C d sc (.Assign [.Tuple ts k tp] e pos) (fAsgE fe (fSwap ns)) := by
  intro A env l m ρ H s Q E hb ha he fr st p
  rw [exec_Assign_arm]
  refine wpAny_bind (wpAny_standAt ?_)
  rw [hs]
  refine wpAny_bind (wpAny_pure ?_)
  rw [if_neg (by decide)]
  refine wpAny_bind (h A env l m ρ H s _ E hb ha he fr st (PostS.bindE p st fr fun v H1 ρ1 y s1 _ e1 fr1 r1 p1 => ?_))
  rw [hw env he]
  refine wpAny_bind (wpAny_pure ?_)
  unfold fSwap at p1
  cases v with
  | tup vs =>
    dsimp only at p1
    by_cases hl : vs.length = ns.length
    · rw [if_pos hl] at p1
      unfold assignStores
      refine wpAny_bind (wpAny_rule ?_)
      rw [← hl]
      refine wpAny_bind (unpack_items hb e1.st r1 fun ys s2 e2 r2 => ?_)
      refine wpAny_bind (bind_all he ns.reverse vs.reverse ys.reverse m s2 hn (by simpa using hl) (fr1.ev e1.st e2) e2.st r2.reverse fun s3 e3 fr3 => wpAny_pure ?_)
      exact p1 ρ1 .next s3 (e2.no.trans e3) fr3 .next
    · rw [if_neg hl] at p1; exact p1.elim
  | _ => exact p1.elim
end
end MP
namespace MP
section
variable {C : Cx} {d : Nat} {sc : Scope}

theorem Ev.ownW {l ρ H} {s s' : Shared} {W : Addr → Prop} {b : Addr} (st : St C l ρ H s) (hb : W b) (nm : ¬ muts ρ b) (nt : NT s.heap b) (hi : C.h0.objs.size ≤ b) (k : Keep (fun c => c = b) No s.heap s'.heap)
    (ex : ∃ o', s'.heap.get? b = some o' ∧ ∀ vs, o'.data ≠ .fields vs) (hr : s'.gens = s.gens ∧ s'.drawn = s.drawn ∧ s'.os = s.os) : Ev C l W ρ s ρ H s' := by
  refine ⟨⟨fun a o e => k.exact (st.old a o e) (fun z => ?_) id, st.hi, Nat.le_trans st.lo k.1, ⟨hr.1.trans st.rest.1, hr.2.1.trans st.rest.2.1, hr.2.2.trans st.rest.2.2⟩, ⟨st.rep.len, fun i o p ho hp => ?_, st.rep.apart⟩, ?_, st.frm⟩,
    ⟨[], by simp, fun _ h => nomatch h⟩, ⟨k.1, fun a o e n => ?_⟩⟩
  · have := Heap.lt_size e
    rw [z] at this
    exact absurd this (Nat.not_lt.mpr hi)
  · exact (st.rep.obj i o p ho hp).keep k (fun c e _ => by rw [e]; exact nt) (fun _ _ z => z) (fun _ _ z => z) ⟨fun z => nm ⟨p, List.mem_of_getElem? hp, .inl z.symm⟩, id⟩ ⟨fun z => nm ⟨p, List.mem_of_getElem? hp, .inr z.symm⟩, id⟩
  · have go : ∀ {l' : List Env}, s.heap.FunFrames C.h0 l' → s'.heap.FunFrames C.h0 l' := by
      intro l'
      induction l' with
      | nil => intro _; trivial
      | cons e0 r ih =>
        rintro ⟨hk, ⟨L, o, hf, hn, ho, hd⟩, hr⟩
        by_cases hL : L = b
        · obtain ⟨o', g', hd'⟩ := ex
          exact ⟨hk, ⟨L, o', hf, hn, hL ▸ g', hd'⟩, ih hr⟩
        · exact ⟨hk, ⟨L, o, hf, hn, k.exact ho hL id, hd⟩, ih hr⟩
    exact go st.frs
  · exact ⟨o.slots, k.exact e (fun z => n (.inr (z ▸ hb))) id, fun _ => rfl⟩

noncomputable def locW (env : Env) : Addr → Prop := fun b => b = env.locals
theorem store_loc {A : Around} {env : Env} {l : List Env} {m : Fm} {ρ : Rho} {H : Hp} {s : Shared} {v : V} {y : Value} {x : Str} {Q : Unit → Shared → Prop} {E : Value → Shared → Prop} (hk : env.kindOf x = some .local) (fr : FrOk C env l m ρ s.heap) (st : St C l ρ H s) (r : RepV ρ s.heap v y)
    (q : ∀ s', Ev C l (locW env) ρ s ρ H s' → FrOk C env l ((x, v) :: m) ρ s'.heap → Q () s') : wpAny (model C.prog C.w) A (storeName env x y) Q E s := by
  have lk : ∀ z w, ((x, v) :: m).lookup z = some w → (z = x ∧ w = v) ∨ (z ≠ x ∧ m.lookup z = some w) := fun z w hz => by
    rw [List.lookup_cons] at hz
    by_cases hzx : z = x
    · subst hzx; simp at hz; exact .inl ⟨rfl, hz.symm⟩
    · have : (z == x) = false := beq_eq_false_iff_ne.mpr hzx
      rw [this] at hz
      exact .inr ⟨hzx, hz⟩
  obtain ⟨mm, hn, hm⟩ := fr.loc
  refine wpAny_storeName_local hk hn (fun h' hn' hs => ?_) (by rw [fr.kind]; rfl)
  have e1 : Ev C l (locW env) ρ s ρ H { s with heap := h', toks := s.toks + 1 } := .ownW st rfl fr.hiL.2 (fr.nt (.inl rfl)) fr.hiL.1 (.sameBut hs) (by obtain ⟨o', es, ep, g, d', _⟩ := hn'; exact ⟨o', g, fun vs z => by rw [d'] at z; cases z⟩) ⟨rfl, rfl, rfl⟩
  have rv : ∀ {v y}, RepV ρ s.heap v y → RepV ρ h' v y := fun r => r.ev st e1 fun b hb => fr.nt (.inl hb)
  have ncell : ∀ z c, env.cells.lookup z = some c → c ≠ env.locals := fun z c hz => by
    rintro rfl
    obtain ⟨ov, o', g', d'⟩ := fr.celX z _ hz
    obtain ⟨o2, es, ep, g2, d2, _⟩ := hn
    rw [g2] at g'; cases g'; rw [d2] at d'; cases d'
  refine q _ e1 ⟨fr.kind, fr.glob, fr.bui, fr.top, ⟨_, hn', fun z w hz hkz => ?_⟩, fun z w hz hkz => ?_, fun z c hz => ?_, fr.celI, fr.hiL, fr.hiC, fr.celE⟩
  · rcases lk z w hz with ⟨rfl, rfl⟩ | ⟨hne, hz⟩
    · exact ⟨y, if_pos rfl, rv r⟩
    · obtain ⟨y', hy', r'⟩ := hm z w hz hkz
      exact ⟨y', (if_neg hne).trans hy', rv r'⟩
  · rcases lk z w hz with ⟨rfl, rfl⟩ | ⟨hne, hz⟩
    · rw [hk] at hkz; rcases hkz with h | h <;> cases h
    · obtain ⟨c, y', hc', ic, r'⟩ := fr.cel z w hz hkz
      exact ⟨c, y', hc', ic.sameBut hs (ncell z c hc'), rv r'⟩
  · obtain ⟨ov, ic⟩ := fr.celX z c hz
    exact ⟨ov, ic.sameBut hs (ncell z c hz)⟩

/-- targets of a comprehension: names of its own -/
noncomputable def SimV (C : Cx) (d : Nat) (sc : Scope) (t : Expr) (f : V → Fm → Option Fm) : Prop :=
  ∀ (A : Around) (env : Env) (l : List Env) (m m' : Fm) (ρ : Rho) (H : Hp) (s : Shared) (v : V) (y : Value) (Q : Unit → Shared → Prop) (E : Value → Shared → Prop),
    Bud d A → env.scope = sc → FrOk C env l m ρ s.heap → St C l ρ H s → RepV ρ s.heap v y → f v m = some m' → (∀ s', Ev C l (locW env) ρ s ρ H s' → FrOk C env l m' ρ s'.heap → Q () s') → wpAny (model C.prog C.w) A (assign t env y) Q E s
noncomputable def isLocal (sc : Scope) (x : Str) : Bool := match sc.names.lookup x with | some .local => true | _ => false
theorem kind_local {env : Env} {x : Str} (h : isLocal sc x = true) (he : env.scope = sc) : env.kindOf x = some .local := by
  subst he
  unfold isLocal at h
  unfold Env.kindOf
  cases q : env.scope.names.lookup x with
  | none => rw [q] at h; cases h
  | some k => rw [q] at h; cases k <;> first | rfl | cases h
noncomputable def vName (x : Str) : V → Fm → Option Fm := fun v m => some ((x, v) :: m)
theorem simV_name {x pos} (h : isLocal sc x = true) : SimV C d sc (.Name x pos) (vName x) := by
  intro A env l m m' ρ H s v y Q E hb he fr st r e q
  cases e
  exact wpAny_assign_Name (store_loc (kind_local h he) fr st r q)
noncomputable def vPair (x y : Str) : V → Fm → Option Fm := fun v m => match v with
  | .tup [a, b] => some ((y, b) :: (x, a) :: m)
  | _ => none
set_option tactic.hygienic true in
theorem simV_pair {x y p1 p2 k pos} (h1 : isLocal sc x = true) (h2 : isLocal sc y = true) : SimV C d sc (.Tuple [.Name x p1, .Name y p2] k pos) (vPair x y) := by
  intro A env l m m' ρ H s v yv Q E hb he fr st r e q
  unfold vPair at e
  split at e
  · rename_i a b
    cases e
    rw [arm_assign_Tuple]
    refine wpAny_bind (wpAny_standAt ?_)
    unfold unpack
    show wpAny _ _ (do assignInOrder [assign (.Name x p1) env, assign (.Name y p2) env] (← holding [yv] (unpackItems yv [a, b].length none))) _ _ _
    refine wpAny_bind (wpAny_holding (unpack_items hb st r fun ys s1 e1 r1 => ?_))
    cases r1 with
    | cons ra rs => cases rs with
      | cons rb rs =>
        cases rs
        have fr1 := fr.ev st e1
        refine wpAny_bind (wpAny_holding (wpAny_assign_Name (store_loc (kind_local h1 he) fr1 e1.st ra fun s2 e2 fr2 => ?_)))
        refine wpAny_bind (wpAny_holding (wpAny_assign_Name (store_loc (kind_local h2 he) fr2 e2.st (rb.ev e1.st e2 fun b hb => fr1.nt (.inl hb)) fun s3 e3 fr3 => wpAny_pure ?_)))
        exact q s3 ((e1.no.trans e2).trans e3) fr3
  · cases e

noncomputable def SimW (C : Cx) (d : Nat) (sc : Scope) (ifs : List Expr) (f : FE) : Prop :=
  ∀ (A : Around) (env : Env) (l : List Env) (m : Fm) (ρ : Rho) (H : Hp) (s : Shared) (Q : Bool → Shared → Prop) (E : Value → Shared → Prop),
    Bud d A → A.frames = some l → env.scope = sc → FrOk C env l m ρ s.heap → St C l ρ H s → PostE C l env.frame ρ s (fun v s' => ∃ b, v = .bool b ∧ Q b s') E (f m H) →
    wpAny (model C.prog C.w) A (forIn ifs true fun c r => if r = true then do let ok ← isTrue c env (eval c env); pure (ForInStep.yield ok) else pure (ForInStep.yield r)) Q E s
theorem simW_nil : SimW C d sc [] (fC (.bool true)) := by
  intro A env l m ρ H s Q E hb ha he fr st p
  obtain ⟨b, e, q⟩ := p ρ _ s (.refl st) (.bool true)
  cases e
  exact wpAny_tests_nil q
theorem simW_one {t f} (h : SimT C d sc t f) : SimW C d sc [t] f := by
  intro A env l m ρ H s Q E hb ha he fr st p
  exact wpAny_tests_one (h A env l m ρ H s Q E hb ha he fr st p)

open Classical in
noncomputable def cLoop (G : Hp → Prop) (fa : V → Fm → Option Fm) (ft fe : FE) (i : Nat) : List V → Fm → Hp → Out Unit
  | [], _, H => if G H then .ok () H else .bad
  | v :: r, m, H => if G H then (match fa v m with
    | none => .bad
    | some m1 => (ft m1 H).bind fun b H1 => match b with
      | .bool true => (fe m1 H1).bind fun x H2 => (match H2[i]? with
        | some (.list xs) => if xs.length < 1000000 then cLoop G fa ft fe i r m1 (H2.set i (.list (xs ++ [x]))) else .bad
        | _ => .bad)
      | .bool false => cLoop G fa ft fe i r m1 H1
      | _ => .bad) else .bad
noncomputable def fComp (fv : List Str) (fit : Fm → Hp → Out It) (fa : V → Fm → Option Fm) (ft fe : FE) : FE := fun m H => (fit m H).bind fun t H1 => match t with
  | .mk items G => (cLoop G fa ft fe H1.length items (m.filter fun p => fv.contains p.1) (H1 ++ [.list []])).bind fun _ H2 => .ok (.ref H1.length) H2
noncomputable def compSc (scope sc : Scope) : Scope := { scope with names := scope.names.map fun (n, k) => if (k == .free && sc.kind == .function && sc.names.lookup n == some .cell) then (n, .cell) else (n, k) }
theorem relabel_eq {env : Env} {scope : Scope} (he : env.scope = sc) : relabel scope env = compSc scope sc := by subst he; rfl
end
end MP
namespace MP
section
variable {C : Cx} {d : Nat} {sc : Scope}

noncomputable def PostU (C : Cx) (env : Env) (l : List Env) (i : Nat) (pa : Addr × Addr) (ρ0 : Rho) (s0 : Shared) (R : Result → Shared → Prop) : Out Unit → Prop
  | .ok _ H' => ∀ ρ' m' s', Ev C l No ρ0 s0 ρ' H' s' → FrOk C env l m' ρ' s'.heap → ρ'[i]? = some pa → R (.ok .next) s'
  | .exc H' => ∀ ρ' m' e L s', Ev C l No ρ0 s0 ρ' H' s' → FrOk C env l m' ρ' s'.heap → env.frame = some L → FlyAt C s0.heap.objs.size e (rawInt L) s'.heap → R (.error (.ref e)) s'
  | .bad => False

theorem comp_note {A : Around} {env : Env} {l : List Env} {m : Fm} {ρ0 ρ : Rho} {H : Hp} {s0 s : Shared} {e : Addr} {R : Result → Shared → Prop} (ha : A.frames = some l) (hl : C.h0.objs.size ≤ s0.heap.objs.size) (x : Ev C l No ρ0 s0 ρ H s) (fr : FrOk C env l m ρ s.heap)
    (fl : Fly C env.frame s0.heap.objs.size e s.heap)
    (q : ∀ ρ' m' e L s', Ev C l No ρ0 s0 ρ' H s' → FrOk C env l m' ρ' s'.heap → env.frame = some L → FlyAt C s0.heap.objs.size e (rawInt L) s'.heap → R (.error (.ref e)) s') :
    notedBy (model C.prog C.w) A env (fun e s' => R (.error e) s') (.ref e) s := by
  obtain ⟨e0, r, L, rfl, h0, hf⟩ := fr.frame ⟨_, _, _, x.st⟩
  rw [hf] at fl
  refine note_fly ha x.st.frs h0 hf x.keep.1 fl fun h' y k => ?_
  exact q ρ m e L _ (x.thru (s' := { s with heap := h' }) k hl ⟨rfl, rfl, rfl⟩) (fr.thru k) hf y

theorem Ev.dropL {l ρ0 ρ1 ρ2 H1 H2} {s0 s1 s2 : Shared} {env : Env} (x : Ev C l No ρ0 s0 ρ1 H1 s1) (y : Ev C l (locW env) ρ1 s1 ρ2 H2 s2) (h : s0.heap.objs.size ≤ env.locals) : Ev C l No ρ0 s0 ρ2 H2 s2 :=
  x.trans2 y fun _ hb w => absurd (w ▸ hb) (Nat.not_lt.mpr h)

set_option tactic.hygienic true in
theorem comp_loop {A : Around} {cenv : Env} {l : List Env} {elt tgt iter : Expr} {ifs : List Expr} {scope : Scope} {pos : Pos} {I a dd : Addr} {i : Nat} {F : Addr → Prop} {items : List V} {G : Hp → Prop} {P : Nat → Rho → Heap → Prop} {fa : V → Fm → Option Fm} {ft fe : FE} {R : Result → Shared → Prop}
    {ρ0 ρ : Rho} {H0 H : Hp} {s0 s : Shared} {m : Fm} (st0 : St C l ρ0 H0 s0) (hA : SimV C d sc tgt fa) (hT : SimW C d sc ifs ft) (hE : SimE C d sc elt fe)
    (T : Itr C A l tgt s0.heap.objs.size I F items G P) (hb : Bud d A) (ha : A.frames = some l) (he : cenv.scope = sc) (hL : s0.heap.objs.size ≤ cenv.locals) (x : Ev C l No ρ0 s0 ρ H s) (fr : FrOk C cenv l m ρ s.heap) (p0 : P 0 ρ s.heap)
    (pr : ∀ b, F b → ¬ muts ρ b ∧ b ≠ cenv.locals) (hi : ρ[i]? = some (a, dd)) (p : PostU C cenv l i (a, dd) ρ0 s0 R (cLoop G fa ft fe i items m H)) :
    codeAny (model C.prog C.w) A (.compLoop (.ListComp elt [⟨tgt, iter, ifs, 0⟩] scope pos) 0 (.ref I) (.ref a) cenv) R s := by
  have stepP : ∀ {j : Nat} {ρ1 ρ2 : Rho} {H1 H2 : Hp} {s1 s2 : Shared} {m1 : Fm}, Ev C l No ρ0 s0 ρ1 H1 s1 → FrOk C cenv l m1 ρ1 s1.heap → Ev C l (locW cenv) ρ1 s1 ρ2 H2 s2 → (P j ρ1 s1.heap ∧ ∀ b, F b → ¬ muts ρ1 b ∧ b ≠ cenv.locals) → (P j ρ2 s2.heap ∧ ∀ b, F b → ¬ muts ρ2 b ∧ b ≠ cenv.locals) := by
    intro j ρ1 ρ2 H1 H2 s1 s2 m1 x1 fr1 x2 ⟨pj, prj⟩
    refine ⟨T.frame j ρ1 ρ2 _ _ pj (fun b o hF g => x2.keep.exact g (fun z => z.elim (prj b hF).1 (prj b hF).2) fun z => ?_) fun _ _ r => r.ev x1.st x2 fun b hb => hb ▸ fr1.nt (.inl rfl),
      fun b hF => let ⟨_, o, g⟩ := T.foot j ρ1 _ b pj hF; ⟨x2.nm b (Heap.lt_size g) (prj b hF).1, (prj b hF).2⟩⟩
    exact absurd (T.foot j ρ1 _ b pj hF).1 (Nat.not_le.mpr (st0.fr_lt z).2)
  have exc : ∀ {ρ1 : Rho} {H1 H2 : Hp} {s1 : Shared} {m1 : Fm}, Ev C l No ρ0 s0 ρ1 H1 s1 → FrOk C cenv l m1 ρ1 s1.heap → PostU C cenv l i (a, dd) ρ0 s0 R (.exc H2) → ∀ ρ' e s', Ev C l No ρ1 s1 ρ' H2 s' → Fly C cenv.frame s1.heap.objs.size e s'.heap →
      notedBy (model C.prog C.w) A cenv (fun e s' => R (.error e) s') (.ref e) s' := fun x1 fr1 q ρ' e s' e1 fl =>
    comp_note ha st0.lo (x1.trans e1) (fr1.ev x1.st e1) (fl.mono x1.keep.1) q
  refine codeAny_loop rfl (fun k s' => ∃ j m' ρ' H', Ev C l No ρ0 s0 ρ' H' s' ∧ FrOk C cenv l m' ρ' s'.heap ∧ (P j ρ' s'.heap ∧ ∀ b, F b → ¬ muts ρ' b ∧ b ≠ cenv.locals) ∧ j ≤ items.length ∧ ρ'[i]? = some (a, dd) ∧ PostU C cenv l i (a, dd) ρ0 s0 R (cLoop G fa ft fe i (items.drop j) m' H') ∧ k = items.length + 1 - j) ?_ (items.length + 1)
    ⟨0, m, ρ, H, x, fr, ⟨p0, pr⟩, Nat.zero_le _, hi, p, rfl⟩
  rintro k s2 ⟨j, m2, ρ2, H2, x2, fr2, pj, hj, hi2, p2, rfl⟩
  show wpAny _ A ((compTurn (.ListComp elt [⟨tgt, iter, ifs, 0⟩] scope pos) 0 (.ref I) (.ref a) cenv).onRaise (fun x => do noteFrame x cenv; theTreesLotGoes x)) _ _ s2
  refine wpAny_noted ?_
  rw [compTurn_list]
  refine wpAny_bind (wpAny_standAt (wpAny_bind ?_))
  cases hv : items[j]? with
  | none =>
    have hlen : j = items.length := Nat.le_antisymm hj (List.getElem?_eq_none_iff.mp hv)
    subst hlen
    rw [List.drop_length] at p2
    unfold cLoop at p2
    by_cases hG : G H2
    · rw [if_pos hG] at p2
      refine wpAny_mono (T.stop ρ2 H2 s2 (fun s3 => R (.ok .next) s3) _ x2.st hG pj.1 fun s3 e3 => ?_) (fun r s3 z => by obtain ⟨rfl, z⟩ := z; exact wpAny_pure z) fun _ _ z => z
      exact p2 ρ2 m2 s3 (x2.transF e3 (Nat.le_refl _)) (fr2.evF x2.st e3) hi2
    · rw [if_neg hG] at p2; exact p2.elim
  | some v =>
    have hlt : j < items.length := (List.getElem?_eq_some_iff.mp hv).1
    have hd : items.drop j = v :: items.drop (j + 1) := by
      rw [List.drop_eq_getElem_cons hlt]
      congr 1
      rw [List.getElem?_eq_getElem hlt] at hv
      exact Option.some.inj hv
    rw [hd] at p2
    unfold cLoop at p2
    by_cases hG : G H2
    · rw [if_pos hG] at p2
      cases hfa : fa v m2 with
      | none => rw [hfa] at p2; exact p2.elim
      | some m3 =>
      rw [hfa] at p2
      dsimp only at p2
      refine wpAny_mono (T.item j v ρ2 H2 s2 (fun y s3 => wpAny (model C.prog C.w) A (assign tgt cenv y >>= _) _ _ s3) _ x2.st hG pj.1 hv fun y s3 e3 p3 r3 => ?_) (fun r s3 z => by obtain ⟨y, rfl, z⟩ := z; exact wpAny_bind z) fun _ _ z => z
      have x3 := x2.transF e3 (Nat.le_refl _)
      have fr3 := fr2.evF x2.st e3
      have pr3 : P (j + 1) ρ2 s3.heap ∧ ∀ b, F b → ¬ muts ρ2 b ∧ b ≠ cenv.locals := ⟨p3, pj.2⟩
      refine wpAny_bind (hA A cenv l m2 m3 ρ2 H2 s3 v y _ _ hb he fr3 e3.st r3 hfa fun s4 e4 fr4 => ?_)
      have x4 := x3.dropL e4 hL
      have pr4 := stepP x3 fr3 e4 pr3
      refine wpAny_bind (hT A cenv l m3 ρ2 H2 s4 _ _ hb ha he fr4 e4.st ?_)
      cases hft : ft m3 H2 with
      | bad => rw [hft] at p2; exact p2.elim
      | exc H5 => rw [hft] at p2; exact exc x4 fr4 p2
      | ok bv H5 =>
        rw [hft] at p2
        intro ρ5 y5 s5 e5 r5
        have x5 := x4.trans e5
        have fr5 := fr4.ev x4.st e5
        have pr5 := stepP x4 fr4 e5.no pr4
        have hi5 : ρ5[i]? = some (a, dd) := e5.look _ _ hi2
        cases r5 with
        | bool b =>
          refine ⟨b, rfl, ?_⟩
          cases b with
          | false => exact wpAny_pure ⟨rfl, items.length + 1 - (j + 1), by omega, j + 1, m3, ρ5, H5, x5, fr5, pr5, hlt, hi5, p2, rfl⟩
          | true =>
            refine wpAny_bind (wpAny_bind (hE A cenv l m3 ρ5 H5 s5 _ _ hb ha he fr5 x5.st ?_))
            dsimp only [Out.bind] at p2
            cases hfe : fe m3 H5 with
            | bad => rw [hfe] at p2; exact p2.elim
            | exc H6 => rw [hfe] at p2; exact exc x5 fr5 p2
            | ok xv H6 =>
              rw [hfe] at p2
              intro ρ6 y6 s6 e6 r6
              have x6 := x5.trans e6
              have fr6 := fr5.ev x5.st e6
              have pr6 := stepP x5 fr5 e6.no pr5
              have hi6 : ρ6[i]? = some (a, dd) := e6.look _ _ hi5
              refine wpAny_bind (simF_append (d := d) A l [.ref i, xv] [.ref a, y6] ρ6 H6 s6 _ _ hb ha x6.st (.cons (.ref hi6) (.cons r6 .nil)) ?_)
              unfold bAppend
              dsimp only
              dsimp only [Out.bind] at p2
              split at p2
              · rename_i xs ho
                split at p2
                · rename_i hx
                  try (rw [ho]; dsimp only)
                  rw [if_pos hx]
                  intro ρ7 y7 s7 e7 r7
                  have x7 := x6.trans e7
                  exact wpAny_pure (wpAny_pure ⟨rfl, items.length + 1 - (j + 1), by omega, j + 1, m3, ρ7, _, x7, fr6.ev x6.st e7, stepP x6 fr6 e7.no pr6, hlt, e7.look _ _ hi6, p2, rfl⟩)
                · exact p2.elim
              · exact p2.elim
        | _ => exact p2.elim
    · rw [if_neg hG] at p2; exact p2.elim
end
end MP
namespace MP
section
variable {C : Cx} {d : Nat} {sc : Scope}

theorem closure_loop (env : Env) : ∀ (ns : List (Str × NameKind)) (acc : List (Str × Addr)), (∀ n, (n, NameKind.free) ∈ ns → (env.cells.lookup n).isSome = true) → ∃ cl : List (Str × Addr),
    (forIn ns acc fun (x : Str × NameKind) (cs : List (Str × Addr)) => match x with
      | (name, kind) => if (kind == NameKind.free) = true then do let c ← cellOf env name; pure (ForInStep.yield ((name, c) :: cs)) else (pure (ForInStep.yield cs) : Sem _)) = pure cl ∧
    (∀ x c, cl.lookup x = some c → acc.lookup x = some c ∨ env.cells.lookup x = some c) ∧ (∀ x, (x, NameKind.free) ∈ ns ∨ (acc.lookup x).isSome = true → (cl.lookup x).isSome = true)
  | [], acc, _ => ⟨acc, rfl, fun _ _ h => .inl h, fun x h => h.elim (fun h => nomatch h) id⟩
  | (n, k) :: r, acc, h => by
    have hr := fun x hx => h x (List.mem_cons_of_mem _ hx)
    by_cases hk : k = .free
    · subst hk
      have h0 := h n List.mem_cons_self
      obtain ⟨c, hc⟩ := Option.isSome_iff_exists.mp h0
      obtain ⟨cl, e, h1, h2⟩ := closure_loop env r ((n, c) :: acc) hr
      refine ⟨cl, ?_, fun x y hy => ?_, fun x hx => ?_⟩
      · rw [List.forIn_cons]
        have : cellOf env n = pure c := by unfold cellOf; rw [hc]
        simp only [this]
        exact e
      · rcases h1 x y hy with q | q
        · rw [List.lookup_cons] at q
          cases hb : x == n with
          | true => rw [hb] at q; cases q; exact .inr (by rw [beq_iff_eq.mp hb]; exact hc)
          | false => rw [hb] at q; exact .inl q
        · exact .inr q
      · refine h2 x ?_
        rcases hx with hx | hx
        · rcases List.mem_cons.mp hx with hx | hx
          · cases hx; exact .inr (by simp [List.lookup_cons])
          · exact .inl hx
        · refine .inr ?_
          rw [List.lookup_cons]
          cases hb : x == n with
          | true => rfl
          | false => exact hx
    · obtain ⟨cl, e, h1, h2⟩ := closure_loop env r acc hr
      refine ⟨cl, ?_, h1, fun x hx => h2 x ?_⟩
      · rw [List.forIn_cons]
        have : (k == NameKind.free) = false := by simpa using hk
        simp only [this]
        exact e
      · rcases hx with hx | hx
        · rcases List.mem_cons.mp hx with hx | hx
          · cases hx; exact absurd rfl hk
          · exact .inl hx
        · exact .inr hx
theorem closure_ok {scope : Scope} {env : Env} (h : ∀ n, (n, NameKind.free) ∈ scope.names → (env.cells.lookup n).isSome = true) : ∃ cl, closureFor scope env = pure cl ∧ (∀ x c, cl.lookup x = some c → env.cells.lookup x = some c) ∧ (∀ n, (n, NameKind.free) ∈ scope.names → (cl.lookup n).isSome = true) := by
  obtain ⟨cl, e, h1, h2⟩ := closure_loop env scope.names [] h
  refine ⟨cl, ?_, fun x c hc => (h1 x c hc).elim (fun z => by cases z) id, fun n hn => h2 n (.inl hn)⟩
  unfold closureFor
  show (forIn scope.names [] _ >>= fun r => pure r) = _
  refine Eq.trans (congrArg (· >>= fun r => pure r) ?_) (show (pure cl >>= fun r => pure r) = pure cl from rfl)
  exact e

theorem FlyAt.sameBut {n : Nat} {e b : Addr} {fl : Value} {h h' : Heap} (x : FlyAt C n e fl h) (hs : Heap.SameBut b h h') (hn : ∃ o, h.get? b = some o ∧ ∀ vs, o.data ≠ .fields vs) : FlyAt C n e fl h' := by
  obtain ⟨o, g, d⟩ := hn
  obtain ⟨hn, oe, vs, T, oT, ts, hT, he, hc, hd, h1, hTe, gT, dT, h3⟩ := x
  have ne : e ≠ b := by rintro rfl; rw [g] at he; cases he; exact d _ hd
  have nT : T ≠ b := by rintro rfl; rw [g] at gT; cases gT; exact d _ dT
  exact ⟨hn, oe, vs, T, oT, ts, hT, hs.extBut _ _ ne he, hc, hd, h1, hTe, hs.extBut _ _ nT gT, dT, h3⟩

noncomputable def compOk (scope sc : Scope) (fv : List Str) : Bool :=
  scope.kind == .function && scope.names.all (fun p => match p.2 with
    | NameKind.local => scope.names.lookup p.1 == some .local
    | NameKind.free => sc.names.lookup p.1 == some .cell
    | NameKind.cell => false
    | _ => true) && fv.all fun x => (compSc scope sc).names.lookup x == some .cell

theorem lookup_compSc {names : List (Str × NameKind)} {g : Str → NameKind → NameKind} (hg : ∀ n k, g n k = .cell → k = .free ∨ k = .cell) {x : Str} : (names.map fun (n, k) => (n, g n k)).lookup x = some .cell → (∃ k, (x, k) ∈ names ∧ (k = .free ∨ k = .cell)) := by
  induction names with
  | nil => intro h; simp at h
  | cons p r ih =>
    obtain ⟨n, k⟩ := p
    intro h
    rw [List.map_cons, List.lookup_cons] at h
    cases hb : x == n with
    | true =>
      rw [hb] at h
      cases beq_iff_eq.mp hb
      exact ⟨k, List.mem_cons_self, hg _ _ (Option.some.inj h)⟩
    | false =>
      rw [hb] at h
      obtain ⟨k', h1, h2⟩ := ih h
      exact ⟨k', List.mem_cons_of_mem _ h1, h2⟩
set_option tactic.hygienic true in
theorem comp_cell {scope sc : Scope} {fv : List Str} (h : compOk scope sc fv = true) {x : Str} (hx : (compSc scope sc).names.lookup x = some .cell) : (x, NameKind.free) ∈ scope.names := by
  unfold compOk at h
  simp only [Bool.and_eq_true, List.all_eq_true] at h
  have e : (compSc scope sc).names = scope.names.map fun (n, k) => (n, if (k == .free && sc.kind == .function && sc.names.lookup n == some .cell) then NameKind.cell else k) := by
    unfold compSc
    dsimp only
    refine List.map_congr_left fun p _ => ?_
    obtain ⟨n, k⟩ := p
    dsimp only
    split <;> rfl
  rw [e] at hx
  obtain ⟨k, hm, hk⟩ := lookup_compSc (g := fun n k => if (k == .free && sc.kind == .function && sc.names.lookup n == some .cell) then NameKind.cell else k) (fun n k z => by
    split at z
    · rename_i hc
      simp only [Bool.and_eq_true, beq_iff_eq] at hc
      exact .inl hc.1.1
    · exact .inr z) hx
  rcases hk with rfl | rfl
  · exact hm
  · have := h.1.2 _ hm
    cases this

set_option tactic.hygienic true in
theorem lookup_filter {fv : List Str} {x : Str} {v : V} : ∀ {m : Fm}, (m.filter fun p => fv.contains p.1).lookup x = some v → x ∈ fv ∧ m.lookup x = some v
  | [], h => by simp at h
  | (n, w) :: r, h => by
    rw [List.filter_cons] at h
    split at h
    · rename_i hc
      rw [List.lookup_cons] at h ⊢
      cases hb : x == n with
      | true =>
        rw [hb] at h
        cases beq_iff_eq.mp hb
        exact ⟨List.contains_iff_mem.mp hc, h⟩
      | false => rw [hb] at h; exact lookup_filter h
    · rename_i hc
      obtain ⟨h1, h2⟩ := lookup_filter h
      refine ⟨h1, ?_⟩
      rw [List.lookup_cons]
      cases hb : x == n with
      | true =>
        cases beq_iff_eq.mp hb
        exact absurd (List.contains_iff_mem.mpr h1) hc
      | false => exact h2
noncomputable def cellsAt (cenv : Env) (vs : List (Str × NameKind)) : List Value := vs.flatMap fun (n, k) => if k == .cell then ((cenv.cells.lookup n).map Value.ref).toList else []
noncomputable def compVars (scope : Scope) : List (Str × NameKind) := scope.names.filter fun (n, k) => (k == .local || k == .cell) && n != (".0" : Str)
noncomputable def compEnd (use : Option (Value → Sem Unit)) (cenv : Env) (vars : List (Str × NameKind)) (y : Value) : Sem Value := match use with
  | none => do holding [y] (comprehension.letGo cenv (cellsAt cenv) vars.reverse); pure y
  | some u => do
    rule "comprehension.stores-exchanged"
    holding (cellsAt cenv vars) (u y)
    comprehension.letGo cenv (cellsAt cenv) (vars.reverse.drop 1 ++ vars.reverse.take 1)
    pure .none
/-- what is left when the loop is through -/
structure CompOut (C : Cx) (l : List Env) (ρ : Rho) (s : Shared) (vars : List (Str × NameKind)) (ρ' : Rho) (H' : Hp) (s' : Shared) (cenv : Env) (mm : Str → Option Value) : Prop where
  ev : Ev C l No ρ s ρ' H' s'
  ns : s'.heap.Ns cenv.locals mm
  new : s.heap.objs.size ≤ cenv.locals
  nm : ¬ muts ρ' cenv.locals
  hi : C.h0.objs.size ≤ cenv.locals
  fn : cenv.scope.kind = .function
  kd : ∀ x ∈ vars, x.2 = .local → cenv.kindOf x.1 = some .local
theorem comp_core {elt tgt iter ifs scope pos fv fit fa ft fe} {use : Option (Value → Sem Unit)} {A : Around} {env : Env} {l : List Env} {m : Fm} {ρ : Rho} {H : Hp} {s : Shared} {Q E : Value → Shared → Prop} (hI : SimIt C d sc iter tgt fit) (hA : SimV C d (compSc scope sc) tgt fa) (hT : SimW C d (compSc scope sc) ifs ft) (hE : SimE C d (compSc scope sc) elt fe)
    (hs : ∀ env x, foldedSetIterable iter env x = pure x) (hk : compOk scope sc fv = true) (hb : Bud d A) (ha : A.frames = some l) (he : env.scope = sc) (fr : FrOk C env l m ρ s.heap) (st : St C l ρ H s)
    (p : match fComp fv fit fa ft fe m H with
      | .bad => False
      | .exc H' => ∀ ρ' e s', Ev C l No ρ s ρ' H' s' → Fly C env.frame s.heap.objs.size e s'.heap → E (.ref e) s'
      | .ok v H' => ∀ ρ' y s' cenv mm, CompOut C l ρ s (compVars scope) ρ' H' s' cenv mm → RepV ρ' s'.heap v y → wpAny (model C.prog C.w) A (compEnd use cenv (compVars scope) y) Q E s') :
    wpAny (model C.prog C.w) A (comprehension (.ListComp elt [⟨tgt, iter, ifs, 0⟩] scope pos) scope env (firstIterPos [⟨tgt, iter, ifs, 0⟩] pos) (newList []) (firstAsync [⟨tgt, iter, ifs, 0⟩]) (firstIter [⟨tgt, iter, ifs, 0⟩] env) use) Q E s := by
  have hk0 := hk
  unfold compOk at hk0
  simp only [Bool.and_eq_true, List.all_eq_true, beq_iff_eq] at hk0
  obtain ⟨⟨hkind, hnm⟩, hfv⟩ := hk0
  have hcell : ∀ x ∈ scope.names, x.2 ≠ .cell := fun x hx e => by have := hnm x hx; rw [e] at this; cases this
  have hloc : ∀ x ∈ scope.names, x.2 = .local → scope.names.lookup x.1 = some .local := fun x hx e => by
    have := hnm x hx; rw [e] at this; exact beq_iff_eq.mp this
  have hfree : ∀ n, (n, NameKind.free) ∈ scope.names → env.kindOf n = some .cell := fun n hn => by
    have := hnm _ hn
    dsimp only at this
    unfold Env.kindOf
    rw [he]; exact beq_iff_eq.mp this
  obtain ⟨cl, hcl, cl1, cl2⟩ := closure_ok (scope := scope) (env := env) fun n hn => fr.celE n (hfree n hn)
  unfold comprehension
  rw [hcl]
  unfold fComp at p
  refine wpAny_bind (wpAny_mono (hI A env l m ρ H s _ E hb ha he fr st ?_) (fun x s1 h1 => wpAny_bind (wpAny_standAt (wpAny_bind (wpAny_of_eq (hs env x) (wpAny_bind (wpAny_holding h1)))))) fun _ _ z => z)
  cases o : fit m H with
  | bad => rw [o] at p; exact p.elim
  | exc H1 => rw [o] at p; exact p
  | ok t H1 =>
    cases t with
    | mk items G =>
    rw [o] at p
    dsimp only [Out.bind] at p
    intro ρ1 I s1 F P e1 T p0 nm0
    have fr1 := fr.ev st e1
    refine wpAny_standIf (wpAny_bind ?_)
    obtain ⟨e2, r2⟩ := newL_at (sl := #[]) (n := 0) (xs := []) (ys := []) e1.st .nil
    refine wpAny_newObj_type (wpAny_bind (wpAny_pure (wpAny_bind (wpAny_newFunctionEnv hcell (by intro y hy; simp at hy) (fun h3 hns hsb => ?_) hkind)))) (by show (0 : Nat) ≤ sizeLine; exact Nat.zero_le _)
    have fr2 := fr1.ev e1.st e2
    generalize hρ2 : ρ1 ++ [(s1.heap.objs.size, s1.heap.objs.size)] = ρ2 at e2 r2 fr2
    generalize hH2 : s1.heap.push ⟨.type "list", none, .seq ([] : List Value).toArray 0, #[]⟩ = H2 at e2 r2 fr2 hns hsb ⊢
    dsimp only at hns hsb
    have e3 : Ev C l No ρ2 { s1 with heap := H2 } ρ2 (H1 ++ [.list []]) { s1 with heap := h3, toks := s1.toks + ([] : List (Str × Value)).length } := by
      refine Ev.keepNo e2.st ⟨?_, fun b o g _ => ⟨o.slots, ?_, fun _ => rfl⟩⟩ ⟨rfl, rfl, rfl⟩
      · show H2.objs.size ≤ h3.objs.size
        rw [hsb.1, Heap.size_push]; omega
      · exact hsb.extBut _ _ (Nat.ne_of_lt (Heap.lt_size g)) (Heap.get?_push_of_some _ g)
    have fr3 := fr2.ev e2.st e3
    have e13 := e2.trans e3
    have x3 := e1.trans e13
    have hL : s.heap.objs.size ≤ H2.objs.size := Nat.le_trans e1.keep.1 e2.keep.1
    have nmL : ¬ muts ρ2 H2.objs.size := e2.st.fresh (Nat.le_refl _)
    dsimp only
    refine wpAny_holding (wpAny_bind (wpAny_attempt (wpAny_holding (wpAny_run ?_))))
    have hrel : relabel scope env = compSc scope sc := relabel_eq he
    have frc : FrOk C { scope := relabel scope env, locals := H2.objs.size, globals := env.globals, cells := cl, qual := env.qual, func := none, code := env.code, frame := env.frame, builtins := env.builtins } l (m.filter fun p => fv.contains p.1) ρ2 h3 := by
      have lkf := fun {x v} => @lookup_filter fv x v m
      refine ⟨hkind, fr.glob, fr.bui, fr.top, ⟨_, hns, fun x v hx hk' => ?_⟩, fun x v hx hk' => ?_, fun x c hx => fr3.celX x c (cl1 x c hx), fun x x' c h h' => fr.celI x x' c (cl1 x c h) (cl1 x' c h'), ⟨Nat.le_trans st.lo hL, nmL⟩, fun x c hx => fr3.hiC x c (cl1 x c hx), fun x hx => ?_⟩
      · have := hfv x (lkf hx).1
        rw [← hrel] at this
        rw [show Env.kindOf _ x = (relabel scope env).names.lookup x from rfl, this] at hk'
        cases hk'
      · obtain ⟨hm, hx⟩ := lkf hx
        have hf := comp_cell hk (hfv x hm)
        obtain ⟨c, y, hc, ic, r⟩ := fr3.cel x v hx (.inl (hfree x hf))
        obtain ⟨c', hc'⟩ := Option.isSome_iff_exists.mp (cl2 x hf)
        have := cl1 x c' hc'
        rw [hc] at this
        cases this
        exact ⟨c, y, hc', ic, r⟩
      · exact cl2 x (comp_cell hk (by rw [← hrel]; exact hx))
    generalize hce : ({ scope := relabel scope env, locals := H2.objs.size, globals := env.globals, cells := cl, qual := env.qual, func := none, code := env.code, frame := env.frame, builtins := env.builtins } : Env) = cenv at frc
    have hcl : cenv.locals = H2.objs.size := by rw [← hce]
    have hcf : cenv.frame = env.frame := by rw [← hce]
    have hcs : cenv.scope = compSc scope sc := by rw [← hrel, ← hce]
    have a1 : s1.heap.objs.size < H2.objs.size := by rw [← hH2, Heap.size_push]; omega
    have p3 : P 0 ρ2 h3 := by
      refine T.frame 0 ρ1 ρ2 _ _ p0 (fun b o hF g => e13.keep.exact g (fun z => z.elim (nm0 b hF) id) fun z => ?_) fun _ _ r => r.ev0 e1.st e13
      exact absurd (T.foot 0 ρ1 _ b p0 hF).1 (Nat.not_le.mpr (st.fr_lt z).2)
    have pr3 : ∀ b, F b → ¬ muts ρ2 b ∧ b ≠ cenv.locals := fun b hF => by
      obtain ⟨_, o, g⟩ := T.foot 0 ρ1 _ b p0 hF
      refine ⟨e13.nm b (Heap.lt_size g) (nm0 b hF), fun z => ?_⟩
      have := Heap.lt_size g
      rw [z, hcl] at this
      exact absurd this (Nat.not_lt.mpr (Nat.le_of_lt a1))
    have hi3 : ρ2[H1.length]? = some (s1.heap.objs.size, s1.heap.objs.size) := by
      rw [← hρ2, ← e1.st.rep.len]; simp
    have hv : ∀ x ∈ (scope.names.filter fun x => (x.2 == .local || x.2 == .cell) && x.1 != (".0" : Str)).reverse, x.2 = .local → cenv.kindOf x.1 = some .local := fun x hx hl => by
      rw [← hce]
      exact lookup_relabel_local (hloc x (List.mem_filter.mp (List.mem_reverse.mp hx)).1 hl)
    let Rr : Result → Shared → Prop := fun r s' => match r with
      | .ok _ => wpAny (model C.prog C.w) A (compEnd use cenv (compVars scope) (.ref s1.heap.objs.size)) Q E s'
      | .error x => (∃ mm, s'.heap.Ns cenv.locals mm ∧ ∀ h' m', h'.Ns cenv.locals m' → Heap.SameBut cenv.locals s'.heap h' → wpAny (model C.prog C.w) A (passOn "comprehension.variables-let-go" x cenv : Sem Value) (fun _ _ => False) E { s' with heap := h' })
    have drop : ∀ {ρ' H' m'} {s' : Shared} {h' mm}, Ev C l No ρ s ρ' H' s' → FrOk C cenv l m' ρ' s'.heap → h'.Ns cenv.locals mm → Heap.SameBut cenv.locals s'.heap h' → Ev C l No ρ s ρ' H' { s' with heap := h' } := by
      intro ρ' H' m' s' h' mm x' fr' hn hs
      refine x'.dropL (env := cenv) (Ev.ownW x'.st rfl fr'.hiL.2 (fr'.nt (.inl rfl)) fr'.hiL.1 (.sameBut hs) ?_ ⟨rfl, rfl, rfl⟩) (by rw [hcl]; exact hL)
      obtain ⟨o', es, ep, g, d', _⟩ := hn
      exact ⟨o', g, fun vs z => by rw [d'] at z; cases z⟩
    have post : PostU C cenv l H1.length (s1.heap.objs.size, s1.heap.objs.size) ρ s Rr (cLoop G fa ft fe H1.length items (m.filter fun p => fv.contains p.1) (H1 ++ [.list []])) := by
      cases ol : cLoop G fa ft fe H1.length items (m.filter fun p => fv.contains p.1) (H1 ++ [.list []]) with
      | bad => rw [ol] at p; exact p.elim
      | ok u H4 =>
        rw [ol] at p
        intro ρ' m' s' x' fr' hi'
        obtain ⟨mm, hn, _⟩ := fr'.loc
        exact p ρ' _ _ cenv mm ⟨x', hn, by rw [hcl]; exact hL, fr'.hiL.2, fr'.hiL.1, fr'.kind, fun x hx hl => hv x (List.mem_reverse.mpr hx) hl⟩ (.ref hi')
      | exc H4 =>
        rw [ol] at p
        intro ρ' m' e L s' x' fr' hf fly
        obtain ⟨mm, hn, _⟩ := fr'.loc
        refine ⟨mm, hn, fun h' m'' hn' hs' => ?_⟩
        have x4 := drop x' fr' hn' hs'
        have fly4 : FlyAt C s.heap.objs.size e (rawInt L) h' := fly.sameBut hs' (by obtain ⟨o', es, ep, g, d', _⟩ := hn; exact ⟨o', g, fun vs z => by rw [d'] at z; cases z⟩)
        have fly5 := fly4
        obtain ⟨_, oe, vs, T', oT, ts, _, he', _, hd', h1', _⟩ := fly5
        unfold PySem.passOn
        refine wpAny_bind (wpAny_field he' hd' h1' ?_)
        rw [if_neg (show ¬ ((Value.ref T' == Value.none) = true) from by simp)]
        refine wpAny_bind (flight_fly (X := inFr l) fly4 fun h'' y1 k1 => wpAny_throw ?_)
        refine p ρ' e _ (x4.thru (s' := { s' with heap := h'' }) k1 st.lo ⟨rfl, rfl, rfl⟩) ?_
        rw [hf] at y1
        exact .inr (.inr ⟨L, hcf ▸ hf, y1⟩)
    have loop : codeAny (model C.prog C.w) A (.compLoop (.ListComp elt [⟨tgt, iter, ifs, 0⟩] scope pos) 0 (.ref I) (.ref s1.heap.objs.size) cenv) Rr { s1 with heap := h3, toks := s1.toks + ([] : List (Str × Value)).length } :=
      comp_loop st hA hT hE T hb ha hcs (by rw [hcl]; exact hL) x3 frc p3 pr3 hi3 post
    have start := codeAny_compStart_list loop (T.self 0 ρ2 _ _ _ p3 loop)
    subst hce
    refine codeAny_mono start fun r s' hr => ?_
    cases r with
    | ok f => cases use <;> exact hr
    | error x =>
      obtain ⟨mm, hn, hr⟩ := hr
      exact wpAny_bind (wpAny_holding (wpAny_comp_letGo (cenv := { scope := relabel scope env, locals := H2.objs.size, globals := env.globals, cells := cl, qual := env.qual, func := none, code := env.code, frame := env.frame, builtins := env.builtins }) hkind _ s' mm hv hn fun h' m' hn' hs' => wpAny_mono (hr h' m' hn' hs') (fun _ _ f => f.elim) fun _ _ y => y))
theorem CompOut.drop {l ρ s vars ρ' H' s' cenv mm h' m'} (x : CompOut C l ρ s vars ρ' H' s' cenv mm) (hn : h'.Ns cenv.locals m') (hs : Heap.SameBut cenv.locals s'.heap h') : Ev C l No ρ s ρ' H' { s' with heap := h' } := by
  refine x.ev.dropL (env := cenv) (Ev.ownW x.ev.st rfl x.nm ?_ x.hi (.sameBut hs) ?_ ⟨rfl, rfl, rfl⟩) x.new
  · obtain ⟨o', es, ep, g, d', _⟩ := x.ns
    intro o g' hc xs n hd
    rw [g] at g'; cases g'
    rw [d'] at hd; cases hd
  · obtain ⟨o', es, ep, g, d', _⟩ := hn
    exact ⟨o', g, fun vs z => by rw [d'] at z; cases z⟩
theorem simE_comp {elt tgt iter ifs scope pos fv fit fa ft fe} (hI : SimIt C d sc iter tgt fit) (hA : SimV C d (compSc scope sc) tgt fa) (hT : SimW C d (compSc scope sc) ifs ft) (hE : SimE C d (compSc scope sc) elt fe)
    (hs : ∀ env x, foldedSetIterable iter env x = pure x) (hk : compOk scope sc fv = true) : SimE C d sc (.ListComp elt [⟨tgt, iter, ifs, 0⟩] scope pos) (fComp fv fit fa ft fe) := by
  intro A env l m ρ H s Q E hb ha he fr st p
  rw [eval_ListComp]
  refine comp_core hI hA hT hE hs hk hb ha he fr st ?_
  cases o : fComp fv fit fa ft fe m H with
  | bad => rw [o] at p; exact p
  | exc H1 => rw [o] at p; exact p
  | ok v H1 =>
    rw [o] at p
    intro ρ' y s' cenv mm x r
    refine wpAny_bind (wpAny_holding (wpAny_comp_letGo x.fn _ s' mm (fun z hz hl => x.kd z (List.mem_reverse.mp hz) hl) x.ns fun h' m' hn' hs' => wpAny_pure ?_))
    refine p ρ' y _ (x.drop hn' hs') (r.keep (Keep.sameBut hs' : Keep _ No _ _) (fun b hb _ => ?_) (fun _ _ z => z) fun _ _ z => z)
    subst hb
    obtain ⟨o', es, ep, g, d', _⟩ := x.ns
    intro o g' hc xs n hd
    rw [g] at g'; cases g'
    rw [d'] at hd; cases hd
end
end MP
namespace MP

/-- a list (false) or a tuple (true), and its iterator -/
noncomputable def IsSq (b : Bool) (h : Heap) (a : Addr) (items : Array Value) : Prop := ∃ o, h.get? a = some o ∧ o.cls = .type (cond b "tuple" "list") ∧ ∃ n, o.data = .seq items n
noncomputable def IsSqIt (b : Bool) (h : Heap) (I a : Addr) (i : Nat) : Prop := ∃ o, h.get? I = some o ∧ o.cls = .type (cond b "tuple_iterator" "list_iterator") ∧ o.data = .fields #[.ref a, .int i 0]
theorem IsSq.at {b h h' a items} (x : IsSq b h a items) (k : ∀ o, h.get? a = some o → h'.get? a = some o) : IsSq b h' a items := let ⟨o, g, r⟩ := x; ⟨o, k o g, r⟩
theorem IsSqIt.at {b h h' I a i} (x : IsSqIt b h I a i) (k : ∀ o, h.get? I = some o → h'.get? I = some o) : IsSqIt b h' I a i := let ⟨o, g, r⟩ := x; ⟨o, k o g, r⟩

section
variable {prog : Program} {w : World} {A : Around} {E : Value → Shared → Prop} {s : Shared}

theorem next_sq {b : Bool} {it l : Addr} {i : Nat} {items : Array Value} {x : Value} {Q : Value → Shared → Prop} (hit : IsSqIt b s.heap it l i) (hl : IsSq b s.heap l items) (hx : items[i]? = some x)
    (hQ : ∀ h', IsSqIt b h' it l (i + 1) → Heap.SameBut it s.heap h' → Q x { s with heap := h' }) : wpAny (model prog w) A (Builtin.SmallTypes.nextOf (.ref it)) Q E s := by
  cases b with
  | false => exact wpAny_nextOf_list_item (l := l) (i := i) (items := items) hit hl hx hQ
  | true =>
    have hit' : s.heap.IsTupleIter it l i := hit
    obtain ⟨o, ho, hc, hd⟩ := id hit'
    obtain ⟨ol, hol, _, nl, hdl⟩ := hl
    unfold Builtin.SmallTypes.nextOf
    refine wpAny_bind (wpAny_callSpecial?_slot (name := Str.ofString "__next__") hit'.typeIs F.slot_tuple_iterator_next (wpAny_call_entry F.slot_tuple_iterator_next hit'.typeIs F.entry_tuple_iterator_next ?_ (F.args_tuple_iterator_next_1 _)))
    show wpAny _ _ (field (.ref it) 0 >>= _) _ _ s
    refine wpAny_bind (wpAny_field ho hd (x := .ref l) rfl ?_)
    show wpAny _ _ (if (Value.ref l == Value.none) = true then _ else _) _ _ s
    rw [if_neg (show ¬ ((Value.ref l == Value.none) = true) from Bool.false_ne_true)]
    show wpAny _ _ (field (.ref it) 1 >>= _) _ _ s
    refine wpAny_bind (wpAny_field ho hd (x := .int i 0) rfl ?_)
    show wpAny _ _ (seqItems? (.ref l) >>= _) _ _ s
    refine wpAny_bind (wpAny_seqItems hol hdl ?_)
    simp only [Int.toNat_natCast, hx]
    refine wpAny_bind (wpAny_setField ho hd (by simp) (wpAny_pure ⟨x, rfl, wpAny_pure (hQ _ ?_ (Heap.SameBut.update ..))⟩))
    exact ⟨_, Heap.get?_update_self _ ho (Obj.isFreed_of_fields (Obj.data_mapFields hd _)), (Obj.cls_mapFields ..).trans hc, by rw [Obj.data_mapFields hd]; simp [rawInt]⟩

theorem end_sq {b : Bool} {it l : Addr} {i : Nat} {items : Array Value} {Q : Value → Shared → Prop} (hh : A.handled = none) (hit : IsSqIt b s.heap it l i) (hl : IsSq b s.heap l items) (hx : items[i]? = none)
    (hE : ∀ h' e, Heap.ExtBut it s.heap h' → (∃ o, h'.get? e = some o ∧ o.cls = .type "StopIteration") → E (.ref e) { s with heap := h' }) : wpAny (model prog w) A (Builtin.SmallTypes.nextOf (.ref it)) Q E s := by
  cases b with
  | false => exact wpAny_nextOf_list_end (l := l) (i := i) (items := items) hh hit hl hx hE
  | true =>
    have hit' : s.heap.IsTupleIter it l i := hit
    obtain ⟨o, ho, hc, hd⟩ := id hit'
    obtain ⟨ol, hol, _, nl, hdl⟩ := hl
    unfold Builtin.SmallTypes.nextOf
    refine wpAny_bind (wpAny_callSpecial?_slot (name := Str.ofString "__next__") hit'.typeIs F.slot_tuple_iterator_next (wpAny_call_entry F.slot_tuple_iterator_next hit'.typeIs F.entry_tuple_iterator_next ?_ (F.args_tuple_iterator_next_1 _)))
    show wpAny _ _ (field (.ref it) 0 >>= _) _ _ s
    refine wpAny_bind (wpAny_field ho hd (x := .ref l) rfl ?_)
    show wpAny _ _ (if (Value.ref l == Value.none) = true then _ else _) _ _ s
    rw [if_neg (show ¬ ((Value.ref l == Value.none) = true) from Bool.false_ne_true)]
    show wpAny _ _ (field (.ref it) 1 >>= _) _ _ s
    refine wpAny_bind (wpAny_field ho hd (x := .int i 0) rfl ?_)
    show wpAny _ _ (seqItems? (.ref l) >>= _) _ _ s
    refine wpAny_bind (wpAny_seqItems hol hdl ?_)
    simp only [Int.toNat_natCast, hx]
    refine wpAny_bind (wpAny_rule (wpAny_bind (wpAny_setField ho hd (by simp) ?_)))
    show wpAny _ _ (newExc (.type "StopIteration") [] >>= _) _ _ _
    refine wpAny_bind ?_
    simp only [newExc, newTuple]
    refine wpAny_bind (wpAny_newObj_type ?_ (by size_fits))
    refine wpAny_bind (m := firstArgMember _ _) (wpAny_of_eq (a := Value.none) (by first | rfl | (simp only [firstArgMember]; rfl)) ?_)
    refine wpAny_newObj_type ?_ (by size_fits)
    simp only [raiseNew]
    refine wpAny_bind (wpAny_handled ?_)
    first | rw [show A.in1.handled = none from hh] | rw [hh]
    refine wpAny_bind (wpAny_pure (wpAny_throw ?_))
    exact hE _ _ (((Heap.SameBut.update ..).extBut.push _).push _) ⟨_, Heap.get?_push_size _ rfl, rfl⟩

theorem iter_sq {b : Bool} {l : Addr} {items : Array Value} {Q : Value → Shared → Prop} (hl : IsSq b s.heap l items)
    (hQ : Q (.ref s.heap.objs.size) { s with heap := s.heap.push { cls := .type (cond b "tuple_iterator" "list_iterator"), data := .fields #[.ref l, .int 0 0] } }) : wpAny (model prog w) A (pyIter (.ref l)) Q E s := by
  cases b with
  | false => exact wpAny_pyIter_list (l := l) (items := items) hl hQ
  | true => exact wpAny_pyIter_tuple (t := l) (items := items) hl hQ

/-- a zip object -/
noncomputable def ZipAt (h : Heap) (z TI TO : Addr) (f0 f1 : Value) : Prop := h.get? z = some { cls := .type "zip", dict := none, data := .fields #[f0, f1, .bool false, .ref TI, .ref TO], slots := #[] }
structure ZApart (z TI TO i1 i2 l1 l2 : Addr) : Prop where
  TIz : TI ≠ z
  TOz : TO ≠ z
  i1z : i1 ≠ z
  i2z : i2 ≠ z
  TITO : TI ≠ TO
  TIi1 : TI ≠ i1
  TIi2 : TI ≠ i2
  TOi1 : TO ≠ i1
  TOi2 : TO ≠ i2
  i12 : i1 ≠ i2
  l1z : l1 ≠ z
  l1TO : l1 ≠ TO
  l1i1 : l1 ≠ i1
  l1i2 : l1 ≠ i2
  l2z : l2 ≠ z
  l2TO : l2 ≠ TO
  l2i1 : l2 ≠ i1
  l2i2 : l2 ≠ i2

noncomputable def ZKeep (z TO i1 i2 : Addr) (h h' : Heap) : Prop := ∀ c o, c ≠ z → c ≠ TO → c ≠ i1 → c ≠ i2 → h.get? c = some o → h'.get? c = some o

/-- the zip's own tuple is taken again -/
theorem zip_owned {b1 b2 : Bool} {z TI TO i1 i2 l1 l2 : Addr} {k1 k2 : Nat} {xs ys : Array Value} {x y a b f1 : Value} {Q : Value → Shared → Prop} (D : ZApart z TI TO i1 i2 l1 l2)
    (hz : ZipAt s.heap z TI TO .none f1) (hTI : IsPair s.heap TI (.ref i1) (.ref i2)) (hTO : IsPair s.heap TO a b)
    (h1 : IsSqIt b1 s.heap i1 l1 k1) (h2 : IsSqIt b2 s.heap i2 l2 k2) (hl1 : IsSq b1 s.heap l1 xs) (hl2 : IsSq b2 s.heap l2 ys) (hx : xs[k1]? = some x) (hy : ys[k2]? = some y)
    (hQ : ∀ h', ZipAt h' z TI TO (rawInt s.heap.objs.size) (.bool false) → IsPair h' TO x y → IsSqIt b1 h' i1 l1 (k1 + 1) → IsSqIt b2 h' i2 l2 (k2 + 1) → IsPair h' s.heap.objs.size x y → h'.objs.size = s.heap.objs.size + 1 →
      ZKeep z TO i1 i2 s.heap h' → Q (.ref s.heap.objs.size) { s with heap := h' }) :
    wpAny (model prog w) A (Builtin.«zip.__next__» ⟨[.ref z], []⟩) (fun fin s' => ∃ v, fin = .done (.ret v) ∧ Q v s') E s := by
  unfold ZipAt at hz
  show wpAny _ _ (field (.ref z) 2 >>= _) _ _ _
  refine wpAny_bind (wpAny_field hz rfl (x := .bool false) rfl ?_)
  show wpAny _ _ (field (.ref z) 3 >>= _) _ _ _
  refine wpAny_bind (wpAny_field hz rfl (x := .ref TI) rfl ?_)
  refine wpAny_bind (wpAny_seqItems hTI rfl ?_)
  show wpAny _ _ (Builtin.SmallTypes.ownedTupleIsFree (.ref z) >>= _) _ _ _
  refine wpAny_bind ?_
  unfold Builtin.SmallTypes.ownedTupleIsFree
  refine wpAny_bind (wpAny_field hz rfl (x := .none) rfl (wpAny_pure ?_))
  simp only [if_true]
  refine wpAny_bind (wpAny_rule (wpAny_bind (wpAny_field hz rfl (x := .ref TO) rfl ?_)))
  refine wpAny_bind (wpAny_setField_rec hz (by simp) fun h₁ hz₁ hs₁ => ?_)
  replace hz₁ : ZipAt h₁ z TI TO .ellipsis f1 := hz₁
  refine wpAny_bind ?_
  simp only [List.zipIdx_cons, List.zipIdx_nil, List.forIn_cons, List.forIn_nil]
  refine wpAny_bind (wpAny_bind (wpAny_onRaise ?_))
  show wpAny _ _ (Builtin.SmallTypes.nextOf (.ref i1) >>= _) _ _ _
  refine wpAny_bind (next_sq (h1.at fun o => hs₁.extBut _ o D.i1z) (hl1.at fun o => hs₁.extBut _ o D.l1z) hx fun h₂ h1₂ hs₂ => wpAny_pure ?_)
  have hTO₂ : IsPair h₂ TO a b := hs₂.extBut _ _ D.TOi1 (hs₁.extBut _ _ D.TOz hTO)
  refine wpAny_bind (wpAny_seqItems hTO₂ rfl (wpAny_bind (wpAny_updateSeq_pair hTO₂ fun h₃ hTO₃ hs₃ => ?_)))
  replace hTO₃ : IsPair h₃ TO x b := hTO₃
  refine wpAny_bind (wpAny_letGo (wpAny_pure ?_))
  refine wpAny_bind (wpAny_bind (wpAny_onRaise ?_))
  show wpAny _ _ (Builtin.SmallTypes.nextOf (.ref i2) >>= _) _ _ _
  refine wpAny_bind (next_sq (((h2.at fun o => hs₁.extBut _ o D.i2z).at fun o => hs₂.extBut _ o D.i12.symm).at fun o => hs₃.extBut _ o D.TOi2.symm)
    (((hl2.at fun o => hs₁.extBut _ o D.l2z).at fun o => hs₂.extBut _ o D.l2i1).at fun o => hs₃.extBut _ o D.l2TO) hy fun h₄ h2₄ hs₄ => wpAny_pure ?_)
  have hTO₄ : IsPair h₄ TO x b := hs₄.extBut _ _ D.TOi2 hTO₃
  refine wpAny_bind (wpAny_seqItems hTO₄ rfl (wpAny_bind (wpAny_updateSeq_pair hTO₄ fun h₅ hTO₅ hs₅ => ?_)))
  replace hTO₅ : IsPair h₅ TO x y := hTO₅
  refine wpAny_bind (wpAny_letGo (wpAny_pure (wpAny_pure ?_)))
  refine wpAny_bind (wpAny_seqItems hTO₅ rfl (wpAny_bind (wpAny_newTuple ?_)))
  have hsz : h₅.objs.size = s.heap.objs.size := by rw [hs₅.1, hs₄.1, hs₃.1, hs₂.1, hs₁.1]
  have hz₅ : ZipAt h₅ z TI TO .ellipsis f1 := hs₅.extBut _ _ D.TOz.symm (hs₄.extBut _ _ D.i2z.symm (hs₃.extBut _ _ D.TOz.symm (hs₂.extBut _ _ D.i1z.symm hz₁)))
  have hk₅ : ZKeep z TO i1 i2 s.heap h₅ := fun c o c1 c2 c3 c4 e => hs₅.extBut _ _ c2 (hs₄.extBut _ _ c4 (hs₃.extBut _ _ c2 (hs₂.extBut _ _ c3 (hs₁.extBut _ _ c1 e))))
  have h1₅ : IsSqIt b1 h₅ i1 l1 (k1 + 1) := ((h1₂.at fun o => hs₃.extBut _ o D.TOi1.symm).at fun o => hs₄.extBut _ o D.i12).at fun o => hs₅.extBut _ o D.TOi1.symm
  have h2₅ : IsSqIt b2 h₅ i2 l2 (k2 + 1) := h2₄.at fun o => hs₅.extBut _ o D.TOi2.symm
  have hzlt : z < h₅.objs.size := Heap.lt_size hz₅
  show wpAny _ _ (Builtin.SmallTypes.ownedTupleHandOut (.ref z) (.ref h₅.objs.size) >>= _) _ _ _
  refine wpAny_bind ?_
  unfold Builtin.SmallTypes.ownedTupleHandOut
  have hz₆ : ZipAt (h₅.push { cls := .type "tuple", data := .seq #[x, y] }) z TI TO .ellipsis f1 := Heap.get?_push_of_some _ hz₅
  refine wpAny_bind (wpAny_setField_rec hz₆ (by simp) fun h₇ hz₇ hs₇ => ?_)
  replace hz₇ : ZipAt h₇ z TI TO (rawInt h₅.objs.size) f1 := hz₇
  refine wpAny_setField_rec hz₇ (by simp) fun h₈ hz₈ hs₈ => ?_
  replace hz₈ : ZipAt h₈ z TI TO (rawInt h₅.objs.size) (.bool false) := hz₈
  have up : ∀ c o, c ≠ z → h₅.get? c = some o → h₈.get? c = some o := fun c o c1 e => hs₈.extBut _ _ c1 (hs₇.extBut _ _ c1 (Heap.get?_push_of_some _ e))
  have hT₈ : IsPair h₈ h₅.objs.size x y := hs₈.extBut _ _ (Nat.ne_of_gt hzlt) (hs₇.extBut _ _ (Nat.ne_of_gt hzlt) (Heap.get?_push_size _ rfl))
  have hz8 : h₈.objs.size = h₅.objs.size + 1 := by rw [hs₈.1, hs₇.1, Heap.size_push]
  rw [hsz] at hz₈ hT₈ hz8
  refine wpAny_pure ⟨_, rfl, ?_⟩
  show Q (.ref h₅.objs.size) _
  rw [hsz]
  exact hQ h₈ hz₈ (up _ _ D.TOz hTO₅) (h1₅.at fun o => up _ o D.i1z) (h2₅.at fun o => up _ o D.i2z) hT₈ hz8 fun c o c1 c2 c3 c4 e => up c o c1 (hk₅ c o c1 c2 c3 c4 e)

theorem alive {a : Addr} {o : Obj} {Q : Option Obj → Shared → Prop} (ho : s.heap.get? a = some o) (h : Q (some o) s) : wpAny (model prog w) A (loadIfAlive a) Q E s := by
  have h' : Q (s.heap.get? a) s := by rw [ho]; exact h
  exact fun _ _ _ => h'

/-- the zip's own tuple is still in use: another one is made -/
theorem zip_busy {z TI TO T : Addr} {oT : Obj} {f1 : Value} {Q : Bool → Shared → Prop} (hz : ZipAt s.heap z TI TO (rawInt T) f1) (hT : s.heap.get? T = some oT)
    (hQ : ∀ h' g1, ZipAt h' z TI TO (rawInt T) g1 → Heap.SameBut z s.heap h' → Q false { s with heap := h' }) : wpAny (model prog w) A (Builtin.SmallTypes.ownedTupleIsFree (.ref z)) Q E s := by
  unfold ZipAt at hz
  unfold Builtin.SmallTypes.ownedTupleIsFree
  refine wpAny_bind (wpAny_field hz rfl (x := rawInt T) rfl ?_)
  show wpAny _ _ (loadIfAlive ((T : Int).toNat) >>= _) _ _ _
  rw [Int.toNat_natCast]
  refine wpAny_bind (alive hT ?_)
  simp only [Option.isNone_some, Bool.false_eq_true, if_false]
  refine wpAny_bind (wpAny_field hz rfl (x := f1) rfl ?_)
  by_cases hf : (f1 != Value.bool true) = true
  · rw [if_pos hf]
    exact wpAny_bind (wpAny_setField_rec hz (by simp) fun h₁ hz₁ hs₁ => wpAny_pure (hQ h₁ _ hz₁ hs₁))
  · rw [if_neg hf]
    exact wpAny_pure (hQ s.heap f1 hz (Heap.SameBut.refl ..))

theorem zip_fresh {b1 b2 : Bool} {z TI TO i1 i2 l1 l2 T : Addr} {oT : Obj} {k1 k2 : Nat} {xs ys : Array Value} {x y f1 : Value} {Q : Value → Shared → Prop} (D : ZApart z TI TO i1 i2 l1 l2)
    (hz : ZipAt s.heap z TI TO (rawInt T) f1) (hT : s.heap.get? T = some oT) (hTI : IsPair s.heap TI (.ref i1) (.ref i2))
    (h1 : IsSqIt b1 s.heap i1 l1 k1) (h2 : IsSqIt b2 s.heap i2 l2 k2) (hl1 : IsSq b1 s.heap l1 xs) (hl2 : IsSq b2 s.heap l2 ys) (hx : xs[k1]? = some x) (hy : ys[k2]? = some y)
    (hQ : ∀ h' g1, ZipAt h' z TI TO (rawInt T) g1 → IsSqIt b1 h' i1 l1 (k1 + 1) → IsSqIt b2 h' i2 l2 (k2 + 1) → IsPair h' s.heap.objs.size x y → h'.objs.size = s.heap.objs.size + 1 →
      (∀ c o, c ≠ z → c ≠ i1 → c ≠ i2 → s.heap.get? c = some o → h'.get? c = some o) → Q (.ref s.heap.objs.size) { s with heap := h' }) :
    wpAny (model prog w) A (Builtin.«zip.__next__» ⟨[.ref z], []⟩) (fun fin s' => ∃ v, fin = .done (.ret v) ∧ Q v s') E s := by
  have hz0 := hz
  unfold ZipAt at hz
  show wpAny _ _ (field (.ref z) 2 >>= _) _ _ _
  refine wpAny_bind (wpAny_field hz rfl (x := .bool false) rfl ?_)
  show wpAny _ _ (field (.ref z) 3 >>= _) _ _ _
  refine wpAny_bind (wpAny_field hz rfl (x := .ref TI) rfl ?_)
  refine wpAny_bind (wpAny_seqItems hTI rfl ?_)
  show wpAny _ _ (Builtin.SmallTypes.ownedTupleIsFree (.ref z) >>= _) _ _ _
  refine wpAny_bind (zip_busy hz0 hT fun h₁ g1 hz₁ hs₁ => ?_)
  simp only [Bool.false_eq_true, if_false]
  refine wpAny_bind ?_
  simp only [← Array.forIn_toList, List.forIn_cons, List.forIn_nil]
  refine wpAny_bind (wpAny_bind (wpAny_holding ?_))
  show wpAny _ _ (Builtin.SmallTypes.nextOf (.ref i1) >>= _) _ _ _
  refine wpAny_bind (next_sq (h1.at fun o => hs₁.extBut _ o D.i1z) (hl1.at fun o => hs₁.extBut _ o D.l1z) hx fun h₂ h1₂ hs₂ => wpAny_pure (wpAny_pure ?_))
  refine wpAny_bind (wpAny_bind (wpAny_holding ?_))
  show wpAny _ _ (Builtin.SmallTypes.nextOf (.ref i2) >>= _) _ _ _
  refine wpAny_bind (next_sq ((h2.at fun o => hs₁.extBut _ o D.i2z).at fun o => hs₂.extBut _ o D.i12.symm) ((hl2.at fun o => hs₁.extBut _ o D.l2z).at fun o => hs₂.extBut _ o D.l2i1) hy fun h₃ h2₃ hs₃ => wpAny_pure (wpAny_pure (wpAny_pure ?_)))
  have hsz : h₃.objs.size = s.heap.objs.size := by rw [hs₃.1, hs₂.1, hs₁.1]
  have hz₃ : ZipAt h₃ z TI TO (rawInt T) g1 := hs₃.extBut _ _ D.i2z.symm (hs₂.extBut _ _ D.i1z.symm hz₁)
  refine wpAny_bind (wpAny_newTuple (wpAny_pure ⟨_, rfl, ?_⟩) (by show (2 : Nat) ≤ sizeLine; rw [sizeLine_eq]; omega))
  show Q (.ref h₃.objs.size) _
  rw [hsz]
  have new : IsPair (h₃.push { cls := .type "tuple", data := .seq #[x, y] }) h₃.objs.size x y := Heap.get?_push_size _ rfl
  rw [hsz] at new
  exact hQ _ g1 (Heap.get?_push_of_some _ hz₃) (h1₂.at fun o e => Heap.get?_push_of_some _ (hs₃.extBut _ o D.i12 e)) (h2₃.at fun o e => Heap.get?_push_of_some _ e) new (by rw [Heap.size_push, hsz])
    fun c o c1 c2 c3 e => Heap.get?_push_of_some _ (hs₃.extBut _ _ c3 (hs₂.extBut _ _ c2 (hs₁.extBut _ _ c1 e)))

theorem zip_end {b1 b2 : Bool} {z TI TO i1 i2 l1 l2 : Addr} {k1 k2 : Nat} {xs ys : Array Value} {a b f0 f1 : Value} {Q : Fin → Shared → Prop} (hh : A.handled = none) (D : ZApart z TI TO i1 i2 l1 l2)
    (hz : ZipAt s.heap z TI TO f0 f1) (hf : f0 = .none ∨ ∃ (T : Addr) (oT : Obj), f0 = rawInt T ∧ s.heap.get? T = some oT) (hTI : IsPair s.heap TI (.ref i1) (.ref i2)) (hTO : IsPair s.heap TO a b)
    (h1 : IsSqIt b1 s.heap i1 l1 k1) (h2 : IsSqIt b2 s.heap i2 l2 k2) (hl1 : IsSq b1 s.heap l1 xs) (hl2 : IsSq b2 s.heap l2 ys) (hend : xs[k1]? = none ∨ ys[k2]? = none)
    (hE : ∀ h' e, ZKeep z TO i1 i2 s.heap h' → (∃ a b, IsPair h' TO a b) → (∃ o, h'.get? e = some o ∧ o.cls = .type "StopIteration") → E (.ref e) { s with heap := h' }) :
    wpAny (model prog w) A (Builtin.«zip.__next__» ⟨[.ref z], []⟩) Q E s := by
  have hz0 := hz
  unfold ZipAt at hz
  show wpAny _ _ (field (.ref z) 2 >>= _) _ _ _
  refine wpAny_bind (wpAny_field hz rfl (x := .bool false) rfl ?_)
  show wpAny _ _ (field (.ref z) 3 >>= _) _ _ _
  refine wpAny_bind (wpAny_field hz rfl (x := .ref TI) rfl ?_)
  refine wpAny_bind (wpAny_seqItems hTI rfl ?_)
  show wpAny _ _ (Builtin.SmallTypes.ownedTupleIsFree (.ref z) >>= _) _ _ _
  rcases hf with rfl | ⟨T, oT, rfl, hT⟩
  · refine wpAny_bind ?_
    unfold Builtin.SmallTypes.ownedTupleIsFree
    refine wpAny_bind (wpAny_field hz rfl (x := .none) rfl (wpAny_pure ?_))
    simp only [if_true]
    refine wpAny_bind (wpAny_rule (wpAny_bind (wpAny_field hz rfl (x := .ref TO) rfl ?_)))
    refine wpAny_bind (wpAny_setField_rec hz (by simp) fun h₁ hz₁ hs₁ => ?_)
    replace hz₁ : ZipAt h₁ z TI TO .ellipsis f1 := hz₁
    refine wpAny_bind ?_
    simp only [List.zipIdx_cons, List.zipIdx_nil, List.forIn_cons, List.forIn_nil]
    refine wpAny_bind (wpAny_bind (wpAny_onRaise ?_))
    show wpAny _ _ (Builtin.SmallTypes.nextOf (.ref i1) >>= _) _ _ _
    cases hx : xs[k1]? with
    | none =>
      refine wpAny_bind (end_sq hh (h1.at fun o => hs₁.extBut _ o D.i1z) (hl1.at fun o => hs₁.extBut _ o D.l1z) hx fun h₂ e hs₂ he => ?_)
      obtain ⟨oe, hoe, hce⟩ := he
      have hz₂ : ZipAt h₂ z TI TO .ellipsis f1 := hs₂ _ _ D.i1z.symm hz₁
      have hez : e ≠ z := fun x => by subst x; unfold ZipAt at hz₂; rw [hz₂] at hoe; cases hoe; simp at hce
      refine wpAny_setField_rec hz₂ (by simp) fun h₃ _ hs₃ => hE h₃ e (fun c o c1 _ c3 _ x => hs₃.extBut _ _ c1 (hs₂ _ _ c3 (hs₁.extBut _ _ c1 x))) ⟨a, b, hs₃.extBut _ _ D.TOz (hs₂ _ _ D.TOi1 (hs₁.extBut _ _ D.TOz hTO))⟩ ⟨oe, hs₃.extBut _ _ hez hoe, hce⟩
    | some x =>
      have hy : ys[k2]? = none := by rcases hend with h | h; rw [hx] at h; cases h; exact h
      refine wpAny_bind (next_sq (h1.at fun o => hs₁.extBut _ o D.i1z) (hl1.at fun o => hs₁.extBut _ o D.l1z) hx fun h₂ h1₂ hs₂ => wpAny_pure ?_)
      have hTO₂ : IsPair h₂ TO a b := hs₂.extBut _ _ D.TOi1 (hs₁.extBut _ _ D.TOz hTO)
      refine wpAny_bind (wpAny_seqItems hTO₂ rfl (wpAny_bind (wpAny_updateSeq_pair hTO₂ fun h₃ hTO₃ hs₃ => ?_)))
      replace hTO₃ : IsPair h₃ TO x b := hTO₃
      refine wpAny_bind (wpAny_letGo (wpAny_pure ?_))
      refine wpAny_bind (wpAny_bind (wpAny_onRaise ?_))
      show wpAny _ _ (Builtin.SmallTypes.nextOf (.ref i2) >>= _) _ _ _
      refine wpAny_bind (end_sq hh (((h2.at fun o => hs₁.extBut _ o D.i2z).at fun o => hs₂.extBut _ o D.i12.symm).at fun o => hs₃.extBut _ o D.TOi2.symm)
        (((hl2.at fun o => hs₁.extBut _ o D.l2z).at fun o => hs₂.extBut _ o D.l2i1).at fun o => hs₃.extBut _ o D.l2TO) hy fun h₄ e hs₄ he => ?_)
      obtain ⟨oe, hoe, hce⟩ := he
      have hz₄ : ZipAt h₄ z TI TO .ellipsis f1 := hs₄ _ _ D.i2z.symm (hs₃.extBut _ _ D.TOz.symm (hs₂.extBut _ _ D.i1z.symm hz₁))
      have hez : e ≠ z := fun x => by subst x; unfold ZipAt at hz₄; rw [hz₄] at hoe; cases hoe; simp at hce
      refine wpAny_setField_rec hz₄ (by simp) fun h₅ _ hs₅ => hE h₅ e (fun c o c1 c2 c3 c4 x => hs₅.extBut _ _ c1 (hs₄ _ _ c4 (hs₃.extBut _ _ c2 (hs₂.extBut _ _ c3 (hs₁.extBut _ _ c1 x))))) ⟨x, b, hs₅.extBut _ _ D.TOz (hs₄ _ _ D.TOi2 hTO₃)⟩ ⟨oe, hs₅.extBut _ _ hez hoe, hce⟩
  · refine wpAny_bind (zip_busy hz0 hT fun h₁ g1 hz₁ hs₁ => ?_)
    simp only [Bool.false_eq_true, if_false]
    refine wpAny_bind ?_
    simp only [← Array.forIn_toList, List.forIn_cons, List.forIn_nil]
    refine wpAny_bind (wpAny_bind (wpAny_holding ?_))
    show wpAny _ _ (Builtin.SmallTypes.nextOf (.ref i1) >>= _) _ _ _
    cases hx : xs[k1]? with
    | none =>
      exact wpAny_bind (end_sq hh (h1.at fun o => hs₁.extBut _ o D.i1z) (hl1.at fun o => hs₁.extBut _ o D.l1z) hx fun h₂ e hs₂ he => hE h₂ e (fun c o c1 _ c3 _ x => hs₂ _ _ c3 (hs₁.extBut _ _ c1 x)) ⟨a, b, hs₂ _ _ D.TOi1 (hs₁.extBut _ _ D.TOz hTO)⟩ he)
    | some x =>
      have hy : ys[k2]? = none := by rcases hend with h | h; rw [hx] at h; cases h; exact h
      refine wpAny_bind (next_sq (h1.at fun o => hs₁.extBut _ o D.i1z) (hl1.at fun o => hs₁.extBut _ o D.l1z) hx fun h₂ h1₂ hs₂ => wpAny_pure (wpAny_pure ?_))
      refine wpAny_bind (wpAny_bind (wpAny_holding ?_))
      show wpAny _ _ (Builtin.SmallTypes.nextOf (.ref i2) >>= _) _ _ _
      exact wpAny_bind (end_sq hh ((h2.at fun o => hs₁.extBut _ o D.i2z).at fun o => hs₂.extBut _ o D.i12.symm) ((hl2.at fun o => hs₁.extBut _ o D.l2z).at fun o => hs₂.extBut _ o D.l2i1) hy fun h₃ e hs₃ he =>
        hE h₃ e (fun c o c1 _ c3 c4 x => hs₃ _ _ c4 (hs₂.extBut _ _ c3 (hs₁.extBut _ _ c1 x))) ⟨a, b, hs₃ _ _ D.TOi2 (hs₂.extBut _ _ D.TOi1 (hs₁.extBut _ _ D.TOz hTO))⟩ he)

theorem pyNext_zip {z TI TO : Addr} {f0 f1 : Value} {Q : Option Value → Shared → Prop} (hz : ZipAt s.heap z TI TO f0 f1)
    (h : ∀ A : Around, A.handled = none → wpAny (model prog w) A (Builtin.«zip.__next__» ⟨[.ref z], []⟩) (fun fin s' => ∃ v, fin = .done (.ret v) ∧ Q (some v) s') (fun e s' => ∃ a o, e = .ref a ∧ s'.heap.get? a = some o ∧ o.cls = .type "StopIteration" ∧ Q none s') s)
    (hh : A.handled = none) : wpAny (model prog w) A (pyNext (.ref z)) Q E s := by
  have hT : s.TypeIs (.ref z) "zip" := ⟨_, hz, rfl⟩
  unfold pyNext
  refine wpAny_bind (wpAny_attempt (wpAny_callSpecial?_slot (name := Str.ofString "__next__") hT F.slot_zip_next
    (wpAny_call_entry F.slot_zip_next hT F.entry_zip_next (wpAny_mono (h _ hh) (fun fin s' z => ?_) fun e s' z => ?_) (F.args_zip_next_1 _))))
  · obtain ⟨v, rfl, q⟩ := z
    exact ⟨v, rfl, wpAny_pure q⟩
  · obtain ⟨a, o, rfl, g, c, q⟩ := z
    exact wpAny_bind (wpAny_isInstance (T := "StopIteration") (b := true) ⟨o, g, c⟩ isSubtype_stop (wpAny_pure q))
theorem pyIter_zip {z TI TO : Addr} {f0 f1 : Value} {Q : Value → Shared → Prop} (hz : ZipAt s.heap z TI TO f0 f1) (h : Q (.ref z) s) : wpAny (model prog w) A (pyIter (.ref z)) Q E s := by
  have hT : s.TypeIs (.ref z) "zip" := ⟨_, hz, rfl⟩
  refine wpAny_pyIter_slot hT F.slot_zip_iter (wpAny_call_entry F.slot_zip_iter hT F.entry_zip_iter ?_ (F.args_zip_iter_1 _))
  show wpAny _ _ (ret (.ref z)) _ _ s
  exact wpAny_pure ⟨_, rfl, "zip", _, hT, F.slot_zip_next.lookup, h⟩
end
end MP
namespace MP

theorem IsSq.push {b : Bool} {h : Heap} {a : Addr} {items : Array Value} (x : IsSq b h a items) (o : Obj) : IsSq b (h.push o) a items := x.at fun _ g => Heap.get?_push_of_some _ g
noncomputable def sqIt (b : Bool) (l : Addr) : Obj := { cls := .type (cond b "tuple_iterator" "list_iterator"), data := .fields #[.ref l, .int 0 0] }
noncomputable def zh1 (b1 : Bool) (h : Heap) (l1 : Addr) : Heap := h.push (sqIt b1 l1)
noncomputable def zh2 (b1 b2 : Bool) (h : Heap) (l1 l2 : Addr) : Heap := (zh1 b1 h l1).push (sqIt b2 l2)
noncomputable def zh3 (b1 b2 : Bool) (h : Heap) (l1 l2 : Addr) : Heap := (zh2 b1 b2 h l1 l2).push { cls := .type "tuple", data := .seq #[.ref h.objs.size, .ref (zh1 b1 h l1).objs.size] }
noncomputable def zh4 (b1 b2 : Bool) (h : Heap) (l1 l2 : Addr) : Heap := (zh3 b1 b2 h l1 l2).push { cls := .type "tuple", data := .seq #[.none, .none] }
noncomputable def zh5 (b1 b2 : Bool) (h : Heap) (l1 l2 : Addr) : Heap := (zh4 b1 b2 h l1 l2).push { cls := .type "zip", data := .fields #[.none, .bool false, .bool false, .ref (zh2 b1 b2 h l1 l2).objs.size, .ref (zh3 b1 b2 h l1 l2).objs.size] }

theorem meets_zip_sq (b1 b2 : Bool) (l1 l2 : Addr) (xs ys : Array Value) :
    Meets (Builtin.«zip.__new__» ⟨[.type "zip", .ref l1, .ref l2], []⟩) (fun _ R s => IsSq b1 s.heap l1 xs ∧ IsSq b2 s.heap l2 ys ∧
      R (.ok (.ret (.ref (zh4 b1 b2 s.heap l1 l2).objs.size))) { s with heap := zh5 b1 b2 s.heap l1 l2 }) :=
  .of_wp fun prog w A R s h => by
    obtain ⟨hp, g, d, tk, os⟩ := s; obtain ⟨hl1, hl2, h⟩ := h
    have hsub := sub_zip
    have hL1 : IsSq b1 (Shared.heap ⟨hp, g, d, tk, os⟩) l1 xs := hl1
    have hL2 : IsSq b2 (Shared.heap ⟨hp.push { cls := .type (cond b1 "tuple_iterator" "list_iterator"), data := .fields #[.ref l1, .int 0 0] }, g, d, tk, os⟩) l2 ys := hl2.push _
    wp_walk using iter_sq hL1, iter_sq hL2
    exact ⟨_, rfl, h⟩

section
variable {prog : Program} {w : World} {A : Around} {E : Value → Shared → Prop} {s : Shared}
theorem call_zip_sq {b1 b2 : Bool} {l1 l2 : Addr} {xs ys : Array Value} {Q : Value → Shared → Prop} (hl1 : IsSq b1 s.heap l1 xs) (hl2 : IsSq b2 s.heap l2 ys)
    (h : ∀ h', ZipAt h' (s.heap.objs.size + 4) (s.heap.objs.size + 2) (s.heap.objs.size + 3) .none (.bool false) → IsPair h' (s.heap.objs.size + 2) (.ref s.heap.objs.size) (.ref (s.heap.objs.size + 1)) →
      IsPair h' (s.heap.objs.size + 3) .none .none → IsSqIt b1 h' s.heap.objs.size l1 0 → IsSqIt b2 h' (s.heap.objs.size + 1) l2 0 → h'.objs.size = s.heap.objs.size + 5 →
      (∀ c o, s.heap.get? c = some o → h'.get? c = some o) → Q (.ref (s.heap.objs.size + 4)) { s with heap := h' }) :
    wpAny (model prog w) A (call (.type "zip") [.ref l1, .ref l2]) Q E s := by
  refine callType_new F.called_zip (by decide) (F.typeCall_zip_2 _ _) (F.newCall_zip_2 _ _) (fun obj => F.args_object_init_3 obj _ _) F.entry_zip_new (meets_zip_sq b1 b2 l1 l2 xs ys) ⟨hl1, hl2, ?_⟩
  have z1 : (zh1 b1 s.heap l1).objs.size = s.heap.objs.size + 1 := Heap.size_push ..
  have z2 : (zh2 b1 b2 s.heap l1 l2).objs.size = s.heap.objs.size + 2 := by unfold zh2; rw [Heap.size_push, z1]
  have z3 : (zh3 b1 b2 s.heap l1 l2).objs.size = s.heap.objs.size + 3 := by unfold zh3; rw [Heap.size_push, z2]
  have z4 : (zh4 b1 b2 s.heap l1 l2).objs.size = s.heap.objs.size + 4 := by unfold zh4; rw [Heap.size_push, z3]
  have z5 : (zh5 b1 b2 s.heap l1 l2).objs.size = s.heap.objs.size + 5 := by unfold zh5; rw [Heap.size_push, z4]
  have p : ∀ {h : Heap} {c : Addr} {o : Obj} (o' : Obj), h.get? c = some o → (h.push o').get? c = some o := fun o' e => Heap.get?_push_of_some _ e
  have n : ∀ (h : Heap) (o : Obj), o.isFreed = false → (h.push o).get? h.objs.size = some o := fun h o e => Heap.get?_push_size _ e
  have g5 : (zh5 b1 b2 s.heap l1 l2).get? (zh4 b1 b2 s.heap l1 l2).objs.size = some _ := n _ _ rfl
  have g4 : (zh5 b1 b2 s.heap l1 l2).get? (zh3 b1 b2 s.heap l1 l2).objs.size = some _ := p _ (n _ _ rfl)
  have g3 : (zh5 b1 b2 s.heap l1 l2).get? (zh2 b1 b2 s.heap l1 l2).objs.size = some _ := p _ (p _ (n _ _ rfl))
  have g2 : (zh5 b1 b2 s.heap l1 l2).get? (zh1 b1 s.heap l1).objs.size = some _ := p _ (p _ (p _ (n _ (sqIt b2 l2) rfl)))
  have g1 : (zh5 b1 b2 s.heap l1 l2).get? s.heap.objs.size = some _ := p _ (p _ (p _ (p _ (n _ (sqIt b1 l1) rfl))))
  show _ ∧ _
  rw [z2, z3, z4] at g5
  rw [z1, z2] at g3
  rw [z3] at g4
  rw [z1] at g2
  rw [z4]
  exact ⟨⟨_, g5, rfl⟩, h _ g5 g3 g4 ⟨_, g1, rfl, rfl⟩ ⟨_, g2, rfl, rfl⟩ z5 fun c o x => p _ (p _ (p _ (p _ (p _ x))))⟩

theorem letOwned_zip {z TI TO T : Addr} {tgt : Expr} {f0 f1 : Value} {Q : Unit → Shared → Prop} (hz : ZipAt s.heap z TI TO f0 f1)
    (q : ∀ h' g0, ZipAt h' z TI TO g0 f1 → (g0 = f0 ∨ g0 = .none) → Heap.SameBut z s.heap h' → Q () { s with heap := h' }) : wpAny (model prog w) A (letOwnedTupleGo tgt (.ref z) (.ref T)) Q E s := by
  have stay := q s.heap f0 hz (.inl rfl) (Heap.SameBut.refl ..)
  have hz0 := hz
  unfold ZipAt at hz
  have go : wpAny (model prog w) A (do
      let (.ref r, .ref a) := (Value.ref z, Value.ref T) | return
      let o ← load r
      match o.cls, o.data with
      | .type n, .fields vs =>
        if ["enumerate", "zip", "dict_itemiterator", "dict_reverseitemiterator", "odict_iterator", "itertools.zip_longest", "itertools.pairwise"].contains n && vs[0]? == some (rawInt a) then
          rule "for.unpacks-the-owned-tuple"
          updateField r 0 .none
      | _, _ => pure ()) Q E s := by
    refine wpAny_bind (wpAny_load hz ?_)
    dsimp only
    by_cases hc : ((["enumerate", "zip", "dict_itemiterator", "dict_reverseitemiterator", "odict_iterator", "itertools.zip_longest", "itertools.pairwise"] : List String).contains "zip" && (#[f0, f1, .bool false, .ref TI, .ref TO] : Array Value)[0]? == some (rawInt T)) = true
    · rw [if_pos hc]
      refine wpAny_bind (wpAny_rule ?_)
      show wpAny _ _ (setField (.ref z) 0 .none) Q E s
      exact wpAny_setField_rec hz (by simp) fun h' hz' hs' => q h' .none hz' (.inr rfl) hs'
    · rw [if_neg hc]
      exact wpAny_pure stay
  unfold letOwnedTupleGo
  cases tgt with
  | Tuple => exact go
  | List => exact go
  | _ => exact wpAny_pure stay
end

section
variable {C : Cx} {d : Nat} {sc : Scope}

set_option tactic.hygienic true in
theorem Ev.ofZ {l ρ H} {s s' : Shared} {n0 k : Nat} {z TO i1 i2 : Addr} {a b a' b' : Value} (st : St C l ρ H s) (hl : C.h0.objs.size ≤ n0) (hk : H[k]? = some .opq) (hp : ρ[k]? = some (TO, TO))
    (fz : FW n0 s.heap z) (f1 : FW n0 s.heap i1) (f2 : FW n0 s.heap i2) (g : IsPair s.heap TO a b) (g' : IsPair s'.heap TO a' b') (zk : ZKeep z TO i1 i2 s.heap s'.heap) (hs : s.heap.objs.size ≤ s'.heap.objs.size)
    (hr : s'.gens = s.gens ∧ s'.drawn = s.drawn ∧ s'.os = s.os) : Ev C l (FW n0 s.heap) ρ s ρ H s' := by
  have g1 : (s.heap.update TO fun _ => { cls := .type "tuple", data := .seq #[a', b'] }).get? TO = some { cls := .type "tuple", data := .seq #[a', b'] } := Heap.get?_update_self _ g rfl
  have e1 : Ev C l (FW n0 s.heap) ρ s ρ (H.set k .opq) { s with heap := s.heap.update TO fun _ => { cls := .type "tuple", data := .seq #[a', b'] } } :=
    Ev.put st hp (.inl rfl) (.sameBut (Heap.SameBut.update ..)) ⟨rfl, rfl, rfl⟩ ⟨rfl, _, g1, a', b', rfl⟩
  have hset : H.set k .opq = H := by
    refine List.ext_getElem? fun i => ?_
    rw [List.getElem?_set]
    split
    · rename_i e
      subst e
      split
      · exact hk.symm
      · rename_i hn
        exact absurd (List.getElem?_eq_some_iff.mp hk).1 hn
    · rfl
  rw [hset] at e1
  have sb : Heap.SameBut TO s.heap (s.heap.update TO fun _ => { cls := .type "tuple", data := .seq #[a', b'] }) := Heap.SameBut.update ..
  have toF : ∀ {c}, FW n0 (s.heap.update TO fun _ => { cls := .type "tuple", data := .seq #[a', b'] }) c → FW n0 s.heap c := by
    rintro c ⟨h1, o, vs, go, dd⟩
    by_cases hc : c = TO
    · subst hc
      rw [g1] at go; cases go; cases dd
    · exact ⟨h1, o, vs, (sb.2 c hc).symm.trans go, dd⟩
  have fromF : ∀ {c}, FW n0 s.heap c → FW n0 (s.heap.update TO fun _ => { cls := .type "tuple", data := .seq #[a', b'] }) c := by
    rintro c ⟨h1, o, vs, go, dd⟩
    have hc : c ≠ TO := by rintro rfl; rw [g] at go; cases go; cases dd
    exact ⟨h1, o, vs, sb.extBut _ _ hc go, dd⟩
  refine e1.trans2 (Ev.ofF e1.st (n0 := n0) ⟨?_, fun c o e n => ⟨o.slots, ?_, fun _ => rfl⟩⟩ hl hr) fun c _ w => toF w
  · exact Nat.le_trans (Nat.le_of_eq sb.1) hs
  · by_cases hc : c = TO
    · subst hc
      have e' : some _ = some _ := g1.symm.trans e
      cases e'
      exact g'
    · exact zk c o (fun q => n (fromF (q ▸ fz))) hc (fun q => n (fromF (q ▸ f1))) (fun q => n (fromF (q ▸ f2))) ((sb.2 c hc).symm.trans e)
end
end MP
namespace MP
section
variable {C : Cx} {d : Nat} {sc : Scope}

/-- the items of a list or a tuple -/
noncomputable def sqOf (H : Hp) : V → Option (List V)
  | .ref j => (match H[j]? with
    | some (.list xs) => some xs
    | _ => none)
  | .tup vs => some vs
  | _ => none
noncomputable def sqB : V → Bool
  | .tup _ => true
  | _ => false
set_option tactic.hygienic true in
theorem sq_at {l ρ H s} {a : V} {y : Value} {xs : List V} (st : St C l ρ H s) (r : RepV ρ s.heap a y) (h : sqOf H a = some xs) : ∃ lo items, y = .ref lo ∧ IsSq (sqB a) s.heap lo items ∧ RepVs ρ s.heap xs items.toList := by
  cases r with
  | ref hp =>
    rename_i j b dd
    unfold sqOf at h
    dsimp only at h
    split at h
    · rename_i ys ho
      cases h
      obtain ⟨items, hl, rs, hsz, ⟨n, sl, g⟩, _⟩ := rep_list st ho hp
      exact ⟨b, items, rfl, ⟨_, g, rfl, n, rfl⟩, rs⟩
    · cases h
  | tup hm g hc hd rs => cases h; exact ⟨_, _, rfl, ⟨_, g, hc, _, hd⟩, rs⟩
  | _ => cases h

noncomputable def zipP (a b : V) (k z TI TO i1 i2 l1 l2 : Addr) (i : Nat) (ρ : Rho) (h : Heap) : Prop :=
  ∃ f0 f1, ZipAt h z TI TO f0 f1 ∧ (f0 = .none ∨ ∃ (T : Addr) (vs : List V), f0 = rawInt T ∧ RepV ρ h (.tup vs) (.ref T)) ∧ IsPair h TI (.ref i1) (.ref i2) ∧ IsSqIt (sqB a) h i1 l1 i ∧ IsSqIt (sqB b) h i2 l2 i ∧
    RepV ρ h a (.ref l1) ∧ RepV ρ h b (.ref l2) ∧ RepV ρ h (.ref k) (.ref TO)
noncomputable def zipF (z TI i1 i2 : Addr) (b : Addr) : Prop := b = z ∨ b = TI ∨ b = i1 ∨ b = i2
noncomputable def zipV (xs ys : List V) : List V := List.zipWith (fun x y => .tup [x, y]) xs ys
theorem zipV_get : ∀ {xs ys : List V} {i : Nat} {v : V}, (zipV xs ys)[i]? = some v → ∃ x y, xs[i]? = some x ∧ ys[i]? = some y ∧ v = .tup [x, y]
  | [], _, _, _, h => by simp [zipV] at h
  | _ :: _, [], _, _, h => by simp [zipV] at h
  | x :: _, y :: _, 0, _, h => by simp [zipV] at h; exact ⟨x, y, rfl, rfl, h.symm⟩
  | _ :: xs, _ :: ys, i + 1, _, h => by
    obtain ⟨x, y, h1, h2, h3⟩ := @zipV_get xs ys i _ (by simpa [zipV] using h)
    exact ⟨x, y, by simpa using h1, by simpa using h2, h3⟩
theorem zipV_end {xs ys : List V} : xs[(zipV xs ys).length]? = none ∨ ys[(zipV xs ys).length]? = none := by
  have : (zipV xs ys).length = min xs.length ys.length := by unfold zipV; exact List.length_zipWith
  rw [this, List.getElem?_eq_none_iff, List.getElem?_eq_none_iff]
  omega

set_option tactic.hygienic true in
theorem itr_zip {A : Around} {l tgt} {a b : V} {xs ys : List V} {k n0 : Nat} {z TI TO i1 i2 l1 l2 : Addr} (hh : A.handled = none) (hn : C.h0.objs.size ≤ n0) (D : ZApart z TI TO i1 i2 l1 l2) (h1 : n0 ≤ i1) (h2 : n0 ≤ i2) (h3 : n0 ≤ TI) (h4 : n0 ≤ z) :
    Itr C A l tgt n0 z (zipF z TI i1 i2) (zipV xs ys) (fun H => sqOf H a = some xs ∧ sqOf H b = some ys ∧ H[k]? = some .opq) (zipP a b k z TI TO i1 i2 l1 l2) where
  foot := by
    rintro i ρ h b ⟨f0, f1, hz, hf, hTI, ⟨o1, g1, _⟩, ⟨o2, g2, _⟩, _⟩ (rfl | rfl | rfl | rfl)
    · exact ⟨h4, _, hz⟩
    · exact ⟨h3, _, hTI⟩
    · exact ⟨h1, _, g1⟩
    · exact ⟨h2, _, g2⟩
  frame := by
    rintro i ρ ρ' h h' ⟨f0, f1, hz, hf, hTI, hi1, hi2, ra, rb, rk⟩ kf kr
    exact ⟨f0, f1, kf _ _ (.inl rfl) hz, hf.imp id fun ⟨T, vs, e, r⟩ => ⟨T, vs, e, kr _ _ r⟩, kf _ _ (.inr (.inl rfl)) hTI, hi1.at fun o => kf _ o (.inr (.inr (.inl rfl))), hi2.at fun o => kf _ o (.inr (.inr (.inr rfl))), kr _ _ ra, kr _ _ rb, kr _ _ rk⟩
  self := fun i ρ s Q E ⟨f0, f1, hz, _⟩ q => pyIter_zip hz q
  item := by
    rintro i v ρ H s Q E st ⟨ga, gb, gk⟩ ⟨f0, f1, hz, hf, hTI, hi1, hi2, ra, rb, rk⟩ hv hQ
    obtain ⟨x, y, hx, hy, rfl⟩ := zipV_get hv
    obtain ⟨_, it1, e1, sq1, rs1⟩ := sq_at st ra ga
    cases e1
    obtain ⟨_, it2, e2, sq2, rs2⟩ := sq_at st rb gb
    cases e2
    obtain ⟨xv, hxv, rx⟩ := rs1.get hx
    obtain ⟨yv, hyv, ry⟩ := rs2.get hy
    rw [Array.getElem?_toList] at hxv hyv
    cases rk with
    | ref hp =>
    rename_i dd
    obtain ⟨_, hp', hed, o, hg, a0, b0, rfl⟩ := (let ⟨p, hp', r⟩ := st.at gk; ⟨p, hp', r⟩ : ∃ p, ρ[k]? = some p ∧ RepO C ρ s.heap .opq p.1 p.2)
    rw [hp] at hp'
    cases hp'
    dsimp only at hed hg
    subst hed
    have fz : FW n0 s.heap z := ⟨h4, _, _, hz, rfl⟩
    have fi1 : FW n0 s.heap i1 := by obtain ⟨o, g, _, dd⟩ := hi1; exact ⟨h1, o, _, g, dd⟩
    have fi2 : FW n0 s.heap i2 := by obtain ⟨o, g, _, dd⟩ := hi2; exact ⟨h2, o, _, g, dd⟩
    have hzlt : z < s.heap.objs.size := Heap.lt_size hz
    have ltT : ∀ {c o}, s.heap.get? c = some o → s.heap.objs.size ≠ c := fun g => Nat.ne_of_gt (Heap.lt_size g)
    -- what stands after the turn
    have done : ∀ (h' : Heap) (g0 g1 a1 b1 : _), ZipAt h' z TI TO g0 g1 → (g0 = f0 ∨ g0 = .none ∨ g0 = rawInt s.heap.objs.size) → IsPair h' TO a1 b1 → IsSqIt (sqB a) h' i1 l1 (i + 1) → IsSqIt (sqB b) h' i2 l2 (i + 1) → IsPair h' s.heap.objs.size xv yv →
        s.heap.objs.size ≤ h'.objs.size → ZKeep z TO i1 i2 s.heap h' → Q (.ref s.heap.objs.size) { s with heap := h' } := by
      intro h' g0 g1 a1 b1 hz' hg0 hTO' hi1' hi2' hT hsz zk
      have ev : Ev C l (FW n0 s.heap) ρ s ρ H { s with heap := h' } := Ev.ofZ st hn gk hp fz fi1 fi2 hg hTO' zk hsz ⟨rfl, rfl, rfl⟩
      have mv : ∀ {v y}, RepV ρ s.heap v y → RepV ρ h' v y := fun r => r.ev st ev fun _ w => w.nt
      have rT : RepV ρ h' (.tup [x, y]) (.ref s.heap.objs.size) := .tup (st.fresh (Nat.le_refl _)) hT rfl rfl (.cons (mv rx) (.cons (mv ry) .nil))
      refine hQ _ _ ev ⟨g0, g1, hz', ?_, zk _ _ D.TIz D.TITO D.TIi1 D.TIi2 hTI, hi1', hi2', mv ra, mv rb, .ref hp⟩ rT
      rcases hg0 with rfl | rfl | rfl
      · exact hf.imp id fun ⟨T, vs, e, r⟩ => ⟨T, vs, e, mv r⟩
      · exact .inl rfl
      · exact .inr ⟨_, _, rfl, rT⟩
    have go : ∀ (h' : Heap) (g0 g1 a1 b1 : _), ZipAt h' z TI TO g0 g1 → (g0 = f0 ∨ g0 = .none ∨ g0 = rawInt s.heap.objs.size) → IsPair h' TO a1 b1 → IsSqIt (sqB a) h' i1 l1 (i + 1) → IsSqIt (sqB b) h' i2 l2 (i + 1) → IsPair h' s.heap.objs.size xv yv →
        s.heap.objs.size ≤ h'.objs.size → ZKeep z TO i1 i2 s.heap h' → wpAny (model C.prog C.w) A (letOwnedTupleGo tgt (.ref z) (.ref s.heap.objs.size)) (fun _ s2 => Q (.ref s.heap.objs.size) s2) E { s with heap := h' } := by
      intro h' g0 g1 a1 b1 hz' hg0 hTO' hi1' hi2' hT hsz zk
      refine letOwned_zip (s := { s with heap := h' }) hz' fun h'' g0' hz'' hg sb => ?_
      have sz : h''.objs.size = h'.objs.size := sb.1
      refine done h'' g0' g1 a1 b1 hz'' ?_ (sb.extBut _ _ D.TOz hTO') (hi1'.at fun o => sb.extBut _ o D.i1z) (hi2'.at fun o => sb.extBut _ o D.i2z) (sb.extBut _ _ (ltT hz) hT) (by omega) fun c o c1 c2 c3 c4 e => sb.extBut _ _ c1 (zk c o c1 c2 c3 c4 e)
      rcases hg with rfl | rfl
      · exact hg0
      · exact .inr (.inl rfl)
    rcases hf with rfl | ⟨T, vs, rfl, rT⟩
    · refine pyNext_zip hz (fun A' hA' => wpAny_mono (zip_owned D hz hTI hg hi1 hi2 sq1 sq2 hxv hyv fun h' q1 q2 q3 q4 q5 q6 q7 => ?_) (fun fin s' zz => zz) fun _ _ zz => zz) hh
      exact ⟨_, rfl, go h' _ _ _ _ q1 (.inr (.inr rfl)) q2 q3 q4 q5 (by omega) q7⟩
    · cases rT with
      | tup hm gT _ _ _ =>
        refine pyNext_zip hz (fun A' hA' => wpAny_mono (zip_fresh D hz gT hTI hi1 hi2 sq1 sq2 hxv hyv fun h' g1 q1 q3 q4 q5 q6 q7 => ?_) (fun fin s' zz => zz) fun _ _ zz => zz) hh
        exact ⟨_, rfl, go h' _ _ _ _ q1 (.inl rfl) (q7 _ _ D.TOz D.TOi1 D.TOi2 hg) q3 q4 q5 (by omega) fun c o c1 _ c3 c4 e => q7 c o c1 c3 c4 e⟩
  stop := by
    rintro ρ H s Q E st ⟨ga, gb, gk⟩ ⟨f0, f1, hz, hf, hTI, hi1, hi2, ra, rb, rk⟩ hQ
    obtain ⟨_, it1, e1, sq1, rs1⟩ := sq_at st ra ga
    cases e1
    obtain ⟨_, it2, e2, sq2, rs2⟩ := sq_at st rb gb
    cases e2
    cases rk with
    | ref hp =>
    rename_i dd
    obtain ⟨_, hp', hed, o, hg, a0, b0, rfl⟩ := (let ⟨p, hp', r⟩ := st.at gk; ⟨p, hp', r⟩ : ∃ p, ρ[k]? = some p ∧ RepO C ρ s.heap .opq p.1 p.2)
    rw [hp] at hp'
    cases hp'
    dsimp only at hed hg
    subst hed
    have fz : FW n0 s.heap z := ⟨h4, _, _, hz, rfl⟩
    have fi1 : FW n0 s.heap i1 := by obtain ⟨o, g, _, dd⟩ := hi1; exact ⟨h1, o, _, g, dd⟩
    have fi2 : FW n0 s.heap i2 := by obtain ⟨o, g, _, dd⟩ := hi2; exact ⟨h2, o, _, g, dd⟩
    have hend : it1[(zipV xs ys).length]? = none ∨ it2[(zipV xs ys).length]? = none := by
      have q1 : xs.length = it1.size := rs1.length.trans Array.length_toList
      have q2 : ys.length = it2.size := rs2.length.trans Array.length_toList
      rcases @zipV_end xs ys with h | h
      · left; rw [List.getElem?_eq_none_iff] at h; rw [Array.getElem?_eq_none_iff]; omega
      · right; rw [List.getElem?_eq_none_iff] at h; rw [Array.getElem?_eq_none_iff]; omega
    have hf' : f0 = .none ∨ ∃ (T : Addr) (oT : Obj), f0 = rawInt T ∧ s.heap.get? T = some oT := hf.imp id fun ⟨T, vs, e, r⟩ => by
      cases r with
      | tup hm gT _ _ _ => exact ⟨T, _, e, gT⟩
    refine wpAny_sz (pyNext_zip hz (fun A' hA' => zip_end hA' D hz hf' hTI hg hi1 hi2 sq1 sq2 hend fun h' e zk hTO' he => ?_) hh)
    obtain ⟨oe, ge, ce⟩ := he
    obtain ⟨a1, b1, hTO'⟩ := hTO'
    refine ⟨e, oe, rfl, ge, ce, fun hsz => ⟨rfl, hQ _ (Ev.ofZ st hn gk hp fz fi1 fi2 hg hTO' zk hsz ⟨rfl, rfl, rfl⟩)⟩⟩

theorem ne_nat {a b : Nat} (h : a ≠ b) : @Ne Addr a b := h
theorem zap (n l1 l2 : Nat) (a1 : l1 < n) (a2 : l2 < n) : ZApart (n + 4) (n + 2) (n + 3) n (n + 1) l1 l2 := by
  constructor <;> exact ne_nat (by omega)
theorem zipF_ne (n b : Nat) (h : zipF (n + 4) (n + 2) n (n + 1) b) : b ≠ n + 3 := by
  have : b = n + 4 ∨ b = n + 2 ∨ b = n ∨ b = n + 1 := h
  omega
end
end MP
namespace MP
theorem zip_no_len : typeLookup (.type "zip") "__len__" = pure none := by rw [typeLookup_type, builtinLookup_eq_fast]; kernel_rfl
theorem zip_no_hint : typeLookup (.type "zip") "__length_hint__" = pure none := by rw [typeLookup_type, builtinLookup_eq_fast]; kernel_rfl
section
variable {C : Cx} {d : Nat} {sc : Scope}

theorem take_push {α : Type} {l : List α} {i : Nat} {v : α} (h : l[i]? = some v) : l.take i ++ [v] = l.take (i + 1) := by
  rw [List.take_add_one, h]; rfl

theorem extend_loop {A : Around} {l : List Env} {I S : Addr} {n0 : Nat} {x : Str} {px : Pos} {Fp : Addr → Prop} {items : List V} {G : Hp → Prop} {P : Nat → Rho → Heap → Prop} {R : Result → Shared → Prop} {ρ0 ρ : Rho} {H : Hp} {s0 : Shared} {res : Value}
    (T : Itr C A.in1 l (.Name x px) n0 I Fp items G P) (hn : s0.heap.objs.size ≤ n0) (hG : ∀ acc, G (H ++ [.list acc])) (hlen : items.length ≤ 1000000) (hp : ρ[H.length]? = some (S, S)) (hF : ∀ b, Fp b → ¬ muts ρ b)
    (hR : ∀ s', Ev C l No ρ0 s0 ρ (H ++ [.list items]) s' → R (.ok (.ret res)) s') :
    ∀ (k i : Nat) (s : Shared), items.length - i = k → i ≤ items.length → Ev C l No ρ0 s0 ρ (H ++ [.list (items.take i)]) s → P i ρ s.heap →
      codeAny (model C.prog C.w) A (.builtin "list.extend.loop" ⟨[.ref S, .ref I, res], []⟩) R s := by
  intro k
  induction k with
  | zero =>
    intro i s hk hi e p
    have hin : i = items.length := by omega
    subst hin
    rw [List.take_length] at e
    refine codeAny_builtin F.entry_extend_loop ?_
    rw [Around.under_plainId F.plain_extend_loop _]
    show wpAny _ A.in1 (pyNext (.ref I) >>= _) _ _ s
    refine wpAny_bind (wpAny_mono (T.stop ρ _ s (fun s' => R (.ok (.ret res)) s') _ e.st (hG _) p fun s' e' => hR s' (e.transF e' hn)) (fun r s' z => by obtain ⟨rfl, z⟩ := z; exact wpAny_pure z) fun _ _ z => z)
  | succ k ih =>
    intro i s hk hi e p
    have hlt : i < items.length := by omega
    have hv : items[i]? = some items[i] := List.getElem?_eq_getElem hlt
    refine codeAny_builtin F.entry_extend_loop ?_
    rw [Around.under_plainId F.plain_extend_loop _]
    show wpAny _ A.in1 (pyNext (.ref I) >>= _) _ _ s
    refine wpAny_bind (wpAny_mono (T.item i items[i] ρ _ s (fun y s' => wpAny (model C.prog C.w) A.in1 (updateSeq S (·.push y) >>= fun _ => again (.builtin "list.extend.loop" ⟨[.ref S, .ref I, res], []⟩)) _ _ s') _ e.st (hG _) p hv fun y s' e' p' r' => ?_) (fun r s' z => by
      obtain ⟨y, rfl, z⟩ := z
      show wpAny _ _ (letOwnedTupleGo (.Name x px) (.ref I) y >>= fun _ => (updateSeq S (·.push y) >>= fun _ => again (.builtin "list.extend.loop" ⟨[.ref S, .ref I, res], []⟩))) _ _ _
      exact wpAny_bind z) fun _ _ z => z)
    have e1 := e.transF e' hn
    have ho : (H ++ [AObj.list (items.take i)])[H.length]? = some (.list (items.take i)) := by simp
    obtain ⟨items', hl', rs, hsz, ⟨n, sl, g⟩, _⟩ := rep_list e1.st ho hp
    have hm : muts ρ S := ⟨_, List.mem_of_getElem? hp, .inl rfl⟩
    have hsz' : items'.size = i := by rw [hsz, List.length_take]; omega
    refine wpAny_bind (wpAny_updateSeq g rfl ?_ (by rw [sizeLine_eq]; omega) (by show (items'.push y).size ≤ sizeLine + 1; rw [Array.size_push, sizeLine_eq]; omega))
    have sb : Heap.SameBut S s'.heap (s'.heap.update S (Obj.mapSeq (·.push y))) := Heap.SameBut.update ..
    have eo : Obj.mapSeq (·.push y) ⟨.type "list", none, .seq items' n, sl⟩ = ⟨.type "list", none, .seq (items'.push y) (n + 1), sl⟩ := by simp [Obj.mapSeq]
    have g' : (s'.heap.update S (Obj.mapSeq (·.push y))).get? S = some ⟨.type "list", none, .seq (items'.push y) (n + 1), sl⟩ := by rw [Heap.get?_update_self _ g (by rw [eo]; rfl), eo]
    have e2 : Ev C l No ρ s' ρ ((H ++ [AObj.list (items.take i)]).set H.length (AObj.list (items.take i ++ [items[i]]))) { s' with heap := s'.heap.update S (Obj.mapSeq (·.push y)) } := by
      refine Ev.put e1.st hp (.inl rfl) (.sameBut sb) ⟨rfl, rfl, rfl⟩ ⟨rfl, _, _, sl, g', ?_⟩
      rw [Array.toList_push]
      exact (rs.append (.cons r' .nil)).put sb hm
    rw [take_push hv, List.set_append_right _ _ (Nat.le_refl _), Nat.sub_self] at e2
    refine wpAny_pure ⟨plainId_quiet F.plain_extend_loop _, ih (i + 1) _ (by omega) (by omega) (e1.trans e2) (T.frame _ _ _ _ _ p' (fun b o hb g => sb.extBut _ _ (fun z => hF b hb (z ▸ hm)) g) fun _ _ r => r.ev0 e1.st e2)⟩

theorem call_list_zip {A : Around} {l : List Env} {z TI TO : Addr} {f0 f1 : Value} {n0 : Nat} {x : Str} {px : Pos} {Fp : Addr → Prop} {items : List V} {G : Hp → Prop} {P : Nat → Rho → Heap → Prop} {Q E : Value → Shared → Prop} {ρ0 ρ : Rho} {H : Hp} {s0 s : Shared}
    (hz : ZipAt s.heap z TI TO f0 f1) (hzF : Fp z) (T : Itr C A.in1.in1 l (.Name x px) n0 z Fp items G P) (hn : s0.heap.objs.size ≤ n0) (hG : ∀ acc, G (H ++ [.list acc])) (hlen : items.length ≤ 1000000) (hF : ∀ b, Fp b → ¬ muts ρ b)
    (e : Ev C l No ρ0 s0 ρ H s) (p : P 0 ρ s.heap) (hQ : ∀ ρ' s', Ev C l No ρ0 s0 ρ' (H ++ [.list items]) s' → RepV ρ' s'.heap (.ref H.length) (.ref s.heap.objs.size) → Q (.ref s.heap.objs.size) s') :
    wpAny (model C.prog C.w) A (call (.type "list") [.ref z]) Q E s := by
  have frS : ∀ b, Fp b → b < s.heap.objs.size := fun b hb => let ⟨_, o, g⟩ := T.foot 0 ρ _ b p hb; Heap.lt_size g
  refine callType_codes (Q₁ := fun obj s₁ => obj = .ref s.heap.objs.size ∧ s₁ = { s with heap := s.heap.push { cls := .type "list", data := .seq #[] } }) F.called_list (F.typeCall_list_1 _) F.entry_list_init
    (code_list_new _ ⟨rfl, rfl⟩) fun obj s₁ h₁ => ?_
  obtain ⟨rfl, rfl⟩ := h₁
  have hS : (s.heap.push { cls := .type "list", data := .seq #[] }).get? s.heap.objs.size = some { cls := .type "list", data := .seq #[] } := Heap.get?_push_size _ rfl
  refine ⟨⟨_, hS, rfl⟩, F.args_list_init_2 _ _, ?_⟩
  have k1 : ∀ b o, s.heap.get? b = some o → (s.heap.push { cls := .type "list", data := .seq #[] }).get? b = some o := fun b o g => Heap.get?_push_of_some _ g
  have sz1 : (s.heap.push { cls := .type "list", data := .seq #[] }).objs.size = s.heap.objs.size + 1 := Heap.size_push ..
  generalize hS0 : s.heap.objs.size = S at hS ⊢ hQ k1 sz1 frS
  generalize s.heap.push { cls := .type "list", data := .seq #[] } = h1 at hS k1 sz1 ⊢
  have notS : ∀ b o, s.heap.get? b = some o → b ≠ S := fun b o g => by have := Heap.lt_size g; rw [hS0] at this; exact Nat.ne_of_lt this
  have pAt : ∀ h' : Heap, (∀ b o, s.heap.get? b = some o → h'.get? b = some o) → s.heap.objs.size ≤ h'.objs.size → P 0 ρ h' := fun h' k sz =>
    T.frame 0 ρ ρ _ _ p (fun b o _ g => k b o g) fun _ _ r => r.keep (W := No) (X := No) ⟨sz, fun b o g _ => ⟨o.slots, k b o g, fun _ => rfl⟩⟩ (fun _ h => h.elim) fun _ _ z => z
  show wpAny _ A.in1.in1 (do let old ← Builtin.List.listItems (.ref S); Builtin.List.listUpdate (.ref S) (fun _ => #[]); letGo old.toList.reverse; Builtin.List.listExtendWith (.ref S) (.ref z) .none) _ _ _
  refine wpAny_bind ?_
  unfold Builtin.List.listItems
  refine wpAny_bind (wpAny_seqItems hS rfl (wpAny_pure ?_))
  show wpAny _ A.in1.in1 (updateSeq S (fun _ => #[]) >>= fun _ => letGo (#[] : Array Value).toList.reverse >>= fun _ => Builtin.List.listExtendWith (.ref S) (.ref z) .none) _ _ _
  refine wpAny_bind (wpAny_updateSeq hS rfl ?_)
  have hS₂ := Heap.get?_update_self (Obj.mapSeq (fun _ => (#[] : Array Value))) hS rfl
  have k2 : ∀ b o, s.heap.get? b = some o → (h1.update S (Obj.mapSeq (fun _ => (#[] : Array Value)))).get? b = some o := fun b o g => (Heap.get?_update_other _ _ (Ne.symm (notS b o g))).trans (k1 b o g)
  have sz2 : (h1.update S (Obj.mapSeq (fun _ => (#[] : Array Value)))).objs.size = S + 1 := by rw [Heap.size_after_update, sz1]
  generalize h1.update S (Obj.mapSeq (fun _ => (#[] : Array Value))) = h2 at hS₂ k2 sz2 ⊢
  refine wpAny_bind (wpAny_letGo ?_)
  have hT : (Shared.mk h2 s.gens s.drawn s.toks s.os).TypeIs (.ref z) "zip" := ⟨_, k2 _ _ hz, rfl⟩
  have hSz : S ≠ z := (notS _ _ hz).symm
  unfold Builtin.List.listExtendWith
  refine wpAny_bind (wpAny_typeOf hT ?_)
  have b1 : Builtin.List.listSameRef (.ref S) (.ref z) = false := by simp [Builtin.List.listSameRef, hSz]
  have b2 : (Value.type "zip" == Value.type "list") = false := by decide
  have b3 : (Value.type "zip" == Value.type "tuple") = false := by decide
  simp only [b1, b2, b3, Bool.or_false, Bool.false_eq_true, if_false]
  refine wpAny_bind (T.self 0 ρ ⟨h2, s.gens, s.drawn, s.toks, s.os⟩ _ _ (pAt h2 k2 (by rw [sz2, hS0]; exact Nat.le_succ _)) ?_)
  refine wpAny_bind (wpAny_holding ?_)
  unfold Builtin.List.listLengthHint
  refine wpAny_bind (wpAny_specialOf hT zip_no_len ?_)
  show wpAny _ A.in1.in1 (specialOf (Value.ref z) (Str.ofString "__length_hint__") >>= _) _ _ _
  refine wpAny_bind (wpAny_specialOf hT zip_no_hint ?_)
  refine wpAny_pure ?_
  show wpAny _ A.in1.in1 (rule "list.extend.makes-room" >>= fun _ => Builtin.List.listTouch (.ref S) >>= fun _ => again (.builtin "list.extend.loop" ⟨[.ref S, .ref z, .none], []⟩)) _ _ _
  refine wpAny_bind (wpAny_rule ?_)
  refine wpAny_bind ?_
  show wpAny _ A.in1.in1 (updateSeq S (·.push .none) >>= fun _ => updateSeq S (·.pop)) _ _ _
  refine wpAny_bind (wpAny_updateSeq hS₂ rfl ?_)
  have hS₃ := Heap.get?_update_self (Obj.mapSeq (·.push Value.none)) hS₂ rfl
  refine wpAny_updateSeq (hz := by seq_fits) hS₃ rfl ?_
  have hS₄ := Heap.get?_update_self (Obj.mapSeq (·.pop)) hS₃ rfl
  have k4 : ∀ b o, s.heap.get? b = some o → ((h2.update S (Obj.mapSeq (·.push Value.none))).update S (Obj.mapSeq (·.pop))).get? b = some o := fun b o g =>
    (Heap.get?_update_other _ _ (Ne.symm (notS b o g))).trans ((Heap.get?_update_other _ _ (Ne.symm (notS b o g))).trans (k2 b o g))
  have sz4 : ((h2.update S (Obj.mapSeq (·.push Value.none))).update S (Obj.mapSeq (·.pop))).objs.size = S + 1 := by rw [Heap.size_after_update, Heap.size_after_update, sz2]
  generalize (h2.update S (Obj.mapSeq (·.push Value.none))).update S (Obj.mapSeq (·.pop)) = h4 at hS₄ k4 sz4 ⊢
  have le4 : s.heap.objs.size ≤ h4.objs.size := by rw [sz4, hS0]; exact Nat.le_succ _
  have eG : Ev C l No ρ s (ρ ++ [(S, S)]) (H ++ [.list []]) { s with heap := h4 } :=
    Ev.grow e.st ⟨le4, fun b o g _ => ⟨o.slots, k4 b o g, fun _ => rfl⟩⟩ ⟨rfl, rfl, rfl⟩ ⟨Nat.le_of_eq hS0, Nat.le_of_eq hS0⟩ ⟨rfl, _, _, _, hS₄, .nil⟩
  have hp : (ρ ++ [(S, S)])[H.length]? = some (S, S) := by rw [← e.st.rep.len]; simp
  have pG : P 0 (ρ ++ [(S, S)]) h4 := T.frame 0 ρ _ _ _ p (fun b o _ g => k4 b o g) fun _ _ r => r.ev0 e.st eG
  refine wpAny_pure ⟨plainId_quiet F.plain_extend_loop _, extend_loop (A := A.in1) T hn hG hlen hp (fun b hb z => ?_) (fun s' e' => ⟨rfl, hQ _ s' e' (.ref hp)⟩) items.length 0 _ (by omega) (Nat.zero_le _) (by rw [List.take_zero]; exact e.trans eG) pG⟩
  rcases muts_append.mp z with z | ⟨q, hq, z⟩
  · exact hF b hb z
  · rw [List.mem_singleton.mp hq] at z
    have : b < S := frS b hb
    rcases z with rfl | rfl <;> exact absurd this (Nat.lt_irrefl _)
end
end MP
namespace MP
section
variable {C : Cx} {d : Nat} {sc : Scope}

theorem sqOf_append {H t : Hp} {a : V} {xs : List V} (h : sqOf H a = some xs) : sqOf (H ++ t) a = some xs := by
  cases a with
  | ref j =>
    unfold sqOf at h ⊢
    dsimp only at h ⊢
    cases hj : H[j]? with
    | none => rw [hj] at h; cases h
    | some o =>
      rw [List.getElem?_append_left (List.getElem?_eq_some_iff.mp hj).1, hj]
      rw [hj] at h
      exact h
  | tup vs => exact h
  | _ => cases h

theorem eval_zip {A : Around} {env : Env} {l : List Env} {m : Fm} {ρ : Rho} {H : Hp} {s : Shared} {Q E : Value → Shared → Prop} {x np es pos g} (O : C.Ok) (hn : NameIs C sc x (.type "zip")) (hs : es.all noStar = true) (h : SimL C d sc es g)
    (hb : Bud d A) (ha : A.frames = some l) (he : env.scope = sc) (fr : FrOk C env l m ρ s.heap) (st : St C l ρ H s)
    (p : match g m H with
      | .bad => False
      | .exc H1 => ∀ ρ' e s', Ev C l No ρ s ρ' H1 s' → Fly C env.frame s.heap.objs.size e s'.heap → E (.ref e) s'
      | .ok vs H1 => ∃ a b xs ys, vs = [a, b] ∧ sqOf H1 a = some xs ∧ sqOf H1 b = some ys ∧ ∀ ρ1 z TI TO i1 i2 l1 l2 s2, Ev C l No ρ s ρ1 (H1 ++ [.opq]) s2 → ZApart z TI TO i1 i2 l1 l2 →
          (s.heap.objs.size ≤ i1 ∧ s.heap.objs.size ≤ i2 ∧ s.heap.objs.size ≤ TI ∧ s.heap.objs.size ≤ z) → zipP a b H1.length z TI TO i1 i2 l1 l2 0 ρ1 s2.heap → (∀ b, zipF z TI i1 i2 b → ¬ muts ρ1 b) → Q (.ref z) s2) :
    wpAny (model C.prog C.w) A (eval (.Call (.Name x np) es [] pos) env) Q E s := by
  refine wpAny_Call_ofName ?_
  have rest : wpAny (model C.prog C.w) A (callWith pos (.type "zip") [] (backTo pos (starEach es env)) (backToKw pos (keywordEach [] env))) Q E s := by
    refine callWith_any (h₀ := C.h0) (k := .machine) hs (Looks.of_pure rfl) (h A env l m ρ H s _ E pos hb ha he fr st ?_)
    cases o : g m H with
    | bad => rw [o] at p; exact p.elim
    | exc H1 => rw [o] at p; exact p
    | ok vs H1 =>
      rw [o] at p
      intro ρ1 ys s1 e1 r1
      refine ⟨e1.st.old, ?_⟩
      have fr1 := fr.ev st e1
      obtain ⟨a, b, xs, ys', rfl, ga, gb, p⟩ := p
      cases r1 with
      | cons r rs =>
      cases rs with
      | cons r' rs =>
      cases rs
      obtain ⟨l1, it1, rfl, sq1, rs1⟩ := sq_at e1.st r ga
      obtain ⟨l2, it2, rfl, sq2, rs2⟩ := sq_at e1.st r' gb
      have lt1 : l1 < s1.heap.objs.size := by obtain ⟨o, g, _⟩ := sq1; exact Heap.lt_size g
      have lt2 : l2 < s1.heap.objs.size := by obtain ⟨o, g, _⟩ := sq2; exact Heap.lt_size g
      refine call_zip_sq sq1 sq2 fun h' q1 q2 q3 q4 q5 q6 q7 => ?_
      have e2 : Ev C l No ρ1 s1 (ρ1 ++ [(s1.heap.objs.size + 3, s1.heap.objs.size + 3)]) (H1 ++ [.opq]) { s1 with heap := h' } :=
        Ev.grow e1.st ⟨by show _ ≤ h'.objs.size; omega, fun b o e _ => ⟨o.slots, q7 b o e, fun _ => rfl⟩⟩ ⟨rfl, rfl, rfl⟩ ⟨Nat.le_add_right _ _, Nat.le_add_right _ _⟩ ⟨rfl, _, q3, _, _, rfl⟩
      have hs0 := e1.keep.1
      refine p _ _ _ _ _ _ _ _ _ (e1.trans e2) (zap _ _ _ lt1 lt2) ⟨hs0, by omega, by omega, by omega⟩ ⟨.none, .bool false, q1, .inl rfl, q2, q4, q5, r.ev0 e1.st e2, r'.ev0 e1.st e2, .ref (d := s1.heap.objs.size + 3) ?_⟩ fun b hF z => ?_
      · rw [← e1.st.rep.len]; simp
      · rcases muts_append.mp z with z | ⟨q, hq, z⟩
        · have := e1.st.muts_lt z
          rcases hF with rfl | rfl | rfl | rfl <;> first | exact absurd this (Nat.lt_irrefl _) | exact absurd this (Nat.not_lt.mpr (Nat.le_add_right _ _))
        · rw [List.mem_singleton.mp hq] at z
          have z' : b = s1.heap.objs.size + 3 := z.elim id id
          exact zipF_ne _ _ hF z'
  obtain ⟨hg, hn | ⟨h1, h2⟩⟩ := hn
  · exact name_glob O hg hn he fr st rest
  · exact name_bi O hg h1 h2 he fr st rest

/-- list(zip(a, b)) -/
noncomputable def fListZip (g : Fm → Hp → Out (List V)) : FE := fun m H => (g m H).bind fun vs H1 => match vs with
  | [a, b] => (match sqOf H1 a, sqOf H1 b with
    | some xs, some ys => newL (zipV xs ys) (H1 ++ [.opq])
    | _, _ => .bad)
  | _ => .bad
set_option tactic.hygienic true in
theorem simE_listzip {x np y np' es pos pos' g} (O : C.Ok) (hn : NameIs C sc x (.type "list")) (hn' : NameIs C sc y (.type "zip")) (hs : es.all noStar = true) (h : SimL C d sc es g) :
    SimE C d sc (.Call (.Name x np) [.Call (.Name y np') es [] pos'] [] pos) (fListZip g) := by
  intro A env l m ρ H s Q E hb ha he fr st p
  refine wpAny_Call_ofName ?_
  have rest : wpAny (model C.prog C.w) A (callWith pos (.type "list") [] (backTo pos (starEach [.Call (.Name y np') es [] pos'] env)) (backToKw pos (keywordEach [] env))) Q E s := by
    refine callWith_any (h₀ := C.h0) (k := .machine) rfl (Looks.of_pure rfl) ?_
    rw [starEach_cons rfl]
    show wpAny _ _ (do let v ← eval (.Call (.Name y np') es [] pos') env; let here ← pure [v]; return here ++ (← holding here (spliced (backTo pos (starEach [] env))))) _ E s
    refine wpAny_bind (eval_zip O hn' hs h hb ha he fr st ?_)
    unfold fListZip at p
    cases o : g m H with
    | bad => rw [o] at p; exact p.elim
    | exc H1 => rw [o] at p; exact p
    | ok vs H1 =>
      rw [o] at p
      dsimp only [Out.bind] at p ⊢
      split at p
      · rename_i a b
        split at p
        · rename_i xs ys ga gb
          refine ⟨a, b, xs, ys, rfl, ga, gb, fun ρ1 z TI TO i1 i2 l1 l2 s2 e D hn0 hP hF => ?_⟩
          refine wpAny_bind (wpAny_pure (wpAny_bind (wpAny_holding (wpAny_pure (wpAny_pure ⟨e.st.old, ?_⟩)))))
          unfold newL at p
          by_cases hlen : (zipV xs ys).length ≤ 1000000
          · rw [if_pos hlen] at p
            have hP0 := hP
            obtain ⟨f0, f1, hz, _⟩ := hP0
            refine call_list_zip (x := x) (px := np) hz (.inl rfl) (itr_zip hb.2.2 st.lo D hn0.1 hn0.2.1 hn0.2.2.1 hn0.2.2.2) (Nat.le_refl _) (fun acc => ⟨?_, ?_, ?_⟩) hlen hF e hP fun ρ' s' e' r' => p ρ' _ s' e' r'
            · rw [List.append_assoc]; exact sqOf_append ga
            · rw [List.append_assoc]; exact sqOf_append gb
            · simp
          · rw [if_neg hlen] at p; exact p.elim
        · exact p.elim
      · exact p.elim
  obtain ⟨hg, hn | ⟨h1, h2⟩⟩ := hn
  · exact name_glob O hg hn he fr st rest
  · exact name_bi O hg h1 h2 he fr st rest
end
end MP
namespace MP
theorem args_sum2 (a b : Value) : argsOk "sum" ⟨[a, b], []⟩ := by unfold argsOk; kernel_rfl
theorem sub_list_str : isSubtype (.type "list") (.type "str") = pure false := by rw [isSubtype_type]; kernel_rfl
theorem sub_list_bytes : isSubtype (.type "list") (.type "bytes") = pure false := by rw [isSubtype_type]; kernel_rfl
theorem sub_list_bytearray : isSubtype (.type "list") (.type "bytearray") = pure false := by rw [isSubtype_type]; kernel_rfl
theorem Bud.in1 {d : Nat} {A : Around} (b : Bud (d + 1) A) : Bud d A.in1 := by
  obtain ⟨h1, h2, h3⟩ := b
  refine ⟨?_, ?_, h3⟩
  · show A.depth + 2 * d < 900; omega
  · show A.units + 1 + 20 * d < 9800; omega
section
variable {C : Cx} {d : Nat} {sc : Scope}

open Classical in
noncomputable def sumL (G : Hp → Prop) (k : Nat) : List V → V → Hp → Out V
  | [], t, H => if G H then .ok t H else .bad
  | v :: r, t, H => if G H then (match t with
    | .ref _ => (oAdd t v H).bind fun t' H1 => (match H1[k]? with
      | some (.list [_]) => sumL G k r t' (H1.set k (.list [t']))
      | _ => .bad)
    | _ => .bad) else .bad
noncomputable def bSum (vs : List V) (H : Hp) : Out V := match vs with
  | [.ref i, .ref j] => (match H[i]?, H[j]? with
    | some (.list xs), some (.list _) => sumL (fun H => H[i]? = some (.list xs)) H.length xs (.ref j) (H ++ [.list [.ref j]])
    | _, _ => .bad)
  | _ => .bad

theorem upd1 {A : Around} {prog w} {E : Value → Shared → Prop} {s : Shared} {S : Addr} {items : Array Value} {n : Nat} {sl : Array (Option Value)} {y : Value} {Q : Unit → Shared → Prop} (g : s.heap.get? S = some ⟨.type "list", none, .seq items n, sl⟩) (hz : items.size ≤ 1000000)
    (h : ∀ h' n', h'.get? S = some ⟨.type "list", none, .seq #[y] n', sl⟩ → Heap.SameBut S s.heap h' → Q () { s with heap := h' }) : wpAny (model prog w) A (updateSeq S (fun _ => #[y])) Q E s := by
  have eo : ∃ n', Obj.mapSeq (fun _ => #[y]) ⟨.type "list", none, .seq items n, sl⟩ = ⟨.type "list", none, .seq #[y] n', sl⟩ := ⟨_, rfl⟩
  obtain ⟨n', eo⟩ := eo
  exact wpAny_updateSeq g rfl (h _ n' (by rw [Heap.get?_update_self _ g (by rw [eo]; rfl), eo]) (Heap.SameBut.update ..)) (by rw [sizeLine_eq]; omega)

theorem wpAny_unpure {α : Type} {M : Model} {A : Around} {R : Sem α} {Qf : α → Shared → Prop} {Ef : Value → Shared → Prop} {s : Shared} (z : wpAny M A (pure () : Sem Unit) (fun _ s2 => wpAny M A R Qf Ef s2) (fun _ _ => False) s) : wpAny M A R Qf Ef s := by
  show wpAny M A ((pure () : Sem Unit) >>= fun _ => R) Qf Ef s
  exact wpAny_bind (wpAny_mono z (fun _ _ h => h) fun _ _ h => h.elim)
theorem Itr.next {α : Type} {A : Around} {l : List Env} {n0 : Nat} {I : Addr} {x : Str} {px : Pos} {Fp : Addr → Prop} {items : List V} {G : Hp → Prop} {P : Nat → Rho → Heap → Prop} {i : Nat} {v : V} {ρ : Rho} {H : Hp} {s : Shared} {k : Option Value → Sem α} {Qf : α → Shared → Prop} {E Ef : Value → Shared → Prop}
    (T : Itr C A l (.Name x px) n0 I Fp items G P) (st : St C l ρ H s) (g : G H) (p : P i ρ s.heap) (hv : items[i]? = some v)
    (q : ∀ y s', Ev C l (FW n0 s.heap) ρ s ρ H s' → P (i + 1) ρ s'.heap → RepV ρ s'.heap v y → wpAny (model C.prog C.w) A (k (some y)) Qf Ef s') :
    wpAny (model C.prog C.w) A (pyNext (.ref I)) (fun r s1 => wpAny (model C.prog C.w) A (k r) Qf Ef s1) E s :=
  wpAny_mono (T.item i v ρ H s (fun y s' => wpAny (model C.prog C.w) A (k (some y)) Qf Ef s') (fun _ _ => False) st g p hv q) (fun r s' z => by obtain ⟨y, rfl, z⟩ := z; exact wpAny_unpure z) fun _ _ h => h.elim
theorem Itr.ends {α : Type} {A : Around} {l : List Env} {tgt : Expr} {n0 : Nat} {I : Addr} {Fp : Addr → Prop} {items : List V} {G : Hp → Prop} {P : Nat → Rho → Heap → Prop} {ρ : Rho} {H : Hp} {s : Shared} {k : Option Value → Sem α} {Qf : α → Shared → Prop} {E Ef : Value → Shared → Prop}
    (T : Itr C A l tgt n0 I Fp items G P) (st : St C l ρ H s) (g : G H) (p : P items.length ρ s.heap) (q : ∀ s', Ev C l (FW n0 s.heap) ρ s ρ H s' → wpAny (model C.prog C.w) A (k none) Qf Ef s') :
    wpAny (model C.prog C.w) A (pyNext (.ref I)) (fun r s1 => wpAny (model C.prog C.w) A (k r) Qf Ef s1) E s :=
  wpAny_mono (T.stop ρ H s (fun s' => wpAny (model C.prog C.w) A (k none) Qf Ef s') (fun _ _ => False) st g p q) (fun r s' z => by obtain ⟨rfl, z⟩ := z; exact z) fun _ _ h => h.elim
theorem Itr.stay {A l tgt n0 I Fp items G P} {i : Nat} {ρ ρ' : Rho} {H H' : Hp} {s s' : Shared} (T : Itr C A l tgt n0 I Fp items G P) (hn : ∀ b, inFr l b → ¬ n0 ≤ b) (st : St C l ρ H s) (p : P i ρ s.heap ∧ ∀ b, Fp b → ¬ muts ρ b) (x : Ev C l No ρ s ρ' H' s') : P i ρ' s'.heap ∧ ∀ b, Fp b → ¬ muts ρ' b :=
  ⟨T.frame i ρ ρ' _ _ p.1 (fun b o hF g => x.keep.exact g (fun z => z.elim (p.2 b hF) id) fun z => hn b z (T.foot i ρ _ b p.1 hF).1) fun _ _ r => r.ev0 st x,
   fun b hF => let ⟨_, o, g⟩ := T.foot i ρ _ b p.1 hF; x.nm b (Heap.lt_size g) (p.2 b hF)⟩

set_option tactic.hygienic true in
theorem sum_loop {A : Around} {l : List Env} {I S : Addr} {k n0 : Nat} {x : Str} {px : Pos} {Fp : Addr → Prop} {items : List V} {G : Hp → Prop} {P : Nat → Rho → Heap → Prop} {ρ0 : Rho} {s0 : Shared} {Q E : Value → Shared → Prop}
    (hb : Bud d A.in1) (ha : A.frames = some l) (T : Itr C A.in1 l (.Name x px) n0 I Fp items G P) (hn : s0.heap.objs.size ≤ n0) (hfr : ∀ b, inFr l b → ¬ n0 ≤ b) :
    ∀ (kk i : Nat) (ρ : Rho) (H : Hp) (s : Shared) (t : V), items.length - i = kk → i ≤ items.length → Ev C l No ρ0 s0 ρ H s → ρ[k]? = some (S, S) → H[k]? = some (.list [t]) → (P i ρ s.heap ∧ ∀ b, Fp b → ¬ muts ρ b) →
      PostE C l none ρ0 s0 Q E (sumL G k (items.drop i) t H) → codeAny (model C.prog C.w) A (.builtin "sum.loop" ⟨[.ref I, .ref S, rawInt 2, rawInt 0], []⟩) (fun r s' => match r with | .ok (.ret v) => Q v s' | .ok _ => False | .error e => E e s') s := by
  intro kk
  induction kk with
  | zero =>
    intro i ρ H s t hk hi e hp ho p post
    have hin : i = items.length := by omega
    subst hin
    rw [List.drop_length] at post
    unfold sumL at post
    by_cases hG : G H
    · rw [if_pos hG] at post
      obtain ⟨ys, hl, rs, hsz, ⟨n, sl, g⟩, _⟩ := rep_list e.st ho hp
      obtain ⟨y, hy, ry⟩ := rs.get (i := 0) rfl
      refine codeAny_builtin F.entry_sum_loop ?_
      rw [Around.under_plainId F.plain_sum_loop _]
      show wpAny _ A.in1 (seqItems? (.ref S) >>= _) _ _ s
      refine wpAny_bind (wpAny_seqItems g rfl ?_)
      have hy' : ys[0]? = some y := by rw [← Array.getElem?_toList]; exact hy
      simp only [Option.getD_some, hy']
      show wpAny _ A.in1 (tryCatch (pyNext (.ref I)) _ >>= _) _ _ s
      refine wpAny_bind (wpAny_tryCatch (T.ends e.st hG p.1 fun s' e' => ?_))
      have e1 := e.transF e' hn
      have r1 := ry.ev e.st e' fun _ w => w.nt
      cases r1 <;> exact wpAny_pure (post ρ _ s' e1 (by first | exact .none | exact .bool _ | exact .int _ _ | exact .str _ _ | exact .ref ‹_› | exact .tup ‹_› ‹_› ‹_› ‹_› ‹_›))
    · rw [if_neg hG] at post; exact post.elim
  | succ kk ih =>
    intro i ρ H s t hk hi e hp ho p post
    have hlt : i < items.length := by omega
    have hd : items.drop i = items[i] :: items.drop (i + 1) := List.drop_eq_getElem_cons hlt
    have hv : items[i]? = some items[i] := List.getElem?_eq_getElem hlt
    generalize items[i] = v at hd hv
    rw [hd] at post
    unfold sumL at post
    by_cases hG : G H
    · rw [if_pos hG] at post
      obtain ⟨ys, hl, rs, hsz, ⟨n, sl, g⟩, _⟩ := rep_list e.st ho hp
      obtain ⟨y, hy, ry⟩ := rs.get (i := 0) rfl
      refine codeAny_builtin F.entry_sum_loop ?_
      rw [Around.under_plainId F.plain_sum_loop _]
      show wpAny _ A.in1 (seqItems? (.ref S) >>= _) _ _ s
      refine wpAny_bind (wpAny_seqItems g rfl ?_)
      have hy' : ys[0]? = some y := by rw [← Array.getElem?_toList]; exact hy
      simp only [Option.getD_some, hy']
      show wpAny _ A.in1 (tryCatch (pyNext (.ref I)) _ >>= _) _ _ s
      refine wpAny_bind (wpAny_tryCatch (T.next e.st hG p.1 hv fun yv s' e' p' r' => ?_))
      have e1 := e.transF e' hn
      have r1 := ry.ev e.st e' fun _ w => w.nt
      cases r1 with
      | ref ht =>
        rename_i jt at' dt
        dsimp only at post
        show wpAny _ A.in1 ((holding [yv] (binaryOp .Add (.ref at') yv)).attempt >>= _) _ _ _
        refine wpAny_bind (wpAny_attempt (wpAny_holding (simO_add (d := d) A.in1 l (.ref jt) v (.ref at') yv ρ H s' _ _ hb ha e1.st (.ref ht) r' ?_)))
        cases oa : oAdd (.ref jt) v H with
        | bad => rw [oa] at post; exact post.elim
        | exc H1 =>
          exfalso
          unfold oAdd at oa
          cases v with
          | ref j =>
            dsimp only at oa
            split at oa
            · unfold newL at oa; split at oa <;> cases oa
            · cases oa
          | _ => cases oa
        | ok t' H1 =>
          rw [oa] at post
          dsimp only [Out.bind] at post
          intro ρ2 y2 s2 e2 r2
          have pF := T.stay hfr e1.st ⟨p', p.2⟩ e2
          have hp2 := e2.look _ _ hp
          have e12 := e1.trans e2
          split at post
          · rename_i zs ho2
            obtain ⟨ys2, hl2, rs2, hsz2, ⟨n2, sl2, g2⟩, _⟩ := rep_list e2.st ho2 hp2
            have hm : muts ρ2 S := ⟨_, List.mem_of_getElem? hp2, .inl rfl⟩
            refine wpAny_bind (upd1 g2 (by rw [hsz2]; show (1 : Nat) ≤ 1000000; decide) fun h3 n3 g3 sb3 => ?_)
            refine wpAny_bind (wpAny_letGo ?_)
            refine wpAny_bind (upd1 (s := { s2 with heap := h3 }) g3 (by show (1 : Nat) ≤ 1000000; decide) fun h4 n4 g4 sb4 => ?_)
            have sb := sb3.trans sb4
            have e3 : Ev C l No ρ2 s2 ρ2 (H1.set k (.list [t'])) { s2 with heap := h4 } := Ev.put e2.st hp2 (.inl rfl) (.sameBut sb) ⟨rfl, rfl, rfl⟩ ⟨rfl, _, _, sl2, g4, (RepVs.cons r2 .nil).put sb hm⟩
            have pF3 := T.stay hfr e2.st pF e3
            refine wpAny_pure ⟨plainId_quiet F.plain_sum_loop _, ih (i + 1) ρ2 _ _ t' (by omega) (by omega) (e12.trans e3) hp2 ?_ pF3 post⟩
            rw [List.getElem?_set_self (List.getElem?_eq_some_iff.mp ho2).1]
          · exact post.elim
      | _ => exact post.elim
    · rw [if_neg hG] at post; exact post.elim

set_option tactic.hygienic true in
theorem simF_sum : SimF C (d + 1) (.builtin "sum") bSum := by
  intro A l vs xs ρ H s Q E hb ha st r p
  unfold bSum at p
  split at p
  · rename_i i j
    split at p
    · rename_i items _ ho hoj
      cases r with
      | cons r1 rs =>
      cases rs with
      | cons r2 rs =>
      cases rs
      cases r1 with
      | ref hp =>
      cases r2 with
      | ref hp2 =>
      rename_i a1 d1 a2 d2
      obtain ⟨ys, hl, rs, hsz, _⟩ := rep_list st ho hp
      refine call_function_tree F.kind_sum F.plain_sum F.entry_sum (args_sum2 _ _) ?_
      unfold Builtin.«sum»
      simp only [List.length_cons, List.length_nil]
      rw [if_neg (by decide)]
      refine wpAny_bind (wpAny_of_eq (show Builtin.Builtins.bindParams "sum" ["start"] 0 ⟨[.ref a2], []⟩ = pure [some (.ref a2)] from rfl) ?_)
      refine wpAny_bind (wpAny_pyIter_list hl ?_)
      refine wpAny_bind (wpAny_pure ?_)
      have e1 : Ev C l No ρ s ρ H { s with heap := s.heap.push { cls := .type "list_iterator", data := .fields #[.ref a1, .int 0 0] } } := Ev.keepNo st (Keep.push ..) ⟨rfl, rfl, rfl⟩
      obtain ⟨_, _, _, _, ⟨n, sl, gj⟩, _⟩ := rep_list e1.st hoj hp2
      have hT : Shared.TypeIs { s with heap := s.heap.push { cls := .type "list_iterator", data := .fields #[.ref a1, .int 0 0] } } (.ref a2) "list" := ⟨_, gj, rfl⟩
      simp only [List.forIn_cons, List.forIn_nil]
      refine wpAny_bind (wpAny_bind (wpAny_bind (wpAny_isInstance (T := "list") (b := false) hT sub_list_str ?_)))
      simp only [Bool.false_eq_true, if_false]
      refine wpAny_pure (wpAny_bind (wpAny_bind (wpAny_isInstance (T := "list") (b := false) hT sub_list_bytes ?_)))
      simp only [Bool.false_eq_true, if_false]
      refine wpAny_pure (wpAny_bind (wpAny_bind (wpAny_isInstance (T := "list") (b := false) hT sub_list_bytearray ?_)))
      simp only [Bool.false_eq_true, if_false]
      refine wpAny_pure (wpAny_pure ?_)
      refine wpAny_bind (wpAny_newObj_type ?_ (by show (1 : Nat) ≤ sizeLine; rw [sizeLine_eq]; omega))
      have r2 : RepVs ρ (s.heap.push { cls := .type "list_iterator", data := .fields #[.ref a1, .int 0 0] }) [V.ref j] [.ref a2] := .cons (.ref hp2) .nil
      obtain ⟨e2, _⟩ := newL_at (sl := #[]) (n := 0) e1.st r2
      have T := itr_list (C := C) (l := l) (tgt := .Name (Str.ofString "x") ⟨0, 0, 0, 0⟩) (j := i) (xs := items) (a := a1) hb.in1 st.lo (Nat.le_refl s.heap.objs.size)
      have hfr : ∀ b, inFr l b → ¬ s.heap.objs.size ≤ b := fun b z => Nat.not_le.mpr (st.fr_lt z).2
      have pF := T.stay hfr e1.st (i := 0) ⟨⟨⟨_, Heap.get?_push_size _ rfl, rfl, rfl⟩, .ref hp⟩, fun b hF => hF ▸ st.fresh (Nat.le_refl _)⟩ e2
      refine wpAny_pure ⟨plainId_quiet F.plain_sum_loop _, sum_loop (x := Str.ofString "x") (px := ⟨0, 0, 0, 0⟩) hb.in1 ha T (Nat.le_refl _) hfr items.length 0 _ _ _ (.ref j) (by omega) (Nat.zero_le _) (e1.trans e2) ?_ (by simp) pF p⟩
      rw [← st.rep.len]; simp
    · exact p.elim
  · exact p.elim
end
end MP
namespace MP
section
variable {C : Cx} {d : Nat} {sc : Scope}

noncomputable def okScope (sc : Scope) (ps : List Str) : Bool := ps.all (isStore sc) && decide ps.Nodup && sc.kind == .function && !sc.isCoroutine && !sc.isGenerator
theorem simC_K {a c : Addr} {fd : FuncData} {cls : Value} {dct : Option Addr} {sl : Array (Option Value)} {ps : List Str} {body : List Stmt} {f : FS} {oc : Obj} {vs : Array Value} {t : Tok} (O : C.Ok) (hk : C.K.lookup a = some ⟨cls, dct, .func fd, sl⟩) (hcd : fd.code = .ref c) (hc : C.K.lookup c = some oc) (hv : oc.data = .fields vs)
    (hq : vs[1]? = some (.str fd.qualname t)) (hb : fd.body = .stmts body) (bind : ∀ xs : List Value, xs.length = ps.length → bindArgs fd ⟨xs, []⟩ = pure (ps.zip xs)) (hclo : fd.closure = []) (hg : fd.globals = mainGlobals) (hbu : fd.builtins = builtinsNs) (hok : okScope fd.scope ps = true)
    (h : SimB C d fd.scope body f) : SimC C (d + 1) (.ref a) (fDef ps f) := by
  unfold okScope at hok
  simp only [Bool.and_eq_true, decide_eq_true_eq, beq_iff_eq, Bool.not_eq_true'] at hok
  obtain ⟨⟨⟨⟨h1, h2⟩, h3⟩, h4⟩, h5⟩ := hok
  refine simC_def O (fd := fd) (body := body) ⟨⟨_, O.kin _ _ hk, rfl⟩, ⟨c, oc, vs, t, hcd, O.kin _ _ hc, hv, hq⟩, hb, bind, hclo, hg, hbu, h1, h2, h3, h4, h5⟩ h
theorem lenS {α : Type} {n : Nat} : ∀ {xs : List α}, xs.length = n + 1 → ∃ a r, xs = a :: r ∧ r.length = n := fun {xs} e => by
  cases xs with
  | nil => cases e
  | cons a r => exact ⟨a, r, rfl, Nat.succ.inj e⟩
theorem lenZ {α : Type} {xs : List α} (e : xs.length = 0) : xs = [] := List.eq_nil_of_length_eq_zero e
theorem bind1 {fd : FuncData} {p1 : Str} (h : ∀ a, bindArgs fd ⟨[a], []⟩ = pure [(p1, a)]) : ∀ xs : List Value, xs.length = [p1].length → bindArgs fd ⟨xs, []⟩ = pure ([p1].zip xs) := fun xs e0 => by
  obtain ⟨a, r0, rfl, e1⟩ := lenS e0
  cases lenZ e1
  exact h a
theorem bind2 {fd : FuncData} {p1 p2 : Str} (h : ∀ a b, bindArgs fd ⟨[a, b], []⟩ = pure [(p1, a), (p2, b)]) : ∀ xs : List Value, xs.length = [p1, p2].length → bindArgs fd ⟨xs, []⟩ = pure ([p1, p2].zip xs) := fun xs e0 => by
  obtain ⟨a, r0, rfl, e1⟩ := lenS e0
  obtain ⟨b, r1, rfl, e2⟩ := lenS e1
  cases lenZ e2
  exact h a b
theorem bind3 {fd : FuncData} {p1 p2 p3 : Str} (h : ∀ a b c, bindArgs fd ⟨[a, b, c], []⟩ = pure [(p1, a), (p2, b), (p3, c)]) : ∀ xs : List Value, xs.length = [p1, p2, p3].length → bindArgs fd ⟨xs, []⟩ = pure ([p1, p2, p3].zip xs) := fun xs e0 => by
  obtain ⟨a, r0, rfl, e1⟩ := lenS e0
  obtain ⟨b, r1, rfl, e2⟩ := lenS e1
  obtain ⟨c, r2, rfl, e3⟩ := lenS e2
  cases lenZ e3
  exact h a b c
theorem bind5 {fd : FuncData} {p1 p2 p3 p4 p5 : Str} (h : ∀ a b c e f, bindArgs fd ⟨[a, b, c, e, f], []⟩ = pure [(p1, a), (p2, b), (p3, c), (p4, e), (p5, f)]) : ∀ xs : List Value, xs.length = [p1, p2, p3, p4, p5].length → bindArgs fd ⟨xs, []⟩ = pure ([p1, p2, p3, p4, p5].zip xs) := fun xs e0 => by
  obtain ⟨a, r0, rfl, e1⟩ := lenS e0
  obtain ⟨b, r1, rfl, e2⟩ := lenS e1
  obtain ⟨c, r2, rfl, e3⟩ := lenS e2
  obtain ⟨e, r3, rfl, e4⟩ := lenS e3
  obtain ⟨f, r4, rfl, e5⟩ := lenS e4
  cases lenZ e5
  exact h a b c e f
end
end MP
namespace MP

/-- the module's own names, out of the table of the top -/
noncomputable def gfind (K : Frag) (x : Str) : Option Value := match K.lookup mainGlobals with
  | some o => (match o.data with
    | .dict es _ => (es.toList.find? (·.key.isStr x)).map (·.val)
    | _ => none)
  | none => none
structure Law (K : Frag) (sf : Addr) (C : Cx) : Prop where
  O : C.Ok
  eK : C.K = K
  eS : C.sf = sf
  mb : ∀ x : Str, x ≠ "__name__" → C.mb x = bootBuiltins x
  glob : ∃ o es n, K.lookup mainGlobals = some o ∧ o.data = .dict es n
  file : C.prog.main.file = Str.ofString "/claim/cut.py"
  free : (C.prog.main.scope.names.lookup (Str.ofString "super")).isSome = false
section
variable {C : Cx} {d : Nat} {sc : Scope} {K : Frag} {sf : Addr}
theorem Law.mg (X : Law K sf C) (x : Str) : C.mg x = gfind K x := by
  obtain ⟨o, es, n, hk, hd⟩ := X.glob
  obtain ⟨o', es', n', g, hd', sk, f⟩ := X.O.g
  have := X.O.kin _ _ (X.eK ▸ hk)
  rw [g] at this
  cases this
  rw [hd] at hd'
  cases hd'
  unfold gfind
  rw [hk]
  dsimp only
  rw [hd]
  dsimp only
  rw [← f x]
  unfold nsFind findBy
  rw [Array.find?_toList]
theorem Law.look (X : Law K sf C) {a : Addr} {o : Obj} (h : K.lookup a = some o) : C.K.lookup a = some o := X.eK ▸ h
theorem Law.find (X : Law K sf C) {v : Value} {n : Str} {r} (h : findIn K v n = r) : findIn C.K v n = r := X.eK ▸ h
theorem Law.cls (X : Law K sf C) {Kc : Addr} (h1 : plainGet K Kc (Str.ofString "") = true) (h2 : hasDictIn K Kc = true) (h3 : plainOver K Kc = true) (h4 : findIn K (.ref Kc) "__setattr__" = some (some (.builtin "object.__setattr__"))) : ClsOk C Kc := by
  obtain ⟨O, rfl, _, _, _, _, _⟩ := X
  exact ⟨h1, h2, h3, h4⟩
theorem Law.fn (X : Law K sf C) {x : Str} {f : Value} (hg : isGlob sc x = true) (h : gfind K x = some f) : NameIs C sc x f := ⟨hg, .inl ((X.mg x).trans h)⟩
theorem Law.bi (X : Law K sf C) {x : Str} {f : Value} (hg : isGlob sc x = true) (h : gfind K x = none) (hn : x ≠ "__name__") (hb : bootBuiltins x = some f) : NameIs C sc x f := ⟨hg, .inr ⟨(X.mg x).trans h, (X.mb x hn).trans hb⟩⟩
theorem Law.keep (X : Law K sf C) {f : Value} (h : keepIn K f = true) : Keeps C f := by
  obtain ⟨O, rfl, _, _, _, _, _⟩ := X
  obtain ⟨k, _, l⟩ := looks_keep h O.kin
  exact ⟨k, l⟩
theorem Law.exc (X : Law K sf C) {x : Str} (h : gfind K x = some (.ref sf)) : C.mg x = some (.ref C.sf) := by rw [X.mg, h, X.eS]
theorem Law.isFn (X : Law K sf C) {f : Value} (h : isFn K f = true) : isFn C.K f = true := X.eK ▸ h
theorem Law.make (X : Law K sf C) {Kc fI : Addr} {F} (hm : makesIn K Kc = true) (hi : findIn K (.ref Kc) "__init__" = some (some (.ref fI))) (hf : typeIn K (.ref fI) = some (.type "function")) (hF : SimC C d (.ref fI) F) : SimC C (d + 1) (.ref Kc) (fMake Kc F) := by
  obtain ⟨O, rfl, _, _, _, _, _⟩ := X
  exact simC_make O hm hi hf hF
theorem Law.attr (X : Law K sf C) {e name pos Kc f} (hc : ClsOk C Kc) (hf : findIn K (.ref Kc) name = some none) (h : SimE C d sc e f) (hbase : ∀ env, attributeBase e name env (eval e env) = eval e env) : SimE C d sc (.Attribute e name pos) (fAttr Kc name f) := by
  obtain ⟨O, rfl, _, _, _, _, _⟩ := X
  exact simE_attr O hc hf h hbase
theorem Law.setAttr (X : Law K sf C) {e name pos Kc f} (hc : ClsOk C Kc) (hf : findIn K (.ref Kc) name = some none) (h : SimE C d sc e f) : SimA C d sc (.Attribute e name pos) (fSetAttr Kc name f) := by
  obtain ⟨O, rfl, _, _, _, _, _⟩ := X
  exact simA_attr O hc hf h
theorem Law.meth (X : Law K sf C) {o name apos es pos Kc f F fo g} (hc : ClsOk C Kc) (hsim : SimE C d sc o fo) (hf : findIn K (.ref Kc) name = some (some (.ref f))) (ht : PySem.W.isFn K (.ref f) = true) (hk : keepIn K (.ref f) = true) (hs : es.all noStar = true) (hF : SimF C d (.ref f) F) (h : SimL C d sc es g)
    (hbase : ∀ env, attributeBase o name env (eval o env) = eval o env) (hfew : decide (es.length < 30) = true) (hline : (apos.endLine == pos.line) = true) : SimE C d sc (.Call (.Attribute o name apos) es [] pos) (fMeth (isI Kc name) F fo g) := by
  have hk' := X.keep hk
  obtain ⟨O, rfl, _, _, _, _, _⟩ := X
  exact simE_meth hsim (simM_inst O hc hf ht) hk' hs hF h hbase hfew hline
end
end MP
namespace MP
section
variable {C : Cx} {K : Frag} {sf : Addr}
theorem Law.raises (X : Law K sf C) {sm fI ce cd : Addr} {fd : FuncData} {p1 p2 p3 p4 p5 p6 p7 p8 p9 pa : Pos} {nm q : Str} {N : Addr} {bs : List Value} {hdct : Bool} {sn : List Str} {sub : List Value} {ab : Bool} {col : Option Bool} {dd : Option Addr} {k0 k1 k2 k3 k5 : Option Value}
    {cls cls' : Value} {dct dct' : Option Addr} {sl sl' : Array (Option Value)} {oc oce : Obj} {vs : Array Value} {t t' : Tok} {cdm cdf : ClassData}
    (hfI : K.lookup fI = some ⟨cls, dct, .func fd, sl⟩) (first : (fd.params.posonlyargs ++ fd.params.args).head?.map (·.arg) = some (Str.ofString "self"))
    (bind : ∀ a b : Value, bindArgs fd ⟨[a, b], []⟩ = pure [(Str.ofString "self", a), (Str.ofString "what", b)]) (body : fd.body = .stmts (initBody p1 p2 p3 p4 p5 p6 p7 p8 p9 pa)) (scope : fd.scope = initScope)
    (clo : fd.closure = [(Str.ofString "__class__", ce)]) (glob : fd.globals = mainGlobals) (bui : fd.builtins = builtinsNs) (code : fd.code = .ref cd) (hcd : K.lookup cd = some oc) (hv : oc.data = .fields vs) (v1 : vs[1]? = some (.str fd.qualname t)) (v2 : vs[2]? = some (.str (Str.ofString "/claim/cut.py") t'))
    (hce : K.lookup ce = some oce) (hcell : oce.data = .cell (some (.ref sm))) (sup : gfind K (Str.ofString "super") = none) (hsm : K.lookup sm = some ⟨cls', dct', .cls cdm, sl'⟩) (hsub : subIn K (.ref sf) (.ref sm) = some true)
    (ne : sf ≠ sm) (hcf : clsIn K sf = some cdf) (hmro : cdf.mro = .ref sf :: .ref sm :: baseMro) (hdc : cdf.hasDict = true) (opq : nsIn K cStatics "thirdparty.any" = some none) (subE : subIn K (.ref sf) (.type "Exception") = some true)
    (set : findIn K (.ref sf) "__setattr__" = some (some (.builtin "object.__setattr__"))) (what : findIn K (.ref sf) (Str.ofString "what") = some none)
    (hsf : K.lookup sf = some (excClassObj nm q sf N bs (.ref sm :: baseMro) hdct sn sub ab col dd k0 k1 k2 k3 k5 "Exception.__new__")) (init : findIn K (.ref sf) "__init__" = some (some (.ref fI))) (hfn : typeIn K (.ref fI) = some (.type "function"))
    (hline : (p3.endLine == p5.line) = true) : RaiseOk C := by
  obtain ⟨O, rfl, rfl, hmb, hg, hfile, hfree⟩ := X
  refine ⟨sm, fI, ce, cd, fd, Str.ofString "/claim/cut.py", p1, p2, p3, p4, p5, p6, p7, p8, p9, pa, nm, q, N, bs, hdct, sn, sub, ab, col, dd, k0, k1, k2, k3, k5, ?_, ⟨set, what, cdf, hcf, hmro, hdc⟩, ⟨hsf, init, hfn⟩, hline⟩
  refine ⟨⟨_, O.kin _ _ hfI, rfl⟩, first, bind, body, scope, clo, glob, bui, code, ⟨_, vs, t, t', O.kin _ _ hcd, hv, v1, v2⟩, ⟨_, O.kin _ _ hce, hcell⟩, hfile, hfree, ⟨?_, ?_⟩, ?_, looks_subIn O.kin hsub, ne, ?_, ?_, ?_, looks_subIn O.kin subE⟩
  · exact (Law.mg (K := C.K) (sf := C.sf) ⟨O, rfl, rfl, hmb, hg, hfile, hfree⟩ _).trans sup
  · exact (hmb _ (by decide)).trans (by rfl)
  · intro A Q E s k q
    exact ks_wpAny_isType_cls (k _ _ (O.kin _ _ hsm)) rfl q
  · exact ⟨_, O.kin _ _ hsf, rfl⟩
  · intro A Q E s k q
    refine wpAny_bind ((looks_clsIn (O.kin) hcf) _ _ _ _ k ?_)
    rw [hmro]
    exact wpAny_pure q
  · intro x y A Q E s k q
    exact wpAny_bind (looks_opaque O.kin opq _ _ _ _ k (wpAny_pure q))
end
end MP
namespace MP
section
variable {C : Cx} {d : Nat} {sc : Scope}
theorem simE_dictS2 {k1 k2 v1 v2 pos g} (h : SimPr C d sc pos [k1, k2] [v1, v2] g) : SimE C d sc (.Dict [some k1, some k2] [v1, v2] pos) (fDictS g) := simE_dictS (ks := [k1, k2]) h ⟨by simp, rfl, by simp⟩ (fun _ => rfl)
end
end MP
namespace MP
section
variable {C : Cx} {d : Nat} {sc : Scope}

/-- a slice of the script -/
noncomputable def fSliceZ (f b : FE) : FE := fun m H => (f m H).bind fun v H1 => (b m H1).bind fun y H4 => match v, y with
  | .ref i, .int k => (match H4[i]? with
    | some (.frz _ xs) => if xs.length ≤ 1000000 then newL (cut xs none (some k)) H4 else .bad
    | _ => .bad)
  | _, _ => .bad
theorem simE_sliceZ {e hi p pos f b} (h0 : SimE C d sc e f) (h2 : SimE C d sc hi b) (hs : ∃ b : Bool, ∀ o iv, subscripted (.Slice none (some hi) none p) false o iv = operate (if b then [iv, o] else [o, iv]) (getItem o iv)) :
    SimE C d sc (.Subscript e (.Slice none (some hi) none p) pos) (fSliceZ f b) := by
  intro A env l m ρ H s Q E hb ha he fr st' pp
  refine Subscript_ (h0 A env l m ρ H s _ E hb ha he fr st' (PostE.bind pp fun v H1 ρ1 x s1 _ e1 r1 p1 => ?_))
  have fr1 := fr.ev st' e1
  refine wpAny_Slice (simP_none (C := C) (d := d) (sc := sc) A env l m ρ1 H1 s1 _ E hb ha he fr1 e1.st ?_)
  intro ρ2 xa s2 e2 r2
  have fr2 := fr1.ev e1.st e2
  refine simP_some h2 A env l m ρ2 H1 s2 _ E hb ha he fr2 e2.st (PostE.bind (p1.shift e2) fun vb H3 ρ3 xb s3 _ e3 r3 p3 => ?_)
  have fr3 := fr2.ev e2.st e3
  refine simP_none (C := C) (d := d) (sc := sc) A env l m ρ3 H3 s3 _ E hb ha he fr3 e3.st ?_
  intro ρ4 xc s4 e4 r4
  have p4 := p3.shift e4
  have q1 := ((r1.ev0 e1.st e2).ev0 e2.st e3).ev0 e3.st e4
  have q2 := (r2.ev0 e2.st e3).ev0 e3.st e4
  have q3 := r3.ev0 e3.st e4
  cases v with
  | ref i =>
    cases vb with
    | int k =>
      dsimp only at p4
      cases ho : H3[i]? with
      | none => rw [ho] at p4; exact p4.elim
      | some ob =>
        rw [ho] at p4
        cases ob with
        | frz o xs =>
          dsimp only at p4
          by_cases hsz : xs.length ≤ 1000000
          · rw [if_pos hsz] at p4
            obtain ⟨⟨pa, pd⟩, hp, had, g, items, n, hc, hd, rs⟩ := e4.st.at ho
            cases q1 with
            | ref q1' =>
              rw [q1'] at hp
              cases hp
              have hlen : xs.length = items.size := by rw [rs.length, Array.length_toList]
              let s5 : Shared := { s4 with heap := s4.heap.push { cls := .type "slice", data := .fields #[xa, xb, xc] } }
              have e5 : Ev C l No ρ4 s4 ρ4 H3 s5 := Ev.keepNo e4.st (Keep.push ..) ⟨rfl, rfl, rfl⟩
              have hl : s5.heap.IsList pa items := ⟨_, Heap.get?_push_of_some _ g, hc, n, hd⟩
              have rs5 : RepVs ρ4 s5.heap xs items.toList := rs.ev0 e4.st e5
              obtain ⟨bb, hs⟩ := hs
              refine tail_any (s := s5) hl.typeIs slot_list_getitem.lookup ?_ (hs _ _)
              have p5 := p4.shift e5
              have i1 : IsPart xa none := rep_part q2 rfl
              have i2 : IsPart xb (some k) := rep_part q3 rfl
              cases r4
              refine wpAny_getItem_list_slice (s := s5) hl (Heap.IsSliceOf.new ..) i1 i2 .none (by simp) ?_ (by rw [sizeLine_eq]; omega)
              rw [slicePick_plain]
              have rc : RepVs ρ4 s5.heap (cut xs none (some k)) ((items.toList.drop ((none : Option Int).elim 0 (clipAt items.size))).take ((some k).elim items.size (clipAt items.size) - (none : Option Int).elim 0 (clipAt items.size))) := by
                unfold cut
                rw [hlen]
                exact (rs5.drop _).take _
              exact (newL_post (n := 0) p5 e5.st rc).2
          · rw [if_neg hsz] at p4; exact p4.elim
        | _ => exact p4.elim
    | _ => exact p4.elim
  | _ => exact p4.elim
end

theorem get_freed (h : Heap) (a b : Addr) : (h.update a fun o => { o with data := .freed }).get? b = if b = a then none else h.get? b := by
  by_cases hb : b = a
  · subst hb
    rw [if_pos rfl]
    obtain ⟨objs, l⟩ := h
    show (match (objs.modify b fun o => { o with data := .freed })[b]? with | some ⟨_, _, .freed, _⟩ => none | o => o) = none
    simp only [Array.getElem?_modify, if_true]
    cases objs[b]? <;> rfl
  · rw [if_neg hb]
    exact Heap.get?_update_other _ _ (Ne.symm hb)

theorem Ns_freed {h : Heap} {a x : Addr} {m : Str → Option Value} {items : Array Value} (hl : h.IsList a items) (n : h.Ns x m) : (h.update a fun o => { o with data := .freed }).Ns x m := by
  obtain ⟨o, es, ep, g, d, r⟩ := n
  refine ⟨o, es, ep, ?_, d, r⟩
  rw [get_freed, if_neg ?_]
  · exact g
  · rintro rfl
    obtain ⟨o', g', _, n, d'⟩ := hl
    rw [g] at g'; cases g'
    rw [d] at d'; cases d'

theorem rep_intsAre {ρ : Rho} {h : Heap} : ∀ {vs : List Value} {ns : List Int}, IntsAre vs ns → RepVs ρ h (ns.map .int) vs
  | _, _, .nil => .nil
  | _, _, .cons n t r => .cons (.int n t) (rep_intsAre r)

noncomputable def noSeq (p : Addr × Obj) : Bool := match p.2.cls with | .type "list" => false | _ => true
theorem noSeq_lookup {K : Frag} (h : K.all noSeq = true) {a : Addr} {o : Obj} (e : K.lookup a = some o) : o.cls ≠ .type "list" := by
  induction K with
  | nil => cases e
  | cons p r ih =>
    rw [List.all_cons, Bool.and_eq_true] at h
    obtain ⟨b, x⟩ := p
    rw [List.lookup_cons] at e
    split at e
    · cases e
      intro z
      have := h.1
      unfold noSeq at this
      simp only [z] at this
      cases this
    · exact ih h.2 e

/-- from the head's goal to the plain law -/
theorem join {K : Frag} {sf fl : Addr} {F : List V → Hp → Out V} {prog : Program} {w : World} {s₁ : Shared} {mg mb : Str → Option Value} {a fa : Addr} {vs : List Value} {ns : List Int} {Q E : Value → Shared → Prop}
    (KX : K.In s₁.heap) (Tg : s₁.heap.Ns mainGlobals mg) (Tb : s₁.heap.Ns builtinsNs mb) (Tn : s₁.heap.NoLimit) (Tbu : ∀ x : Str, x ≠ "__name__" → mb x = bootBuiltins x)
    (hmg : mg "law" = some (.ref fa)) (hl : s₁.heap.IsList a vs.toArray) (hi : IntsAre vs ns) (hs : (a == sysModules) = false) (nol : K.all noSeq = true)
    (file : prog.main.file = Str.ofString "/claim/cut.py") (free : (prog.main.scope.names.lookup (Str.ofString "super")).isSome = false) (hG : ∃ o es n, K.lookup mainGlobals = some o ∧ o.data = .dict es n)
    (hfl : gfind K "law" = some (.ref fl)) (c : ∀ C, Law K sf C → SimC C 30 (.ref fl) F)
    (plain : ∀ o, ∃ H', F [.ref 0] [.frz o (ns.map .int)] = .ok (.bool true) H' ∧ H'[0]? = some (.frz o (ns.map .int)))
    (q : ∀ s' : Shared, (∀ b o, s₁.heap.get? b = some o → s'.heap.get? b = some o) → s'.os = s₁.os → s'.gens = s₁.gens → Q (.bool true) s') :
    wpAny (model prog w) callerA (call (.ref fa) [.ref a]) Q E s₁ := by
  let h0 : Heap := s₁.heap.update a fun o => { o with data := .freed }
  let C : Cx := ⟨prog, w, K, mg, mb, h0, s₁.gens, s₁.drawn, s₁.os, sf⟩
  have hsz : h0.objs.size = s₁.heap.objs.size := Heap.size_after_update ..
  have old : ∀ b o, h0.get? b = some o → s₁.heap.get? b = some o := fun b o g => by
    have := get_freed s₁.heap a b
    rw [this] at g
    split at g
    · cases g
    · exact g
  obtain ⟨oa, ga, hc, n, hd⟩ := hl
  have hl' : s₁.heap.IsList a vs.toArray := ⟨oa, ga, hc, n, hd⟩
  have kin : K.In h0 := fun b o e => by
    show (s₁.heap.update a _).get? b = some o
    rw [get_freed, if_neg ?_]
    · exact KX b o e
    · rintro rfl
      have := KX b o e
      rw [ga] at this; cases this
      exact noSeq_lookup nol e hc
  have O : C.Ok := ⟨kin, Ns_freed hl' Tg, Ns_freed hl' Tb, let ⟨mc, x, y⟩ := Tn; ⟨mc, Ns_freed hl' x, y⟩, by
    have := (Ns_freed hl' Tg).lt
    show sysModules < h0.objs.size
    exact Nat.lt_trans (by decide) this⟩
  have X : Law K sf C := ⟨O, rfl, rfl, Tbu, hG, file, free⟩
  have efa : fa = fl := by
    have := X.mg "law"
    rw [hfl] at this
    have h2 : mg "law" = some (.ref fl) := this
    rw [hmg] at h2
    cases h2; rfl
  subst efa
  have st : St C [] [(a, a)] [.frz oa (ns.map .int)] s₁ := by
    refine ⟨old, fun p hp => ?_, Nat.le_of_eq hsz, ⟨rfl, rfl, rfl⟩, ⟨rfl, fun i o p ho hp => ?_, fun i j p p' hij hp hp' => ?_⟩, trivial, fun b hb => ?_⟩
    · rw [List.mem_singleton.mp hp]
      have fr : Free h0 a := ⟨by show (s₁.heap.update a _).get? a = none; rw [get_freed, if_pos rfl], fun e => by rw [e] at hs; cases hs⟩
      exact ⟨fr, fr⟩
    · cases i with
      | zero =>
        cases ho; cases hp
        exact ⟨rfl, ga, vs.toArray, n, hc, hd, by simpa using rep_intsAre hi⟩
      | succ i => simp at ho
    · cases i with
      | zero => cases j with
        | zero => exact absurd rfl hij
        | succ j => simp at hp'
      | succ i => simp at hp
    · obtain ⟨env, he, _⟩ := hb
      cases he
  obtain ⟨H', ep, e0⟩ := plain oa
  refine (c C X).sim callerA [] [.ref 0] [.ref a] [(a, a)] [.frz oa (ns.map .int)] s₁ Q E ⟨by decide, by decide, rfl⟩ rfl st (.cons (.ref rfl) .nil) ?_
  rw [ep]
  intro ρ' y s' ev r
  cases r
  refine q s' (fun b o g => ?_) (ev.st.rest.2.2) (ev.st.rest.1)
  by_cases hb : b = a
  · subst hb
    obtain ⟨p, hp, r0⟩ := ev.st.at e0
    have := ev.look 0 (b, b) rfl
    rw [this] at hp
    cases hp
    rw [ga] at g; cases g
    exact r0.2.1
  · refine ev.st.old b o ?_
    show (s₁.heap.update a _).get? b = some o
    rw [get_freed, if_neg hb]; exact g
end MP
namespace MP
section
variable {C : Cx} {d : Nat} {sc : Scope} {K : Frag} {sf : Addr}
structure XE (C : Cx) (d : Nat) (sc : Scope) (e : Expr) (f : FE) : Prop where
  s : SimE C d sc e f
structure XT (C : Cx) (d : Nat) (sc : Scope) (e : Expr) (f : FE) : Prop where
  s : SimT C d sc e f
structure XL (C : Cx) (d : Nat) (sc : Scope) (es : List Expr) (f : Fm → Hp → Out (List V)) : Prop where
  s : SimL C d sc es f
structure XS (C : Cx) (d : Nat) (sc : Scope) (st : Stmt) (f : FS) : Prop where
  s : SimS C d sc st f
structure XB (C : Cx) (d : Nat) (sc : Scope) (b : List Stmt) (f : FS) : Prop where
  s : SimB C d sc b f
structure XF (C : Cx) (d : Nat) (f : Value) (F : List V → Hp → Out V) : Prop where
  s : SimF C d f F
structure XM (C : Cx) (d : Nat) (name : Str) (K : AObj → Bool) (f : Value) : Prop where
  s : SimM C d name K f
structure XIt (C : Cx) (d : Nat) (sc : Scope) (e : Expr) (tgt : Expr) (f : Fm → Hp → Out It) : Prop where
  s : SimIt C d sc e tgt f
structure XO (C : Cx) (d : Nat) (f : Value → Value → Sem Value) (F : V → V → Hp → Out V) : Prop where
  s : SimO C d f F
structure XA (C : Cx) (d : Nat) (sc : Scope) (t : Expr) (f : V → FS) : Prop where
  s : SimA C d sc t f
structure XP (C : Cx) (d : Nat) (sc : Scope) (e : Option Expr) (f : FE) : Prop where
  s : SimP C d sc e f
structure XAll (C : Cx) (d : Nat) (sc : Scope) (op : BoolOp) (es : List Expr) (f : FE) : Prop where
  s : SimAll C d sc op es f
structure XC (C : Cx) (d : Nat) (f : Value) (F : List V → Hp → Out V) : Prop where
  s : SimC C d f F
structure XPr (C : Cx) (d : Nat) (sc : Scope) (pos : Pos) (ks vs : List Expr) (f : Fm → Hp → Out (List V)) : Prop where
  s : SimPr C d sc pos ks vs f
structure XJ (C : Cx) (d : Nat) (sc : Scope) (es : List Expr) (f : Str → FE) : Prop where
  s : SimJ C d sc es f
structure XTs (C : Cx) (d : Nat) (sc : Scope) (ts : List Expr) (f : List V → FS) : Prop where
  s : SimTs C d sc ts f
structure XX (C : Cx) (sc : Scope) (e : Expr) (f : FE) : Prop where
  s : SimX C sc e f
structure XV (C : Cx) (d : Nat) (sc : Scope) (t : Expr) (f : V → Fm → Option Fm) : Prop where
  s : SimV C d sc t f
structure XW (C : Cx) (d : Nat) (sc : Scope) (ifs : List Expr) (f : FE) : Prop where
  s : SimW C d sc ifs f
theorem XC.sim {f F} (h : XC C d f F) : XF C d f F := ⟨h.s.sim⟩
theorem xA_name {x pos} (hx : isStore sc x = true) : XA C d sc (.Name x pos) (fSet x) := ⟨simA_name hx⟩
theorem xA_sub {e i pos f g} (h1 : XE C d sc e f) (h2 : XE C d sc i g) : XA C d sc (.Subscript e i pos) (fSetSub f g) := ⟨simA_sub h1.s h2.s⟩
theorem xA_tuple {ts k pos f} (h : XTs C d sc ts f) (hs : ts.all noStar = true) : XA C d sc (.Tuple ts k pos) (fUnpack ts.length f) := ⟨simA_tuple h.s hs⟩
theorem xB_cons {st r f g} (h1 : XS C d sc st f) (h2 : XB C d sc r g) : XB C d sc (st :: r) (fSeq f g) := ⟨simB_cons h1.s h2.s⟩
theorem xB_nil  : XB C d sc [] fSkip := ⟨simB_nil ⟩
theorem xC_K {a c : Addr} {fd : FuncData} {cls : Value} {dct : Option Addr} {sl : Array (Option Value)} {ps : List Str} {body : List Stmt} {f : FS} {oc : Obj} {vs : Array Value} {t : Tok} (O : C.Ok) (hk : C.K.lookup a = some ⟨cls, dct, .func fd, sl⟩) (hcd : fd.code = .ref c) (hc : C.K.lookup c = some oc) (hv : oc.data = .fields vs) (hq : vs[1]? = some (.str fd.qualname t)) (hb : fd.body = .stmts body) (bind : ∀ xs : List Value, xs.length = ps.length → bindArgs fd ⟨xs, []⟩ = pure (ps.zip xs)) (hclo : fd.closure = []) (hg : fd.globals = mainGlobals) (hbu : fd.builtins = builtinsNs) (hok : okScope fd.scope ps = true) (h : XB C d fd.scope body f) : XC C (d + 1) (.ref a) (fDef ps f) := ⟨simC_K O hk hcd hc hv hq hb bind hclo hg hbu hok h.s⟩
theorem xE_and2 {a b pos f g} (h1 : XE C d sc a f) (h2 : XE C d sc b g) : XE C d sc (.BoolOp .And [a, b] pos) (fAnd f g) := ⟨simE_and2 h1.s h2.s⟩
theorem xE_bin {a op b pos F f g} (h1 : XE C d sc a f) (h2 : XE C d sc b g) (hF : XO C d (binaryOp op) F) : XE C d sc (.BinOp a op b pos) (fBin F f g) := ⟨simE_bin h1.s h2.s hF.s⟩
theorem xE_bool {k pos b} : XE C d sc (.Constant (.bool b) k pos) (fC (.bool b)) := ⟨simE_bool ⟩
theorem xE_call {x np es pos f F g} (O : C.Ok) (hn : NameIs C sc x f) (hk : Keeps C f) (hs : es.all noStar = true) (hF : XF C d f F) (h : XL C d sc es g) : XE C d sc (.Call (.Name x np) es [] pos) (fCall F g) := ⟨simE_call O hn hk hs hF.s h.s⟩
theorem xE_cmp {a op b pos F f g} (h1 : XE C d sc a f) (h2 : XE C d sc b g) (hF : XO C d (compareOp op) F) (hm : behindInMarks op b = false) : XE C d sc (.Compare a [op] [b] pos) (fBin F f g) := ⟨simE_cmp h1.s h2.s hF.s hm⟩
theorem xE_comp {elt tgt iter ifs scope pos fv fit fa ft fe} (hI : XIt C d sc iter tgt fit) (hA : XV C d (compSc scope sc) tgt fa) (hT : XW C d (compSc scope sc) ifs ft) (hE : XE C d (compSc scope sc) elt fe) (hs : ∀ env x, foldedSetIterable iter env x = pure x) (hk : compOk scope sc fv = true) : XE C d sc (.ListComp elt [⟨tgt, iter, ifs, 0⟩] scope pos) (fComp fv fit fa ft fe) := ⟨simE_comp hI.s hA.s hT.s hE.s hs hk⟩
theorem xE_dict0S {pos} : XE C d sc (.Dict [] [] pos) fDict0S := ⟨simE_dict0S ⟩
theorem xE_dict0T {pos} : XE C d sc (.Dict [] [] pos) fDict0T := ⟨simE_dict0T ⟩
theorem xE_dictS2 {k1 k2 v1 v2 pos g} (h : XPr C d sc pos [k1, k2] [v1, v2] g) : XE C d sc (.Dict [some k1, some k2] [v1, v2] pos) (fDictS g) := ⟨simE_dictS2 h.s⟩
theorem xE_fval {e pos f} (h : XE C d sc e f) : XE C d sc (.FormattedValue e (-1) none pos) (fFv f) := ⟨simE_fval h.s⟩
theorem xE_glob {x pos v} (O : C.Ok) (hx : isGlob sc x = true) (g : GlobV C x v) : XE C d sc (.Name x pos) (fC v) := ⟨simE_glob O hx g⟩
theorem xE_ifexp {t a b pos ft f g} (h0 : XT C d sc t ft) (h1 : XE C d sc a f) (h2 : XE C d sc b g) : XE C d sc (.IfExp t a b pos) (fIte ft f g) := ⟨simE_ifexp h0.s h1.s h2.s⟩
theorem xE_int {k pos i} : XE C d sc (.Constant (.int i) k pos) (fC (.int i)) := ⟨simE_int ⟩
theorem xE_joined {a b es pos f} (h : XJ C d sc (a :: b :: es) f) : XE C d sc (.JoinedStr (a :: b :: es) pos) (f Str.empty) := ⟨simE_joined h.s⟩
theorem xE_list {es pos g} (h : XL C d sc es g) : XE C d sc (.List es pos) (fList g) := ⟨simE_list h.s⟩
theorem xE_listzip {x np y np' es pos pos' g} (O : C.Ok) (hn : NameIs C sc x (.type "list")) (hn' : NameIs C sc y (.type "zip")) (hs : es.all noStar = true) (h : XL C d sc es g) : XE C d sc (.Call (.Name x np) [.Call (.Name y np') es [] pos'] [] pos) (fListZip g) := ⟨simE_listzip O hn hn' hs h.s⟩
theorem xE_meth {o name apos es pos K f F fo g} (hsim : XE C d sc o fo) (hM : XM C d name K f) (hk : Keeps C f) (hs : es.all noStar = true) (hF : XF C d f F) (h : XL C d sc es g) (hbase : ∀ env, attributeBase o name env (eval o env) = eval o env) (hfew : decide (es.length < 30) = true) (hline : (apos.endLine == pos.line) = true) : XE C d sc (.Call (.Attribute o name apos) es [] pos) (fMeth K F fo g) := ⟨simE_meth hsim.s hM.s hk hs hF.s h.s hbase hfew hline⟩
theorem xE_neg {e pos f} (h : XE C d sc e f) : XE C d sc (.UnaryOp .USub e pos) (fNeg f) := ⟨simE_neg h.s⟩
theorem xE_none {k pos} : XE C d sc (.Constant .none k pos) (fC .none) := ⟨simE_none ⟩
theorem xE_slice {e lo hi st p pos f a b c} (h0 : XE C d sc e f) (h1 : XP C d sc lo a) (h2 : XP C d sc hi b) (h3 : XP C d sc st c) (hs : ∃ b : Bool, ∀ o iv, subscripted (.Slice lo hi st p) false o iv = operate (if b then [iv, o] else [o, iv]) (getItem o iv)) : XE C d sc (.Subscript e (.Slice lo hi st p) pos) (fSlice f a b c) := ⟨simE_slice h0.s h1.s h2.s h3.s hs⟩
theorem xE_str {k pos x} : XE C d sc (.Constant (.str x) k pos) (fC (.str x)) := ⟨simE_str ⟩
theorem xE_sub {e i pos f g} (h1 : XE C d sc e f) (h2 : XE C d sc i g) (hs : ∀ o iv, subscripted i false o iv = operate [o, iv] (getItem o iv)) : XE C d sc (.Subscript e i pos) (fSub f g) := ⟨simE_sub h1.s h2.s hs⟩
theorem xE_tuple {es k pos g} (h : XL C d sc es g) : XE C d sc (.Tuple es k pos) (fTup g) := ⟨simE_tuple h.s⟩
theorem xE_var {x pos} (hx : isLoc sc x = true) : XE C d sc (.Name x pos) (fVar x) := ⟨simE_var hx⟩
theorem xF_abs  : XF C d (.builtin "abs") bAbs := ⟨simF_abs ⟩
theorem xF_append  : XF C d (.builtin "list.append") bAppend := ⟨simF_append ⟩
theorem xF_getT (O : C.Ok) : XF C d (.builtin "dict.get") bGetT := ⟨simF_getT O⟩
theorem xF_len  : XF C d (.builtin "len") bLen := ⟨simF_len ⟩
theorem xF_sum  : XF C (d + 1) (.builtin "sum") bSum := ⟨simF_sum ⟩
theorem xIt_seq {e tgt f} (h : XE C d sc e f) : XIt C d sc e tgt (fIter f) := ⟨simIt_seq h.s⟩
theorem xIt_range {x np es pos tgt g} (O : C.Ok) (hn : NameIs C sc x (.type "range")) (hs : es.all noStar = true) (h : XL C d sc es g) : XIt C d sc (.Call (.Name x np) es [] pos) tgt (fRange g) := ⟨simIt_range O hn hs h.s⟩
theorem xJ_cons {e es g r} (h1 : XE C d sc e g) (h2 : XJ C d sc es r) : XJ C d sc (e :: es) (fJ g r) := ⟨simJ_cons h1.s h2.s⟩
theorem xJ_nil  : XJ C d sc [] fJ0 := ⟨simJ_nil ⟩
theorem xL_cons {e r f g} (he : noStar e = true) (h1 : XE C d sc e f) (h2 : XL C d sc r g) : XL C d sc (e :: r) (fCons f g) := ⟨simL_cons he h1.s h2.s⟩
theorem xL_nil  : XL C d sc [] fNil := ⟨simL_nil ⟩
theorem xM_append  : XM C d "append" isL (.builtin "list.append") := ⟨simM_append ⟩
theorem xM_getT  : XM C d "get" isT (.builtin "dict.get") := ⟨simM_getT ⟩
theorem xO_add  : XO C d (binaryOp .Add) oAdd := ⟨simO_add ⟩
theorem xO_sub  : XO C d (binaryOp .Sub) oSub := ⟨simO_sub ⟩
theorem xO_mul  : XO C d (binaryOp .Mult) oMul := ⟨simO_mul ⟩
theorem xO_mod  : XO C d (binaryOp .Mod) oMod := ⟨simO_mod ⟩
theorem xO_div  : XO C d (binaryOp .FloorDiv) oDiv := ⟨simO_div ⟩
theorem xO_sq  : XO C d (binaryOp .Pow) oSq := ⟨simO_sq ⟩
theorem xO_eq  : XO C d (compareOp .Eq) oEq := ⟨simO_eq ⟩
theorem xO_ne  : XO C d (compareOp .NotEq) oNe := ⟨simO_ne ⟩
theorem xO_lt  : XO C d (compareOp .Lt) oLt := ⟨simO_lt ⟩
theorem xO_le  : XO C d (compareOp .LtE) oLe := ⟨simO_le ⟩
theorem xO_isNone  : XO C d (compareOp .Is) oIsNone := ⟨simO_isNone ⟩
theorem xO_notNone  : XO C d (compareOp .IsNot) oNotNone := ⟨simO_notNone ⟩
theorem xP_none  : XP C d sc none (fC .none) := ⟨simP_none ⟩
theorem xP_some {e f} (h : XE C d sc e f) : XP C d sc (some e) f := ⟨simP_some h.s⟩
theorem xPr_cons {pos k ks v vs f g h} (h1 : XE C d sc k f) (h2 : XE C d sc v g) (h3 : XPr C d sc pos ks vs h) : XPr C d sc pos (k :: ks) (v :: vs) (fCons f (fCons g h)) := ⟨simPr_cons h1.s h2.s h3.s⟩
theorem xPr_nil {pos} : XPr C d sc pos [] [] fNil := ⟨simPr_nil ⟩
theorem xS_assign {t e pos fe fa} (h1 : XE C d sc e fe) (h2 : XA C d sc t fa) (hst : ∀ env, (assignEach [t] env).map (·.2) = [assign t env]) (hs : ∀ env, swapsWith e (some t) pos.line env = pure false) (hw : ∀ env, swappedStores [t] e env = pure none) : XS C d sc (.Assign [t] e pos) (fAsgE fe fa) := ⟨simS_assign h1.s h2.s hst hs hw⟩
theorem xS_augSub {e i x tpos pos f g h} (h1 : XE C d sc e f) (h2 : XE C d sc i g) (h3 : XE C d sc x h) (hi : ∀ ov iv new, augStore i ov iv new = (do holding [new, ov, iv] (setItem ov iv new); release [new, ov, iv] []; pure .next)) : XS C d sc (.AugAssign (.Subscript e i tpos) .Add x pos) (fAugSub f g h) := ⟨simS_augSub h1.s h2.s h3.s hi⟩
theorem xS_continue {pos} : XS C d sc (.Continue pos) (fun m H => .ok .cont m H) := ⟨simS_continue ⟩
theorem xS_expr {e pos f} (h : XE C d sc e f) (hs : ∀ env, env.scope.kind = .function → swapsWith e none pos.line env = pure false) : XS C d sc (.Expr e pos) (fExpr f) := ⟨simS_expr h.s hs⟩
theorem xS_for {tgt it body pos fit fa fb} (hI : XIt C d sc it tgt fit) (hA : XA C d sc tgt fa) (hB : XB C d sc body fb) (hs : ∀ env x, foldedSetIterable it env x = pure x) : XS C d sc (.For tgt it body [] pos) (fForS fit fa fb) := ⟨simS_for hI.s hA.s hB.s hs⟩
theorem xS_if {t b o pos ft fb fo} (h1 : XT C d sc t ft) (h2 : XB C d sc b fb) (h3 : XB C d sc o fo) : XS C d sc (.If t b o pos) (fIf ft fb fo) := ⟨simS_if h1.s h2.s h3.s⟩
theorem xS_raise {x np arg cpos pos g} (O : C.Ok) (R : RaiseOk C) (hn : isGlob sc x = true) (hx : C.mg x = some (.ref C.sf)) (hs : noStar arg = true) (h : XE C d sc arg g) : XS C d sc (.Raise (some (.Call (.Name x np) [arg] [] cpos)) none pos) (fRaise g) := ⟨simS_raise O R hn hx hs h.s⟩
theorem xS_ret {e pos f} (h : XE C d sc e f) : XS C d sc (.Return (some e) pos) (fRet f) := ⟨simS_ret h.s⟩
theorem xS_swap {ts k tp e pos fe ns} (h : XE C d sc e fe) (hs : ∀ env, swapsWithSole [.Tuple ts k tp] e pos.line env = pure false) (hw : ∀ env, env.scope = sc → swappedStores [.Tuple ts k tp] e env = pure (some ns)) (hn : ns.reverse.all (isStore sc) = true) : XS C d sc (.Assign [.Tuple ts k tp] e pos) (fAsgE fe (fSwap ns)) := ⟨simS_swap h.s hs hw hn⟩
theorem xS_try {body x np e rpos hpos pos fb fe} (O : C.Ok) (R : RaiseOk C) (hn : isGlob sc x = true) (hx : C.mg x = some (.ref C.sf)) (h : XB C d sc body fb) (he' : XX C sc e fe) : XS C d sc (.Try body [.ExceptHandler (some (.Name x np)) none [.Return (some e) rpos] hpos] [] [] pos) (fTry fb fe) := ⟨simS_try O R hn hx h.s he'.s⟩
theorem xS_while {t b pos ft fb} (n : Nat) (h1 : XT C d sc t ft) (h2 : XB C d sc b fb) : XS C d sc (.While t b [] pos) (fWhile ft fb n) := ⟨simS_while n h1.s h2.s⟩
theorem xT_bool {op es pos f} (h : XAll C d sc op es f) : XT C d sc (.BoolOp op es pos) f := ⟨simT_bool h.s⟩
theorem xT_cmp {a op b pos F f g} (h1 : XE C d sc a f) (h2 : XE C d sc b g) (hF : XO C d (compareOp op) F) (hm : behindInMarks op b = false) : XT C d sc (.Compare a [op] [b] pos) (fBin F f g) := ⟨simT_cmp h1.s h2.s hF.s hm⟩
theorem xT_not {e pos f} (h : XT C d sc e f) : XT C d sc (.UnaryOp .Not e pos) (fNot f) := ⟨simT_not h.s⟩
theorem xT_val {e f} (h : XE C d sc e f) (he' : ∀ env whole, isTrue e env whole = (do let v ← whole; standAt e.pos; holding [v] (truthy v))) : XT C d sc e f := ⟨simT_val h.s he'⟩
theorem xTs_cons {t ts fa r} (ht : noStar t = true) (h1 : XA C d sc t fa) (h2 : XTs C d sc ts r) : XTs C d sc (t :: ts) (fT fa r) := ⟨simTs_cons ht h1.s h2.s⟩
theorem xTs_nil  : XTs C d sc [] fT0 := ⟨simTs_nil ⟩
theorem xV_name {x pos} (h : isLocal sc x = true) : XV C d sc (.Name x pos) (vName x) := ⟨simV_name h⟩
theorem xV_pair {x y p1 p2 k pos} (h1 : isLocal sc x = true) (h2 : isLocal sc y = true) : XV C d sc (.Tuple [.Name x p1, .Name y p2] k pos) (vPair x y) := ⟨simV_pair h1 h2⟩
theorem xW_nil  : XW C d sc [] (fC (.bool true)) := ⟨simW_nil ⟩
theorem xW_one {t f} (h : XT C d sc t f) : XW C d sc [t] f := ⟨simW_one h.s⟩
theorem xX_none {k pos} : XX C sc (.Constant .none k pos) (fC .none) := ⟨simX_none ⟩
theorem xAnd_one {e f} (h : XT C d sc e f) : XAll C d sc .And [e] f := ⟨simAnd_one h.s⟩
theorem xAnd_cons {e r f g} (h : XT C d sc e f) (h2 : XAll C d sc .And r g) : XAll C d sc .And (e :: r) (fAnd f g) := ⟨simAnd_cons h.s h2.s⟩
theorem xOr_one {e f} (h : XT C d sc e f) : XAll C d sc .Or [e] f := ⟨simOr_one h.s⟩
theorem xOr_cons {e r f g} (h : XT C d sc e f) (h2 : XAll C d sc .Or r g) : XAll C d sc .Or (e :: r) (fOr f g) := ⟨simOr_cons h.s h2.s⟩
theorem Law.x_attr (X : Law K sf C) {e name pos Kc f} (hc : ClsOk C Kc) (hf : findIn K (.ref Kc) name = some none) (h : XE C d sc e f) (hbase : ∀ env, attributeBase e name env (eval e env) = eval e env) : XE C d sc (.Attribute e name pos) (fAttr Kc name f) := ⟨Law.attr X hc hf h.s hbase⟩
theorem Law.x_setAttr (X : Law K sf C) {e name pos Kc f} (hc : ClsOk C Kc) (hf : findIn K (.ref Kc) name = some none) (h : XE C d sc e f) : XA C d sc (.Attribute e name pos) (fSetAttr Kc name f) := ⟨Law.setAttr X hc hf h.s⟩
theorem Law.x_meth (X : Law K sf C) {o name apos es pos Kc f F fo g} (hc : ClsOk C Kc) (hsim : XE C d sc o fo) (hf : findIn K (.ref Kc) name = some (some (.ref f))) (ht : PySem.W.isFn K (.ref f) = true) (hk : keepIn K (.ref f) = true) (hs : es.all noStar = true) (hF : XF C d (.ref f) F) (h : XL C d sc es g) (hbase : ∀ env, attributeBase o name env (eval o env) = eval o env) (hfew : decide (es.length < 30) = true) (hline : (apos.endLine == pos.line) = true) : XE C d sc (.Call (.Attribute o name apos) es [] pos) (fMeth (isI Kc name) F fo g) := ⟨Law.meth X hc hsim.s hf ht hk hs hF.s h.s hbase hfew hline⟩
theorem Law.x_make (X : Law K sf C) {Kc fI : Addr} {F} (hm : makesIn K Kc = true) (hi : findIn K (.ref Kc) "__init__" = some (some (.ref fI))) (hf : typeIn K (.ref fI) = some (.type "function")) (hF : XC C d (.ref fI) F) : XC C (d + 1) (.ref Kc) (fMake Kc F) := ⟨Law.make X hm hi hf hF.s⟩
theorem xE_sliceZ {e hi p pos f b} (h0 : XE C d sc e f) (h2 : XE C d sc hi b) (hs : ∃ b : Bool, ∀ o iv, subscripted (.Slice none (some hi) none p) false o iv = operate (if b then [iv, o] else [o, iv]) (getItem o iv)) : XE C d sc (.Subscript e (.Slice none (some hi) none p) pos) (fSliceZ f b) := ⟨simE_sliceZ h0.s h2.s hs⟩
end
end MP
namespace MP
end MP
namespace MP
noncomputable def f_Bank_make : FS := fSeq (fAsgE (fTup (fCons (fVar (Str.ofString "op")) (fCons (fVar (Str.ofString "args")) (fCons (fVar (Str.ofString "sort")) (fCons (fVar (Str.ofString "data")) (fNil)))))) (fSet (Str.ofString "key")))
  (fSeq (fAsgE (fMeth isT bGetT (fAttr 400 (Str.ofString "numbers") (fVar (Str.ofString "self"))) (fCons (fVar (Str.ofString "key")) (fCons (fC (.int 0)) (fNil)))) (fSet (Str.ofString "found")))
  (fSeq (fIf (fBin oEq (fVar (Str.ofString "found")) (fC (.int 0))) (fSeq (fAsgE (fCall bLen (fCons (fAttr 400 (Str.ofString "term_ops") (fVar (Str.ofString "self"))) (fNil))) (fSet (Str.ofString "found")))
  (fSeq (fExpr (fMeth isL bAppend (fAttr 400 (Str.ofString "term_ops") (fVar (Str.ofString "self"))) (fCons (fVar (Str.ofString "op")) (fNil))))
  (fSeq (fExpr (fMeth isL bAppend (fAttr 400 (Str.ofString "term_args") (fVar (Str.ofString "self"))) (fCons (fVar (Str.ofString "args")) (fNil))))
  (fSeq (fExpr (fMeth isL bAppend (fAttr 400 (Str.ofString "term_sorts") (fVar (Str.ofString "self"))) (fCons (fVar (Str.ofString "sort")) (fNil))))
  (fSeq (fExpr (fMeth isL bAppend (fAttr 400 (Str.ofString "term_datas") (fVar (Str.ofString "self"))) (fCons (fVar (Str.ofString "data")) (fNil))))
  (fSeq (fAsgE (fVar (Str.ofString "found")) (fSetSub (fAttr 400 (Str.ofString "numbers") (fVar (Str.ofString "self"))) (fVar (Str.ofString "key"))))
  (fSkip))))))) (fSkip))
  (fSeq (fRet (fVar (Str.ofString "found")))
  (fSkip))))
noncomputable def F_Bank_make : List V → Hp → Out V := fDef [Str.ofString "self", Str.ofString "op", Str.ofString "args", Str.ofString "sort", Str.ofString "data"] f_Bank_make
noncomputable def f_Bank_init : FS := fSeq (fAsgE (fList (fCons (fC (.str (Str.ofString "Bool"))) (fCons (fC (.str (Str.ofString "Int"))) (fCons (fC (.str (Str.ofString "Real"))) (fNil))))) (fSetAttr 400 (Str.ofString "sort_names") (fVar (Str.ofString "self"))))
  (fSeq (fAsgE (fList (fCons (fC (.int 0)) (fCons (fC (.int 0)) (fCons (fC (.int 0)) (fNil))))) (fSetAttr 400 (Str.ofString "sort_widths") (fVar (Str.ofString "self"))))
  (fSeq (fAsgE (fList (fNil)) (fSetAttr 400 (Str.ofString "fun_names") (fVar (Str.ofString "self"))))
  (fSeq (fAsgE (fList (fNil)) (fSetAttr 400 (Str.ofString "fun_args") (fVar (Str.ofString "self"))))
  (fSeq (fAsgE (fList (fNil)) (fSetAttr 400 (Str.ofString "fun_results") (fVar (Str.ofString "self"))))
  (fSeq (fAsgE (fC (.int 0)) (fSetAttr 400 (Str.ofString "fresh_count") (fVar (Str.ofString "self"))))
  (fSeq (fAsgE (fList (fCons (fC (.str (Str.ofString ""))) (fNil))) (fSetAttr 400 (Str.ofString "term_ops") (fVar (Str.ofString "self"))))
  (fSeq (fAsgE (fList (fCons (fTup (fNil)) (fNil))) (fSetAttr 400 (Str.ofString "term_args") (fVar (Str.ofString "self"))))
  (fSeq (fAsgE (fList (fCons (fC (.int 0)) (fNil))) (fSetAttr 400 (Str.ofString "term_sorts") (fVar (Str.ofString "self"))))
  (fSeq (fAsgE (fList (fCons (fC (.int 0)) (fNil))) (fSetAttr 400 (Str.ofString "term_datas") (fVar (Str.ofString "self"))))
  (fSeq (fAsgE (fDict0T) (fSetAttr 400 (Str.ofString "numbers") (fVar (Str.ofString "self"))))
  (fSeq (fAsgE (fMeth (isI 400 (Str.ofString "make")) F_Bank_make (fVar (Str.ofString "self")) (fCons (fC (.str (Str.ofString "true"))) (fCons (fTup (fNil)) (fCons (fC (.int 0)) (fCons (fC (.int 0)) (fNil)))))) (fSetAttr 400 (Str.ofString "true_number") (fVar (Str.ofString "self"))))
  (fSeq (fAsgE (fMeth (isI 400 (Str.ofString "make")) F_Bank_make (fVar (Str.ofString "self")) (fCons (fC (.str (Str.ofString "false"))) (fCons (fTup (fNil)) (fCons (fC (.int 0)) (fCons (fC (.int 0)) (fNil)))))) (fSetAttr 400 (Str.ofString "false_number") (fVar (Str.ofString "self"))))
  (fSkip)))))))))))))
noncomputable def F_Bank_init : List V → Hp → Out V := fDef [Str.ofString "self"] f_Bank_init
noncomputable def f_Symbols_clear : FS := fSeq (fAsgE (fDict0S) (fSetAttr 558 (Str.ofString "sorts") (fVar (Str.ofString "self"))))
  (fSeq (fAsgE (fDict0S) (fSetAttr 558 (Str.ofString "functions") (fVar (Str.ofString "self"))))
  (fSeq (fAsgE (fList (fNil)) (fSetAttr 558 (Str.ofString "brought") (fVar (Str.ofString "self"))))
  (fSeq (fAsgE (fList (fNil)) (fSetAttr 558 (Str.ofString "scopes") (fVar (Str.ofString "self"))))
  (fSeq (fAsgE (fList (fNil)) (fSetAttr 558 (Str.ofString "lets") (fVar (Str.ofString "self"))))
  (fSeq (fAsgE (fC (.int 1)) (fSetAttr 558 (Str.ofString "numeral_sort") (fVar (Str.ofString "self"))))
  (fSkip))))))
noncomputable def F_Symbols_clear : List V → Hp → Out V := fDef [Str.ofString "self"] f_Symbols_clear
noncomputable def f_Symbols_init : FS := fSeq (fAsgE (fVar (Str.ofString "bank")) (fSetAttr 558 (Str.ofString "bank") (fVar (Str.ofString "self"))))
  (fSeq (fExpr (fMeth (isI 558 (Str.ofString "clear")) F_Symbols_clear (fVar (Str.ofString "self")) (fNil)))
  (fSkip))
noncomputable def F_Symbols_init : List V → Hp → Out V := fDef [Str.ofString "self", Str.ofString "bank"] f_Symbols_init
noncomputable def f_SortReader_init : FS := fSeq (fAsgE (fVar (Str.ofString "bank")) (fSetAttr 682 (Str.ofString "bank") (fVar (Str.ofString "self"))))
  (fSeq (fAsgE (fVar (Str.ofString "symbols")) (fSetAttr 682 (Str.ofString "symbols") (fVar (Str.ofString "self"))))
  (fSkip))
noncomputable def F_SortReader_init : List V → Hp → Out V := fDef [Str.ofString "self", Str.ofString "bank", Str.ofString "symbols"] f_SortReader_init
noncomputable def f_CoreElaborator_init : FS := fSeq (fAsgE (fVar (Str.ofString "bank")) (fSetAttr 846 (Str.ofString "bank") (fVar (Str.ofString "self"))))
  (fSeq (fAsgE (fVar (Str.ofString "symbols")) (fSetAttr 846 (Str.ofString "symbols") (fVar (Str.ofString "self"))))
  (fSeq (fAsgE (fCall (fMake 682 F_SortReader_init) (fCons (fVar (Str.ofString "bank")) (fCons (fVar (Str.ofString "symbols")) (fNil)))) (fSetAttr 846 (Str.ofString "sort_reader") (fVar (Str.ofString "self"))))
  (fSkip)))
noncomputable def F_CoreElaborator_init : List V → Hp → Out V := fDef [Str.ofString "self", Str.ofString "bank", Str.ofString "symbols"] f_CoreElaborator_init
noncomputable def f_name_of : FS := fSeq (fIf (fBin oNe (fSub (fVar (Str.ofString "item")) (fC (.int 0))) (fC (.str (Str.ofString "sym")))) (fSeq (fRaise ((fJ (fFv (fVar (Str.ofString "what"))) (fJ (fC (.str (Str.ofString ": a symbol is wanted"))) (fJ0))) Str.empty))
  (fSkip)) (fSkip))
  (fSeq (fRet (fSub (fVar (Str.ofString "item")) (fC (.int 1))))
  (fSkip))
noncomputable def F_name_of : List V → Hp → Out V := fDef [Str.ofString "item", Str.ofString "what"] f_name_of
noncomputable def f_CoreElaborator_names_noted_t1 : FE := fBin oLt (fVar (Str.ofString "place")) (fCall bLen (fCons (fVar (Str.ofString "parts")) (fNil)))
noncomputable def f_CoreElaborator_names_noted_b2 : FS := fSeq (fIf (fBin oNe (fSub (fSub (fVar (Str.ofString "parts")) (fVar (Str.ofString "place"))) (fC (.int 0))) (fC (.str (Str.ofString "key")))) (fSeq (fRaise (fC (.str (Str.ofString "!: a note begins with a keyword"))))
  (fSkip)) (fSkip))
  (fSeq (fAsgE (fAnd (fBin oLt (fBin oAdd (fVar (Str.ofString "place")) (fC (.int 1))) (fCall bLen (fCons (fVar (Str.ofString "parts")) (fNil)))) (fBin oNe (fSub (fSub (fVar (Str.ofString "parts")) (fBin oAdd (fVar (Str.ofString "place")) (fC (.int 1)))) (fC (.int 0))) (fC (.str (Str.ofString "key"))))) (fSet (Str.ofString "has_worth")))
  (fSeq (fIf (fBin oEq (fSub (fSub (fVar (Str.ofString "parts")) (fVar (Str.ofString "place"))) (fC (.int 1))) (fC (.str (Str.ofString "named")))) (fSeq (fIf (fNot (fVar (Str.ofString "has_worth"))) (fSeq (fRaise (fC (.str (Str.ofString "!: a name is wanted"))))
  (fSkip)) (fSkip))
  (fSeq (fExpr (fMeth isL bAppend (fVar (Str.ofString "found")) (fCons (fCall F_name_of (fCons (fSub (fVar (Str.ofString "parts")) (fBin oAdd (fVar (Str.ofString "place")) (fC (.int 1)))) (fCons (fC (.str (Str.ofString "!"))) (fNil)))) (fNil))))
  (fSkip))) (fSkip))
  (fSeq (fAsgE (fIte (fVar (Str.ofString "has_worth")) (fBin oAdd (fVar (Str.ofString "place")) (fC (.int 2))) (fBin oAdd (fVar (Str.ofString "place")) (fC (.int 1)))) (fSet (Str.ofString "place")))
  (fSkip))))
noncomputable def f_CoreElaborator_names_noted : FS := fSeq (fIf (fBin oLt (fCall bLen (fCons (fVar (Str.ofString "parts")) (fNil))) (fC (.int 3))) (fSeq (fRaise (fC (.str (Str.ofString "! has a term and notes"))))
  (fSkip)) (fSkip))
  (fSeq (fAsgE (fTup (fCons (fList (fNil)) (fCons (fC (.int 2)) (fNil)))) (fSwap [Str.ofString "found", Str.ofString "place"]))
  (fSeq (fWhile (f_CoreElaborator_names_noted_t1) (f_CoreElaborator_names_noted_b2) 5000)
  (fSeq (fRet (fVar (Str.ofString "found")))
  (fSkip))))
noncomputable def F_CoreElaborator_names_noted : List V → Hp → Out V := fDef [Str.ofString "self", Str.ofString "parts"] f_CoreElaborator_names_noted
noncomputable def f_law_deal : FS := fSeq (fAugSub (fVar (Str.ofString "hat")) (fC (.str (Str.ofString "turn"))) (fC (.int 1)))
  (fSeq (fIf (fBin oLe (fSub (fVar (Str.ofString "hat")) (fC (.str (Str.ofString "turn")))) (fCall bLen (fCons (fSub (fVar (Str.ofString "hat")) (fC (.str (Str.ofString "cells")))) (fNil)))) (fSeq (fRet (fBin oMod (fSub (fSub (fVar (Str.ofString "hat")) (fC (.str (Str.ofString "cells")))) (fBin oSub (fSub (fVar (Str.ofString "hat")) (fC (.str (Str.ofString "turn")))) (fC (.int 1)))) (fVar (Str.ofString "many"))))
  (fSkip)) (fSkip))
  (fSeq (fRet (fBin oMod (fBin oMod (fBin oAdd (fBin oAdd (fBin oMul (fC (.int 6)) (fSub (fVar (Str.ofString "hat")) (fC (.str (Str.ofString "turn"))))) (fBin oDiv (fBin oSq (fSub (fVar (Str.ofString "hat")) (fC (.str (Str.ofString "turn")))) (fC (.int 2))) (fC (.int 3)))) (fC (.int 1))) (fC (.int 43))) (fVar (Str.ofString "many"))))
  (fSkip)))
noncomputable def F_law_deal : List V → Hp → Out V := fDef [Str.ofString "hat", Str.ofString "many"] f_law_deal
noncomputable def f_law_worth : FS := fSeq (fAsgE (fTup (fCons (fTup (fCons (fC (.str (Str.ofString "sym"))) (fCons (fC (.str (Str.ofString "a"))) (fNil)))) (fCons (fTup (fCons (fC (.str (Str.ofString "sym"))) (fCons (fC (.str (Str.ofString "b"))) (fNil)))) (fCons (fTup (fCons (fC (.str (Str.ofString "num"))) (fCons (fC (.int 3)) (fNil)))) (fCons (fTup (fCons (fC (.str (Str.ofString "str"))) (fCons (fC (.str (Str.ofString "named"))) (fNil)))) (fCons (fTup (fCons (fC (.str (Str.ofString "list"))) (fCons (fTup (fCons (fTup (fCons (fC (.str (Str.ofString "key"))) (fCons (fC (.str (Str.ofString "named"))) (fNil)))) (fNil))) (fNil)))) (fCons (fTup (fCons (fC (.str (Str.ofString "sym"))) (fCons (fC (.str (Str.ofString "named"))) (fNil)))) (fNil)))))))) (fSet (Str.ofString "some")))
  (fSeq (fRet (fSub (fVar (Str.ofString "some")) (fCall F_law_deal (fCons (fVar (Str.ofString "hat")) (fCons (fC (.int 6)) (fNil))))))
  (fSkip))
noncomputable def F_law_worth : List V → Hp → Out V := fDef [Str.ofString "hat"] f_law_worth
noncomputable def f_law_piece : FS := fSeq (fAsgE (fCall F_law_deal (fCons (fVar (Str.ofString "hat")) (fCons (fC (.int 6)) (fNil)))) (fSet (Str.ofString "way")))
  (fSeq (fIf (fBin oLt (fVar (Str.ofString "way")) (fC (.int 2))) (fSeq (fRet (fList (fCons (fTup (fCons (fC (.str (Str.ofString "key"))) (fCons (fC (.str (Str.ofString "named"))) (fNil)))) (fCons (fTup (fCons (fC (.str (Str.ofString "sym"))) (fCons (fSub (fTup (fCons (fC (.str (Str.ofString "a"))) (fCons (fC (.str (Str.ofString "b"))) (fCons (fC (.str (Str.ofString "named"))) (fNil))))) (fCall F_law_deal (fCons (fVar (Str.ofString "hat")) (fCons (fC (.int 3)) (fNil))))) (fNil)))) (fNil)))))
  (fSkip)) (fSkip))
  (fSeq (fAsgE (fTup (fCons (fC (.str (Str.ofString "key"))) (fCons (fSub (fTup (fCons (fC (.str (Str.ofString "pattern"))) (fCons (fC (.str (Str.ofString "weight"))) (fCons (fC (.str (Str.ofString "a"))) (fNil))))) (fCall F_law_deal (fCons (fVar (Str.ofString "hat")) (fCons (fC (.int 3)) (fNil))))) (fNil)))) (fSet (Str.ofString "key")))
  (fSeq (fIf (fBin oLt (fVar (Str.ofString "way")) (fC (.int 5))) (fSeq (fRet (fIte (fBin oLt (fVar (Str.ofString "way")) (fC (.int 4))) (fList (fCons (fVar (Str.ofString "key")) (fNil))) (fList (fCons (fVar (Str.ofString "key")) (fCons (fCall F_law_worth (fCons (fVar (Str.ofString "hat")) (fNil))) (fNil))))))
  (fSkip)) (fSkip))
  (fSeq (fRet (fList (fCons (fIte (fBin oEq (fCall F_law_deal (fCons (fVar (Str.ofString "hat")) (fCons (fC (.int 2)) (fNil)))) (fC (.int 0))) (fCall F_law_worth (fCons (fVar (Str.ofString "hat")) (fNil))) (fTup (fCons (fC (.str (Str.ofString "key"))) (fCons (fC (.str (Str.ofString "named"))) (fNil))))) (fNil))))
  (fSkip)))))
noncomputable def F_law_piece : List V → Hp → Out V := fDef [Str.ofString "hat"] f_law_piece
noncomputable def f_law_due_c1 : FE := fBin oEq (fVar (Str.ofString "one")) (fTup (fCons (fC (.str (Str.ofString "key"))) (fCons (fC (.str (Str.ofString "named"))) (fNil))))
noncomputable def f_law_due_e2 : FE := fSub (fVar (Str.ofString "other")) (fC (.int 1))
noncomputable def f_law_due_b3 : FS := fSeq (fIf (fAnd (fBin oNotNone (fVar (Str.ofString "other")) (fC .none)) (fAnd (fBin oNe (fSub (fVar (Str.ofString "other")) (fC (.int 0))) (fC (.str (Str.ofString "key")))) (fOr (fBin oIsNone (fVar (Str.ofString "one")) (fC .none)) (fBin oNe (fSub (fVar (Str.ofString "one")) (fC (.int 0))) (fC (.str (Str.ofString "key"))))))) (fSeq (fRet (fC .none))
  (fSkip)) (fSkip))
  (fSeq (fIf (fAnd (fBin oEq (fVar (Str.ofString "one")) (fTup (fCons (fC (.str (Str.ofString "key"))) (fCons (fC (.str (Str.ofString "named"))) (fNil))))) (fOr (fBin oIsNone (fVar (Str.ofString "other")) (fC .none)) (fBin oNe (fSub (fVar (Str.ofString "other")) (fC (.int 0))) (fC (.str (Str.ofString "sym")))))) (fSeq (fRet (fC .none))
  (fSkip)) (fSkip))
  (fSkip))
noncomputable def f_law_due : FS := fSeq (fAsgE (fListZip (fCons (fBin oAdd (fList (fCons (fC .none) (fNil))) (fVar (Str.ofString "notes"))) (fCons (fBin oAdd (fVar (Str.ofString "notes")) (fList (fCons (fC .none) (fNil)))) (fNil)))) (fSet (Str.ofString "pairs")))
  (fSeq (fForS (fIter (fVar (Str.ofString "pairs"))) (fUnpack 2 (fT (fSet (Str.ofString "one")) (fT (fSet (Str.ofString "other")) (fT0)))) (f_law_due_b3))
  (fSeq (fRet (fIte (fBin oNe (fVar (Str.ofString "notes")) (fList (fNil))) (fComp [] (fIter (fVar (Str.ofString "pairs"))) (vPair (Str.ofString "one") (Str.ofString "other")) (f_law_due_c1) (f_law_due_e2)) (fC .none)))
  (fSkip)))
noncomputable def F_law_due : List V → Hp → Out V := fDef [Str.ofString "notes"] f_law_due
noncomputable def f_law_told : FS := fSeq (fTry (fSeq (fRet (fMeth (isI 846 (Str.ofString "names_noted")) F_CoreElaborator_names_noted (fVar (Str.ofString "reader")) (fCons (fBin oAdd (fVar (Str.ofString "head")) (fVar (Str.ofString "notes"))) (fNil))))
  (fSkip)) (fC .none))
  (fSkip)
noncomputable def F_law_told : List V → Hp → Out V := fDef [Str.ofString "reader", Str.ofString "head", Str.ofString "notes"] f_law_told
noncomputable def f_law_lots_b1 : FS := fSeq (fIf (fBin oEq (fSub (fVar (Str.ofString "item")) (fC (.int 0))) (fC (.str (Str.ofString "key")))) (fSeq (fExpr (fMeth isL bAppend (fVar (Str.ofString "found")) (fCons (fList (fNil)) (fNil))))
  (fSkip)) (fSkip))
  (fSeq (fExpr (fMeth isL bAppend (fSub (fVar (Str.ofString "found")) (fNeg (fC (.int 1)))) (fCons (fVar (Str.ofString "item")) (fNil))))
  (fSkip))
noncomputable def f_law_lots : FS := fSeq (fAsgE (fList (fNil)) (fSet (Str.ofString "found")))
  (fSeq (fForS (fIter (fVar (Str.ofString "notes"))) (fSet (Str.ofString "item")) (f_law_lots_b1))
  (fSeq (fRet (fVar (Str.ofString "found")))
  (fSkip)))
noncomputable def F_law_lots : List V → Hp → Out V := fDef [Str.ofString "notes"] f_law_lots
noncomputable def f_law_b1 : FS := fSeq (fAsgE (fTup (fCons (fCall F_law_told (fCons (fVar (Str.ofString "reader")) (fCons (fVar (Str.ofString "head")) (fCons (fCall bSum (fCons (fSlice (fVar (Str.ofString "lots")) (fC .none) (fVar (Str.ofString "at")) (fC .none)) (fCons (fList (fNil)) (fNil)))) (fNil))))) (fCons (fCall F_law_told (fCons (fVar (Str.ofString "reader")) (fCons (fVar (Str.ofString "head")) (fCons (fCall bSum (fCons (fSlice (fVar (Str.ofString "lots")) (fVar (Str.ofString "at")) (fC .none) (fC .none)) (fCons (fList (fNil)) (fNil)))) (fNil))))) (fNil)))) (fSwap [Str.ofString "one", Str.ofString "other"]))
  (fSeq (fIf (fOr (fBin oIsNone (fVar (Str.ofString "one")) (fC .none)) (fOr (fBin oIsNone (fVar (Str.ofString "other")) (fC .none)) (fBin oNe (fBin oAdd (fVar (Str.ofString "one")) (fVar (Str.ofString "other"))) (fVar (Str.ofString "due"))))) (fSeq (fRet (fC (.bool false)))
  (fSkip)) (fSkip))
  (fSkip))
noncomputable def f_law_b2 : FS := fSeq (fAsgE (fBin oAdd (fVar (Str.ofString "notes")) (fCall F_law_piece (fCons (fVar (Str.ofString "hat")) (fNil)))) (fSet (Str.ofString "notes")))
  (fSkip)
noncomputable def f_law_b3 : FS := fSeq (fAsgE (fTup (fCons (fList (fCons (fSub (fTup (fCons (fTup (fCons (fC (.str (Str.ofString "sym"))) (fCons (fC (.str (Str.ofString "!"))) (fNil)))) (fCons (fTup (fCons (fC (.str (Str.ofString "key"))) (fCons (fC (.str (Str.ofString "named"))) (fNil)))) (fNil)))) (fCall F_law_deal (fCons (fVar (Str.ofString "hat")) (fCons (fC (.int 2)) (fNil))))) (fCons (fCall F_law_worth (fCons (fVar (Str.ofString "hat")) (fNil))) (fNil)))) (fCons (fList (fNil)) (fNil)))) (fSwap [Str.ofString "head", Str.ofString "notes"]))
  (fSeq (fForS (fRange (fCons (fCall F_law_deal (fCons (fVar (Str.ofString "hat")) (fCons (fC (.int 6)) (fNil)))) (fNil))) (fSet (Str.ofString "turn")) (f_law_b2))
  (fSeq (fAsgE (fCall F_law_due (fCons (fVar (Str.ofString "notes")) (fNil))) (fSet (Str.ofString "due")))
  (fSeq (fIf (fOr (fBin oNe (fCall F_law_told (fCons (fVar (Str.ofString "reader")) (fCons (fVar (Str.ofString "head")) (fCons (fVar (Str.ofString "notes")) (fNil))))) (fVar (Str.ofString "due"))) (fBin oNe (fCall F_law_told (fCons (fVar (Str.ofString "reader")) (fCons (fList (fCons (fTup (fCons (fC (.str (Str.ofString "num"))) (fCons (fC (.int 1)) (fNil)))) (fCons (fTup (fCons (fC (.str (Str.ofString "key"))) (fCons (fC (.str (Str.ofString "x"))) (fNil)))) (fNil)))) (fCons (fVar (Str.ofString "notes")) (fNil))))) (fVar (Str.ofString "due")))) (fSeq (fRet (fC (.bool false)))
  (fSkip)) (fSkip))
  (fSeq (fIf (fBin oIsNone (fVar (Str.ofString "due")) (fC .none)) (fSeq ((fun m H => .ok .cont m H))
  (fSkip)) (fSkip))
  (fSeq (fAsgE (fCall F_law_lots (fCons (fVar (Str.ofString "notes")) (fNil))) (fSet (Str.ofString "lots")))
  (fSeq (fForS (fRange (fCons (fC (.int 1)) (fCons (fCall bLen (fCons (fVar (Str.ofString "lots")) (fNil))) (fNil)))) (fSet (Str.ofString "at")) (f_law_b1))
  (fSeq (fIf (fBin oNe (fCall F_law_told (fCons (fVar (Str.ofString "reader")) (fCons (fVar (Str.ofString "head")) (fCons (fCall bSum (fCons (fSlice (fVar (Str.ofString "lots")) (fC .none) (fC .none) (fNeg (fC (.int 1)))) (fCons (fList (fNil)) (fNil)))) (fNil))))) (fSlice (fVar (Str.ofString "due")) (fC .none) (fC .none) (fNeg (fC (.int 1))))) (fSeq (fRet (fC (.bool false)))
  (fSkip)) (fSkip))
  (fSeq (fIf (fBin oNe (fCall F_law_told (fCons (fVar (Str.ofString "reader")) (fCons (fVar (Str.ofString "head")) (fCons (fBin oAdd (fVar (Str.ofString "notes")) (fVar (Str.ofString "notes"))) (fNil))))) (fBin oAdd (fVar (Str.ofString "due")) (fVar (Str.ofString "due")))) (fSeq (fRet (fC (.bool false)))
  (fSkip)) (fSkip))
  (fSkip)))))))))
noncomputable def f_law_e4 : FE := fBin oMod (fCall bAbs (fCons (fVar (Str.ofString "cell")) (fNil))) (fC (.int 10009))
noncomputable def f_law : FS := fSeq (fAsgE (fTup (fCons (fDictS (fCons (fC (.str (Str.ofString "cells"))) (fCons (fComp [] (fIter (fSliceZ (fVar (Str.ofString "script")) (fC (.int 50)))) (vName (Str.ofString "cell")) (fC (.bool true)) (f_law_e4)) (fCons (fC (.str (Str.ofString "turn"))) (fCons (fC (.int 0)) (fNil)))))) (fCons (fCall (fMake 400 F_Bank_init) (fNil)) (fNil)))) (fSwap [Str.ofString "hat", Str.ofString "bank"]))
  (fSeq (fAsgE (fCall (fMake 846 F_CoreElaborator_init) (fCons (fVar (Str.ofString "bank")) (fCons (fCall (fMake 558 F_Symbols_init) (fCons (fVar (Str.ofString "bank")) (fNil))) (fNil)))) (fSet (Str.ofString "reader")))
  (fSeq (fForS (fRange (fCons (fC (.int 3)) (fNil))) (fSet (Str.ofString "lap")) (f_law_b3))
  (fSeq (fRet (fBin oIsNone (fCall F_law_told (fCons (fVar (Str.ofString "reader")) (fCons (fList (fCons (fTup (fCons (fC (.str (Str.ofString "sym"))) (fCons (fC (.str (Str.ofString "!"))) (fNil)))) (fNil))) (fCons (fList (fNil)) (fNil))))) (fC .none)))
  (fSkip))))
noncomputable def F_law : List V → Hp → Out V := fDef [Str.ofString "script"] f_law
end MP
namespace MP
theorem ofS_inj {a b : String} (h : Str.ofString a = Str.ofString b) : a = b := by
  rw [Str.ofString_eq_toList, Str.ofString_eq_toList] at h
  have h1 : (a.toList.map Char.toNat).toArray = (b.toList.map Char.toNat).toArray := congrArg Str.cps h
  have h2 : a.toList.map Char.toNat = b.toList.map Char.toNat := by simpa using h1
  have h3 : a.toList = b.toList := (List.map_inj_right fun x y e => Char.toNat_inj.mp e).mp h2
  exact String.toList_inj.mp h3
theorem ofS_eq (a b : String) : (Str.ofString a = Str.ofString b) = (a = b) := propext ⟨ofS_inj, fun e => e ▸ rfl⟩
theorem ofS_beq (a b : String) : (Str.ofString a == Str.ofString b) = (a == b) := by
  rw [Bool.eq_iff_iff, beq_iff_eq, beq_iff_eq, ofS_eq]
theorem ofS_dec (a b : String) : decide (Str.ofString a = Str.ofString b) = (a == b) := by
  rw [Bool.eq_iff_iff, decide_eq_true_eq, beq_iff_eq, ofS_eq]

theorem o_ok {α β : Type} (a : α) (H : Hp) (k : α → Hp → Out β) : Out.bind (.ok a H) k = k a H := rfl
theorem o_exc {α β : Type} (H : Hp) (k : α → Hp → Out β) : Out.bind (.exc H : Out α) k = .exc H := rfl
theorem o_bad {α β : Type} (k : α → Hp → Out β) : Out.bind (.bad : Out α) k = .bad := rfl
theorem oS_ok {α : Type} (m : Fm) (a : α) (H : Hp) (k : α → Hp → OutS) : Out.bindS m (.ok a H) k = k a H := rfl
theorem oS_exc {α : Type} (m : Fm) (H : Hp) (k : α → Hp → OutS) : Out.bindS m (.exc H : Out α) k = .exc m H := rfl
theorem s_ok (f : Fl) (m : Fm) (H : Hp) (k : Fl → Fm → Hp → OutS) : OutS.bind (.ok f m H) k = k f m H := rfl
theorem s_exc (m : Fm) (H : Hp) (k : Fl → Fm → Hp → OutS) : OutS.bind (.exc m H) k = .exc m H := rfl

theorem get_app {H t : Hp} {i : Nat} {o : AObj} (h : H[i]? = some o) : (H ++ t)[i]? = some o := by
  rw [List.getElem?_append_left (List.getElem?_eq_some_iff.mp h).1]; exact h
theorem get_app_at (H : Hp) (o : AObj) (t : Hp) : (H ++ o :: t)[H.length]? = some o := by simp
theorem get_set_ne {H : Hp} {i j : Nat} {o o' : AObj} (hn : i ≠ j) (h : H[i]? = some o) : (H.set j o')[i]? = some o := by
  rw [List.getElem?_set_ne (Ne.symm hn)]; exact h
theorem get_set_eq {H : Hp} {i : Nat} {o o' : AObj} (h : H[i]? = some o) : (H.set i o')[i]? = some o' := by
  rw [List.getElem?_set_self (List.getElem?_eq_some_iff.mp h).1]
theorem lt_of_get {H : Hp} {i : Nat} {o : AObj} (h : H[i]? = some o) : i < H.length := (List.getElem?_eq_some_iff.mp h).1
theorem newL_ok {xs : List V} {H : Hp} (h : xs.length ≤ 1000000) : newL xs H = .ok (.ref H.length) (H ++ [.list xs]) := if_pos h
theorem idx_nn {n : Nat} {k : Int} (h0 : 0 ≤ k) (h1 : k < n) (hn : n ≤ 1000000) : idx n k = some k.toNat := by
  unfold idx
  rw [if_pos ⟨by omega, by omega⟩, if_pos h0, if_pos h1]
theorem oSq_ok {a : Int} {H : Hp} (h0 : 0 ≤ a) (h1 : a ≤ 1000000000000) : oSq (.int a) (.int 2) H = .ok (.int (a * a)) H := by
  unfold oSq
  by_cases h2 : 2 ≤ a
  · simp [h2, h1]
  · have : a = 0 ∨ a = 1 := by omega
    rcases this with rfl | rfl <;> simp
theorem oMod_ok {a b : Int} {H : Hp} (h : 0 < b) : oMod (.int a) (.int b) H = .ok (.int (a.fmod b)) H := by
  unfold oMod
  simp only
  rw [if_neg (by omega)]
theorem bLen_list {H : Hp} {i : Nat} {xs : List V} (h : H[i]? = some (.list xs)) (hl : xs.length < 1000000000) : bLen [.ref i] H = .ok (.int xs.length) H := by
  unfold bLen
  simp only [h]
  rw [if_pos hl]
theorem oItem_list {H : Hp} {i : Nat} {xs : List V} {k : Int} {v : V} (h : H[i]? = some (.list xs)) (hl : xs.length ≤ 1000000) (h0 : 0 ≤ k) (h1 : k < xs.length) (hv : xs[k.toNat]? = some v) : oItem (.ref i) (.int k) H = .ok v H := by
  unfold oItem
  simp only [h, idx_nn h0 h1 hl, hv]
theorem oItem_str {i : Nat} {k : Str} {H : Hp} : oItem (.ref i) (.str k) H = match H[i]? with | some (.dictS kvs) => (match dGet kvs k with | some x => .ok x H | none => .bad) | _ => .bad := rfl
theorem oAdd_ii {a b : Int} {H : Hp} : oAdd (.int a) (.int b) H = .ok (.int (a + b)) H := rfl
theorem oSub_ii {a b : Int} {H : Hp} : oSub (.int a) (.int b) H = .ok (.int (a - b)) H := rfl
theorem oMul_ii {a b : Int} {H : Hp} : oMul (.int a) (.int b) H = if -1000000000000 ≤ a ∧ a ≤ 1000000000000 then .ok (.int (a * b)) H else .bad := rfl
theorem oDiv_3 {a : Int} {H : Hp} : oDiv (.int a) (.int 3) H = .ok (.int (a.fdiv 3)) H := rfl
theorem oLt_ii {a b : Int} {H : Hp} : oLt (.int a) (.int b) H = .ok (.bool (decide (a < b))) H := rfl
theorem oLe_ii {a b : Int} {H : Hp} : oLe (.int a) (.int b) H = .ok (.bool (decide (a ≤ b))) H := rfl
theorem oGt_ii {a b : Int} {H : Hp} : oGt (.int a) (.int b) H = .ok (.bool (decide (a > b))) H := rfl
theorem oGe_ii {a b : Int} {H : Hp} : oGe (.int a) (.int b) H = .ok (.bool (decide (a ≥ b))) H := rfl
theorem oIsNone_n {v : V} {H : Hp} : oIsNone v .none H = .ok (.bool (isNone v)) H := rfl
theorem oNotNone_n {v : V} {H : Hp} : oNotNone v .none H = .ok (.bool !(isNone v)) H := rfl
theorem oItem_ti {vs : List V} {k : Int} {H : Hp} : oItem (.tup vs) (.int k) H = match idx vs.length k with | some j => (match vs[j]? with | some x => .ok x H | none => .bad) | none => .bad := rfl
theorem isL_list {xs : List V} : isL (.list xs) = true := rfl
theorem bAppend_l {i : Nat} {v : V} {H : Hp} : bAppend [.ref i, v] H = match H[i]? with | some (.list xs) => if xs.length < 1000000 then .ok .none (H.set i (.list (xs ++ [v]))) else .bad | _ => .bad := rfl
theorem fWhile_S {ft : FE} {fb : FS} {n : Nat} {m : Fm} {H : Hp} : fWhile ft fb (n + 1) m H = (ft m H).bindS m fun v H1 => match v with
    | .bool true => (fb m H1).bind fun fl m2 H2 => (match fl with
      | .next => fWhile ft fb n m2 H2
      | .cont => fWhile ft fb n m2 H2
      | .brk => .ok .next m2 H2
      | .ret v => .ok (.ret v) m2 H2)
    | .bool false => .ok .next m H1
    | _ => .bad := rfl
theorem fTry_ap {fb : FS} {fe : FE} {m : Fm} {H : Hp} : fTry fb fe m H = match fb m H with
  | .exc m1 H1 => (match fe m1 H1 with
    | .ok v H2 => .ok (.ret v) m1 H2
    | _ => .bad)
  | o => o := rfl
theorem isNone_n : isNone .none = true := rfl
theorem isNone_t {vs : List V} : isNone (.tup vs) = false := rfl
theorem isNone_r {i : Nat} : isNone (.ref i) = false := rfl
theorem idx_z {n : Nat} : idx (n + 1) 0 = some 0 := by unfold idx; rw [if_pos (by decide), if_pos (by decide), if_pos (by omega)]; rfl
theorem idx_1 {n : Nat} : idx (n + 2) 1 = some 1 := by unfold idx; rw [if_pos (by decide), if_pos (by decide), if_pos (by omega)]; rfl
theorem strOk_ofS (s : String) : PyData.strOk (Str.ofString s) = true := by
  rw [Str.ofString_eq_toList]
  unfold PyData.strOk
  rw [Array.all_eq_true]
  intro i hi
  simp only [List.getElem_toArray, List.getElem_map, decide_eq_true_eq]
  have hv := (s.toList[i]'(by simpa using hi)).valid
  rcases hv with h | ⟨_, h⟩
  · exact Nat.lt_of_lt_of_le h (by decide)
  · exact h
theorem oEq_ss {x y : String} {H : Hp} : oEq (.str (Str.ofString x)) (.str (Str.ofString y)) H = .ok (.bool (x == y)) H := by
  unfold oEq toD
  simp only [strOk_ofS, if_true]
  rw [← ofS_beq]; rfl
theorem oNe_ss {x y : String} {H : Hp} : oNe (.str (Str.ofString x)) (.str (Str.ofString y)) H = .ok (.bool !(x == y)) H := by
  unfold oNe toD
  simp only [strOk_ofS, if_true]
  rw [← ofS_beq]; rfl
theorem toD_str {H : Hp} {n : Nat} {x : Str} (h : PyData.strOk x = true) : toD H n (.str x) = some (.str x) := by
  unfold toD; cases n <;> simp [h]
theorem toD_int {H : Hp} {n : Nat} {i : Int} : toD H n (.int i) = some (.int i) := by unfold toD; cases n <;> rfl
theorem toD_none {H : Hp} {n : Nat} : toD H n .none = some .none := by unfold toD; cases n <;> rfl
theorem toD_tup {H : Hp} {n : Nat} {vs : List V} : toD H (n + 1) (.tup vs) = (toDs (toD H n) vs).map .tuple := by rw [toD]
theorem toD_list {H : Hp} {n i : Nat} {xs : List V} (h : H[i]? = some (.list xs)) : toD H (n + 1) (.ref i) = (toDs (toD H n) xs).map .list := by rw [toD]; simp only [h]
theorem oEq_int {a b : Int} {H : Hp} : oEq (.int a) (.int b) H = .ok (.bool (a == b)) H := by
  unfold oEq; rw [toD_int, toD_int]; rfl
theorem oNe_int {a b : Int} {H : Hp} : oNe (.int a) (.int b) H = .ok (.bool !(a == b)) H := by
  unfold oNe; rw [toD_int, toD_int]; rfl
noncomputable def Step (h : Nat) (H H' : Hp) : Prop := H.length ≤ H'.length ∧ ∀ i o, i ≠ h → H[i]? = some o → H'[i]? = some o
noncomputable def Ext (H H' : Hp) : Prop := ∃ t, H' = H ++ t
theorem Step.refl (h : Nat) (H : Hp) : Step h H H := ⟨Nat.le_refl _, fun _ _ _ e => e⟩
theorem Step.trans {h : Nat} {H1 H2 H3 : Hp} (x : Step h H1 H2) (y : Step h H2 H3) : Step h H1 H3 := ⟨Nat.le_trans x.1 y.1, fun i o n e => y.2 i o n (x.2 i o n e)⟩
theorem Step.set (h : Nat) (H : Hp) (o : AObj) : Step h H (H.set h o) := ⟨by simp, fun i o' n e => get_set_ne n e⟩
theorem Ext.refl (H : Hp) : Ext H H := ⟨[], by simp⟩
theorem Ext.app (H t : Hp) : Ext H (H ++ t) := ⟨t, rfl⟩
theorem Ext.trans {H1 H2 H3 : Hp} (x : Ext H1 H2) (y : Ext H2 H3) : Ext H1 H3 := by
  obtain ⟨a, rfl⟩ := x; obtain ⟨b, rfl⟩ := y; exact ⟨a ++ b, by rw [List.append_assoc]⟩
theorem Ext.get {H H' : Hp} (x : Ext H H') {i : Nat} {o : AObj} (e : H[i]? = some o) : H'[i]? = some o := by obtain ⟨a, rfl⟩ := x; exact get_app e
theorem Ext.len {H H' : Hp} (x : Ext H H') : H.length ≤ H'.length := by obtain ⟨a, rfl⟩ := x; simp
theorem Ext.step {H H' : Hp} (x : Ext H H') (h : Nat) : Step h H H' := ⟨x.len, fun _ _ _ e => x.get e⟩
theorem Ext.set {H H' : Hp} (x : Ext H H') {i : Nat} (hi : H.length ≤ i) (o : AObj) : Ext H (H'.set i o) := by
  obtain ⟨a, rfl⟩ := x
  exact ⟨a.set (i - H.length) o, by rw [List.set_append_right _ _ hi]⟩
theorem newL_ex {xs : List V} (H : Hp) (h : xs.length ≤ 1000000) : ∃ H1, newL xs H = .ok (.ref H.length) H1 ∧ Ext H H1 ∧ H1[H.length]? = some (.list xs) := ⟨_, newL_ok h, .app _ _, by simp⟩
theorem add_ex {H : Hp} {i j : Nat} {xs ys : List V} (h1 : H[i]? = some (.list xs)) (h2 : H[j]? = some (.list ys)) (h : xs.length + ys.length ≤ 1000000) :
    ∃ H1, oAdd (.ref i) (.ref j) H = .ok (.ref H.length) H1 ∧ Ext H H1 ∧ H1[H.length]? = some (.list (xs ++ ys)) := by
  refine ⟨H ++ [.list (xs ++ ys)], ?_, .app _ _, by simp⟩
  unfold oAdd
  simp only [h1, h2]
  exact newL_ok (by simpa using h)
theorem fFor_c {G : Hp → Prop} {fa : V → FS} {fb : FS} {v : V} {r : List V} {m : Fm} {H : Hp} (h : G H) : fFor G fa fb (v :: r) m H = (fa v m H).bind fun fl m1 H1 => (match fl with
      | .next => (fb m1 H1).bind fun fl m2 H2 => (match fl with
        | .next => fFor G fa fb r m2 H2
        | .cont => fFor G fa fb r m2 H2
        | .brk => .ok .next m2 H2
        | .ret v => .ok (.ret v) m2 H2)
      | _ => .bad) := by
  rw [fFor]; exact if_pos h
theorem fFor_n {G : Hp → Prop} {fa : V → FS} {fb : FS} {m : Fm} {H : Hp} (h : G H) : fFor G fa fb [] m H = .ok .next m H := by
  rw [fFor]; exact if_pos h
theorem unpack2 {x y : Str} {a b : V} {m : Fm} {H : Hp} : fUnpack 2 (fT (fSet x) (fT (fSet y) fT0)) (.tup [a, b]) m H = .ok .next ((y, b) :: (x, a) :: m) H := rfl
theorem cLoop_n {G : Hp → Prop} {fa : V → Fm → Option Fm} {ft fe : FE} {i : Nat} {m : Fm} {H : Hp} (h : G H) : cLoop G fa ft fe i [] m H = .ok () H := by
  rw [cLoop]; exact if_pos h
theorem cLoop_c {G : Hp → Prop} {fa : V → Fm → Option Fm} {ft fe : FE} {i : Nat} {v : V} {r : List V} {m m1 : Fm} {H : Hp} (h : G H) (hf : fa v m = some m1) : cLoop G fa ft fe i (v :: r) m H = (ft m1 H).bind fun b H1 => match b with
      | .bool true => (fe m1 H1).bind fun x H2 => (match H2[i]? with
        | some (.list xs) => if xs.length < 1000000 then cLoop G fa ft fe i r m1 (H2.set i (.list (xs ++ [x]))) else .bad
        | _ => .bad)
      | .bool false => cLoop G fa ft fe i r m1 H1
      | _ => .bad := by
  rw [cLoop, if_pos h]; simp only [hf] <;> rfl
theorem idx_last {n : Nat} (h : n < 1000000) : idx (n + 1) (-1) = some n := by
  unfold idx
  rw [if_pos ⟨by decide, by decide⟩, if_neg (by decide), if_pos (by omega)]
  congr 1
  omega
theorem oItem_last {H : Hp} {i : Nat} {xs : List V} {v : V} (h : H[i]? = some (.list (xs ++ [v]))) (hl : xs.length < 1000000) : oItem (.ref i) (.int (-1)) H = .ok v H := by
  unfold oItem
  simp only [h, List.length_append, List.length_cons, List.length_nil, Nat.zero_add, idx_last hl]
  simp
theorem Ext.of_get {H H' : Hp} (h : ∀ i, i < H.length → H'[i]? = H[i]?) : Ext H H' := by
  refine ⟨H'.drop H.length, ?_⟩
  apply List.ext_getElem?
  intro i
  by_cases hi : i < H.length
  · rw [h i hi, List.getElem?_append_left hi]
  · rw [List.getElem?_append_right (by omega), List.getElem?_drop]
    congr 1; omega
theorem bAbs_i {i : Int} {H : Hp} : bAbs [.int i] H = .ok (.int (if i < 0 then -i else i)) H := rfl
theorem fMake_ap {Kc : Addr} {F : List V → Hp → Out V} {vs : List V} {H : Hp} : fMake Kc F vs H = (F (.ref H.length :: vs) (H ++ [.inst Kc []])).bind fun v H1 => match v with
  | .none => .ok (.ref H.length) H1
  | _ => .bad := rfl
theorem comp_map {α : Type} {G : Hp → Prop} {i : Nat} {fe : FE} {x : Str} (g : α → V) (v : α → V) (hfe : ∀ a m H, fe ((x, v a) :: m) H = .ok (g a) H) : ∀ (l : List α) (m : Fm) (H : Hp) (acc : List V), (∀ ys, G (H.set i (.list ys))) → H[i]? = some (.list acc) → acc.length + l.length ≤ 100000 →
    cLoop G (vName x) (fC (.bool true)) fe i (l.map v) m H = .ok () (H.set i (.list (acc ++ l.map g)))
  | [], m, H, acc, hG, hi, _ => by
    have hs : H.set i (.list acc) = H := by
      apply List.ext_getElem?
      intro j
      by_cases hj : i = j
      · subst hj; rw [List.getElem?_set_self (lt_of_get hi), hi]
      · rw [List.getElem?_set_ne hj]
    have h0 : G H := by have := hG acc; rwa [hs] at this
    rw [List.map_nil, cLoop_n h0, List.map_nil, List.append_nil, hs]
  | a :: l, m, H, acc, hG, hi, hl => by
    have hs : H.set i (.list acc) = H := by
      apply List.ext_getElem?
      intro j
      by_cases hj : i = j
      · subst hj; rw [List.getElem?_set_self (lt_of_get hi), hi]
      · rw [List.getElem?_set_ne hj]
    have h0 : G H := by have := hG acc; rwa [hs] at this
    simp only [List.length_cons] at hl
    rw [List.map_cons, cLoop_c (m1 := (x, v a) :: m) h0 rfl]
    simp only [fC, o_ok, hfe, hi]
    have ih := comp_map (G := G) (i := i) g v hfe l ((x, v a) :: m) (H.set i (.list (acc ++ [g a]))) (acc ++ [g a]) (fun ys => by rw [List.set_set]; exact hG ys) (get_set_eq hi) (by simp; omega)
    rw [if_pos (by omega), ih, List.set_set]
    simp
end MP
namespace MP
/-- one step of a run, each construct a lemma -/
theorem l_hit {x : Str} {v : V} {m : Fm} : ((x, v) :: m).lookup x = some v := by rw [List.lookup_cons, beq_self_eq_true]
theorem l_miss {x y : Str} {v w : V} {m : Fm} (h : (x == y) = false) (q : m.lookup x = some v) : ((y, w) :: m).lookup x = some v := by rw [List.lookup_cons, h]; exact q
theorem e_var {x : Str} {m : Fm} {H : Hp} {v : V} (h : m.lookup x = some v) : fVar x m H = .ok v H := by unfold fVar; rw [h]
theorem e_cons {f : FE} {g : Fm → Hp → Out (List V)} {m : Fm} {H H1 H2 : Hp} {v : V} {vs : List V} (h1 : f m H = .ok v H1) (h2 : g m H1 = .ok vs H2) : fCons f g m H = .ok (v :: vs) H2 := by unfold fCons; rw [h1, o_ok, h2, o_ok]
theorem e_call {F : List V → Hp → Out V} {g : Fm → Hp → Out (List V)} {m : Fm} {H H1 : Hp} {vs : List V} {r : Out V} (h1 : g m H = .ok vs H1) (h2 : F vs H1 = r) : fCall F g m H = r := by unfold fCall; rw [h1, o_ok, h2]
theorem e_bin {F : V → V → Hp → Out V} {f g : FE} {m : Fm} {H H1 H2 : Hp} {v w : V} {r : Out V} (h1 : f m H = .ok v H1) (h2 : g m H1 = .ok w H2) (h3 : F v w H2 = r) : fBin F f g m H = r := by unfold fBin; rw [h1, o_ok, h2, o_ok, h3]
theorem e_sub {f g : FE} {m : Fm} {H H1 H2 : Hp} {v w : V} {r : Out V} (h1 : f m H = .ok v H1) (h2 : g m H1 = .ok w H2) (h3 : oItem v w H2 = r) : fSub f g m H = r := e_bin h1 h2 h3
theorem e_tup {g : Fm → Hp → Out (List V)} {m : Fm} {H H1 : Hp} {vs : List V} (h : g m H = .ok vs H1) (hl : Nat.ble vs.length 1000000 = true) : fTup g m H = .ok (.tup vs) H1 := by unfold fTup; rw [h, o_ok, if_pos (Nat.le_of_ble_eq_true hl)]
theorem e_list {g : Fm → Hp → Out (List V)} {m : Fm} {H H1 : Hp} {vs : List V} {r : Out V} (h : g m H = .ok vs H1) (q : newL vs H1 = r) : fList g m H = r := by unfold fList; rw [h, o_ok, q]
theorem e_not {f : FE} {m : Fm} {H H1 : Hp} {b : Bool} (h : f m H = .ok (.bool b) H1) : fNot f m H = .ok (.bool !b) H1 := by unfold fNot; rw [h]; rfl
theorem e_neg {f : FE} {m : Fm} {H H1 : Hp} {i : Int} (h : f m H = .ok (.int i) H1) : fNeg f m H = .ok (.int (-i)) H1 := by unfold fNeg; rw [h]; rfl
theorem e_c {v : V} {m : Fm} {H : Hp} : fC v m H = .ok v H := rfl
theorem e_nil {m : Fm} {H : Hp} : fNil m H = .ok [] H := rfl
theorem s_skip {m : Fm} {H : Hp} : fSkip m H = .ok .next m H := rfl
theorem c_t {α : Type} {x y r : α} (h : x = r) : cond true x y = r := h
theorem c_f {α : Type} {x y r : α} (h : y = r) : cond false x y = r := h
theorem c_nt {α : Type} {x y r : α} (h : x = r) : cond (!false) x y = r := h
theorem c_nf {α : Type} {x y r : α} (h : y = r) : cond (!true) x y = r := h
theorem e_or {f g : FE} {m : Fm} {H H1 : Hp} {b : Bool} {r : Out V} (h : f m H = .ok (.bool b) H1) (q : cond b (.ok (.bool true) H1) (g m H1) = r) : fOr f g m H = r := by unfold fOr; rw [h]; cases b <;> exact q
theorem e_and {f g : FE} {m : Fm} {H H1 : Hp} {b : Bool} {r : Out V} (h : f m H = .ok (.bool b) H1) (q : cond b (g m H1) (.ok (.bool false) H1) = r) : fAnd f g m H = r := by unfold fAnd; rw [h]; cases b <;> exact q
theorem e_ite {t f g : FE} {m : Fm} {H H1 : Hp} {b : Bool} {r : Out V} (h : t m H = .ok (.bool b) H1) (q : cond b (f m H1) (g m H1) = r) : fIte t f g m H = r := by unfold fIte; rw [h]; cases b <;> exact q
theorem s_if {t : FE} {f g : FS} {m : Fm} {H H1 : Hp} {b : Bool} {r : OutS} (h : t m H = .ok (.bool b) H1) (q : cond b (f m H1) (g m H1) = r) : fIf t f g m H = r := by unfold fIf; rw [h]; cases b <;> exact q
noncomputable def seqK (fl : Fl) (B : FS) (m : Fm) (H : Hp) : OutS := match fl with
  | .next => B m H
  | fl => .ok fl m H
theorem s_seqK {A B : FS} {m m1 : Fm} {H H1 : Hp} {fl : Fl} {r : OutS} (h1 : A m H = .ok fl m1 H1) (h2 : seqK fl B m1 H1 = r) : fSeq A B m H = r := by unfold fSeq; rw [h1, s_ok]; cases fl <;> exact h2
theorem k_next {B : FS} {m : Fm} {H : Hp} {r : OutS} (h : B m H = r) : seqK .next B m H = r := h
theorem k_cont {B : FS} {m : Fm} {H : Hp} : seqK .cont B m H = .ok .cont m H := rfl
theorem k_ret {B : FS} {m : Fm} {H : Hp} {v : V} : seqK (.ret v) B m H = .ok (.ret v) m H := rfl
theorem s_set {x : Str} {v : V} {m : Fm} {H : Hp} : fSet x v m H = .ok .next ((x, v) :: m) H := rfl
theorem s_swap2 {x y : Str} {v w : V} {m : Fm} {H : Hp} : fSwap [x, y] (.tup [v, w]) m H = .ok .next ((x, v) :: (y, w) :: m) H := rfl
theorem n_none {H : Hp} : oIsNone .none .none H = .ok (.bool true) H := rfl
theorem n_ref {i : Nat} {H : Hp} : oIsNone (.ref i) .none H = .ok (.bool false) H := rfl
theorem n_tup {vs : List V} {H : Hp} : oIsNone (.tup vs) .none H = .ok (.bool false) H := rfl
theorem e_attr {K : Addr} {x : Str} {f : FE} {m : Fm} {H H1 : Hp} {i : Nat} {fs : List (Str × V)} {v : V} (h : f m H = .ok (.ref i) H1) (g : H1[i]? = some (.inst K fs)) (q : fs.lookup x = some v) : fAttr K x f m H = .ok v H1 := by
  unfold fAttr; rw [h, o_ok]; dsimp only; rw [g]; dsimp only; rw [if_pos rfl, q]
theorem e_meth {K : AObj → Bool} {F : List V → Hp → Out V} {fo : FE} {g : Fm → Hp → Out (List V)} {m : Fm} {H H1 H2 : Hp} {i : Nat} {o : AObj} {vs : List V} {r : Out V} (h : fo m H = .ok (.ref i) H1) (ho : H1[i]? = some o) (k : K o = true) (h2 : g m H1 = .ok vs H2) (q : F (.ref i :: vs) H2 = r) : fMeth K F fo g m H = r := by
  unfold fMeth; rw [h, o_ok]; dsimp only; rw [ho]; dsimp only; rw [if_pos k, h2, o_ok, q]
theorem e_slice {f a b c : FE} {m : Fm} {H H1 H2 H3 H4 : Hp} {v x y z : V} {r : Out V} (h : f m H = .ok v H1) (h1 : a m H1 = .ok x H2) (h2 : b m H2 = .ok y H3) (h3 : c m H3 = .ok z H4) (s : smallL v H4 = true) (q : oCut v x y z H4 = r) : fSlice f a b c m H = r := by
  unfold fSlice; rw [h, o_ok, h1, o_ok, h2, o_ok, h3, o_ok, if_pos s, q]
theorem s_seq {A B : FS} {m m1 : Fm} {H H1 : Hp} {r : OutS} (h1 : A m H = .ok .next m1 H1) (h2 : B m1 H1 = r) : fSeq A B m H = r := by unfold fSeq; rw [h1, s_ok]; exact h2
theorem s_seq_exc {A B : FS} {m m1 : Fm} {H H1 : Hp} (h1 : A m H = .exc m1 H1) : fSeq A B m H = .exc m1 H1 := by unfold fSeq; rw [h1, s_exc]
theorem s_asg {fe : FE} {fa : V → FS} {m : Fm} {H H1 : Hp} {v : V} {r : OutS} (h1 : fe m H = .ok v H1) (h2 : fa v m H1 = r) : fAsgE fe fa m H = r := by unfold fAsgE; rw [h1, oS_ok]; exact h2
theorem s_asg_exc {fe : FE} {fa : V → FS} {m : Fm} {H H1 : Hp} (h1 : fe m H = .exc H1) : fAsgE fe fa m H = .exc m H1 := by unfold fAsgE; rw [h1, oS_exc]
theorem s_ret {f : FE} {m : Fm} {H H1 : Hp} {v : V} (h : f m H = .ok v H1) : fRet f m H = .ok (.ret v) m H1 := by unfold fRet; rw [h, oS_ok]
theorem s_expr {f : FE} {m : Fm} {H H1 : Hp} (h : f m H = .ok .none H1) : fExpr f m H = .ok .next m H1 := by unfold fExpr; rw [h, oS_ok]
theorem s_for {fit : Fm → Hp → Out It} {fa : V → FS} {fb : FS} {m : Fm} {H H1 : Hp} {items : List V} {G : Hp → Prop} {r : OutS} (h : fit m H = .ok (.mk items G) H1) (q : fFor G fa fb items m H1 = r) : fForS fit fa fb m H = r := by unfold fForS; rw [h, oS_ok]; exact q
noncomputable def rngK (vs : List V) (H : Hp) : Out It := fRange (fun _ H => .ok vs H) [] H
theorem i_rng {g : Fm → Hp → Out (List V)} {m : Fm} {H H1 : Hp} {vs : List V} {r : Out It} (h : g m H = .ok vs H1) (q : rngK vs H1 = r) : fRange g m H = r := by rw [← q]; unfold rngK fRange; rw [h]
theorem i_range {H : Hp} {n : Int} (b : -1000000000 ≤ n ∧ n ≤ 1000000000) : rngK [.int n] H = .ok (.mk (rangeV 0 n.toNat) fun _ => True) H := if_pos b
theorem i_range2 {H : Hp} {a n : Int} (b : (-1000000000 ≤ a ∧ a ≤ 1000000000) ∧ -1000000000 ≤ n ∧ n ≤ 1000000000) : rngK [.int a, .int n] H = .ok (.mk (rangeV a (n - a).toNat) fun _ => True) H := if_pos b
theorem d_ret {ps : List Str} {f : FS} {vs : List V} {H H1 : Hp} {m : Fm} {v : V} (fr : Fm) (hl : vs.length = ps.length ∧ ps.zip vs = fr) (h : f fr H = .ok (.ret v) m H1) : fDef ps f vs H = .ok v H1 := by unfold fDef; rw [if_pos hl.1, hl.2, h]
theorem d_none {ps : List Str} {f : FS} {vs : List V} {H H1 : Hp} {m : Fm} (fr : Fm) (hl : vs.length = ps.length ∧ ps.zip vs = fr) (h : f fr H = .ok .next m H1) : fDef ps f vs H = .ok .none H1 := by unfold fDef; rw [if_pos hl.1, hl.2, h]
theorem d_exc {ps : List Str} {f : FS} {vs : List V} {H H1 : Hp} {m : Fm} (fr : Fm) (hl : vs.length = ps.length ∧ ps.zip vs = fr) (h : f fr H = .exc m H1) : fDef ps f vs H = .exc H1 := by unfold fDef; rw [if_pos hl.1, hl.2, h]
theorem it0 {v : V} {vs : List V} {H : Hp} : oItem (.tup (v :: vs)) (.int 0) H = .ok v H := by rw [oItem_ti, List.length_cons, idx_z]; rfl
theorem it1 {v w : V} {vs : List V} {H : Hp} : oItem (.tup (v :: w :: vs)) (.int 1) H = .ok w H := by rw [oItem_ti, List.length_cons, List.length_cons, idx_1]; rfl
theorem ne_t {x y : String} {H : Hp} (h : (x == y) = false) : oNe (.str (Str.ofString x)) (.str (Str.ofString y)) H = .ok (.bool true) H := by rw [oNe_ss, h]; rfl
theorem ne_f {x : String} {H : Hp} : oNe (.str (Str.ofString x)) (.str (Str.ofString x)) H = .ok (.bool false) H := by rw [oNe_ss, beq_self_eq_true]; rfl
theorem eq_f {x y : String} {H : Hp} (h : (x == y) = false) : oEq (.str (Str.ofString x)) (.str (Str.ofString y)) H = .ok (.bool false) H := by rw [oEq_ss, h]
theorem eq_t {x : String} {H : Hp} : oEq (.str (Str.ofString x)) (.str (Str.ofString x)) H = .ok (.bool true) H := by rw [oEq_ss, beq_self_eq_true]
theorem lt_t {a b : Int} {H : Hp} (h : a < b) : oLt (.int a) (.int b) H = .ok (.bool true) H := by rw [oLt_ii, decide_eq_true h]
theorem lt_f {a b : Int} {H : Hp} (h : ¬ a < b) : oLt (.int a) (.int b) H = .ok (.bool false) H := by rw [oLt_ii, decide_eq_false h]
theorem le_t {a b : Int} {H : Hp} (h : a ≤ b) : oLe (.int a) (.int b) H = .ok (.bool true) H := by rw [oLe_ii, decide_eq_true h]
theorem le_f {a b : Int} {H : Hp} (h : ¬ a ≤ b) : oLe (.int a) (.int b) H = .ok (.bool false) H := by rw [oLe_ii, decide_eq_false h]
theorem eqi_t {a : Int} {H : Hp} : oEq (.int a) (.int a) H = .ok (.bool true) H := by rw [oEq_int, beq_self_eq_true]
theorem eqi_f {a b : Int} {H : Hp} (h : (a == b) = false) : oEq (.int a) (.int b) H = .ok (.bool false) H := by rw [oEq_int, h]
theorem b_append {i : Nat} {v : V} {H : Hp} {xs : List V} (h : H[i]? = some (.list xs)) (hl : xs.length < 1000000) : bAppend [.ref i, v] H = .ok .none (H.set i (.list (xs ++ [v]))) := by rw [bAppend_l, h]; exact if_pos hl
theorem r_exc {g : FE} {m : Fm} {H H1 : Hp} {v : V} (h : g m H = .ok v H1) : fRaise g m H = .exc m H1 := by unfold fRaise; rw [h, oS_ok]
theorem t_ok {fb : FS} {fe : FE} {m m1 : Fm} {H H1 : Hp} {fl : Fl} (h : fb m H = .ok fl m1 H1) : fTry fb fe m H = .ok fl m1 H1 := by rw [fTry_ap, h]
theorem t_exc {fb : FS} {fe : FE} {m m1 : Fm} {H H1 H2 : Hp} {v : V} (h : fb m H = .exc m1 H1) (h2 : fe m1 H1 = .ok v H2) : fTry fb fe m H = .ok (.ret v) m1 H2 := by rw [fTry_ap, h]; dsimp only; rw [h2]
theorem s_ret_exc {f : FE} {m : Fm} {H H1 : Hp} (h : f m H = .exc H1) : fRet f m H = .exc m H1 := by unfold fRet; rw [h, oS_exc]
theorem s_expr_exc {f : FE} {m : Fm} {H H1 : Hp} (h : f m H = .exc H1) : fExpr f m H = .exc m H1 := by unfold fExpr; rw [h, oS_exc]
theorem e_cons_exc {f : FE} {g : Fm → Hp → Out (List V)} {m : Fm} {H H1 : Hp} (h1 : f m H = .exc H1) : fCons f g m H = .exc H1 := by unfold fCons; rw [h1, o_exc]
theorem e_call_exc {F : List V → Hp → Out V} {g : Fm → Hp → Out (List V)} {m : Fm} {H H1 : Hp} (h1 : g m H = .exc H1) : fCall F g m H = .exc H1 := by unfold fCall; rw [h1, o_exc]
theorem e_meth_exc {K : AObj → Bool} {F : List V → Hp → Out V} {fo : FE} {g : Fm → Hp → Out (List V)} {m : Fm} {H H1 H2 : Hp} {i : Nat} {o : AObj} (h : fo m H = .ok (.ref i) H1) (ho : H1[i]? = some o) (k : K o = true) (h2 : g m H1 = .exc H2) : fMeth K F fo g m H = .exc H2 := by
  unfold fMeth; rw [h, o_ok]; dsimp only; rw [ho]; dsimp only; rw [if_pos k, h2, o_exc]
theorem it_dict {i : Nat} {k : Str} {H : Hp} {kvs : List (Str × V)} {v : V} (h : H[i]? = some (.dictS kvs)) (g : dGet kvs k = some v) : oItem (.ref i) (.str k) H = .ok v H := by rw [oItem_str, h]; dsimp only; rw [g]
theorem st_dict {i : Nat} {k : Str} {H : Hp} {kvs kvs' : List (Str × V)} {v : V} (h : H[i]? = some (.dictS kvs)) (hl : kvs.length ≤ 1000000) (g : dSet kvs k v = kvs') : oStore (.ref i) (.str k) v H = some (H.set i (.dictS kvs')) := by
  unfold oStore; dsimp only; rw [h]; dsimp only; rw [if_pos hl, g]
theorem s_aug {f g h : FE} {m : Fm} {H H' : Hp} {v w : V} {a b : Int} (h1 : f m H = .ok v H) (h2 : g m H = .ok w H) (h3 : oItem v w H = .ok (.int a) H) (h4 : h m H = .ok (.int b) H) (h5 : oStore v w (.int (a + b)) H = some H') : fAugSub f g h m H = .ok .next m H' := by
  unfold fAugSub; rw [h1, oS_ok, h2, oS_ok, h3, oS_ok, h4, oS_ok]; dsimp only; rw [h5]
theorem call_exc {K : AObj → Bool} {F : List V → Hp → Out V} {fo : FE} {g : Fm → Hp → Out (List V)} {m : Fm} {H H1 H2 H3 : Hp} {i : Nat} {o : AObj} {vs : List V} (h : fo m H = .ok (.ref i) H1) (ho : H1[i]? = some o) (k : K o = true) (h2 : g m H1 = .ok vs H2) (q : F (.ref i :: vs) H2 = .exc H3) : fMeth K F fo g m H = .exc H3 := e_meth h ho k h2 q
theorem e_andB {f g : FE} {m : Fm} {H : Hp} {b c : Bool} (h : f m H = .ok (.bool b) H) (q : g m H = .ok (.bool c) H) : fAnd f g m H = .ok (.bool (b && c)) H := e_and h (by cases b <;> first | rfl | exact q)
theorem e_orB {f g : FE} {m : Fm} {H : Hp} {b c : Bool} (h : f m H = .ok (.bool b) H) (q : g m H = .ok (.bool c) H) : fOr f g m H = .ok (.bool (b || c)) H := e_or h (by cases b <;> first | rfl | exact q)
theorem l_skip {x y : String} {v : V} {m : Fm} (h : x ≠ y) : ((Str.ofString y, v) :: m).lookup (Str.ofString x) = m.lookup (Str.ofString x) := by rw [List.lookup_cons, ofS_beq, beq_eq_false_iff_ne.mpr h]
theorem f_next {G : Hp → Prop} {fa : V → FS} {fb : FS} {v : V} {r : List V} {m m1 m2 : Fm} {H H1 H2 : Hp} (g : G H) (ha : fa v m H = .ok .next m1 H1) (hb : fb m1 H1 = .ok .next m2 H2) : fFor G fa fb (v :: r) m H = fFor G fa fb r m2 H2 := by rw [fFor_c g, ha, s_ok]; dsimp only; rw [hb, s_ok]
theorem f_cont {G : Hp → Prop} {fa : V → FS} {fb : FS} {v : V} {r : List V} {m m1 m2 : Fm} {H H1 H2 : Hp} (g : G H) (ha : fa v m H = .ok .next m1 H1) (hb : fb m1 H1 = .ok .cont m2 H2) : fFor G fa fb (v :: r) m H = fFor G fa fb r m2 H2 := by rw [fFor_c g, ha, s_ok]; dsimp only; rw [hb, s_ok]
theorem f_ret {G : Hp → Prop} {fa : V → FS} {fb : FS} {v x : V} {r : List V} {m m1 m2 : Fm} {H H1 H2 : Hp} (g : G H) (ha : fa v m H = .ok .next m1 H1) (hb : fb m1 H1 = .ok (.ret x) m2 H2) : fFor G fa fb (v :: r) m H = .ok (.ret x) m2 H2 := by rw [fFor_c g, ha, s_ok]; dsimp only; rw [hb, s_ok]
theorem cl_t {G : Hp → Prop} {fa : V → Fm → Option Fm} {ft fe : FE} {i : Nat} {v x : V} {r : List V} {m m1 : Fm} {H H1 H2 : Hp} {xs : List V} (g : G H) (hf : fa v m = some m1) (ht : ft m1 H = .ok (.bool true) H1) (he : fe m1 H1 = .ok x H2) (hi : H2[i]? = some (.list xs)) (hl : xs.length < 1000000) :
    cLoop G fa ft fe i (v :: r) m H = cLoop G fa ft fe i r m1 (H2.set i (.list (xs ++ [x]))) := by rw [cLoop_c g hf, ht, o_ok]; dsimp only; rw [he, o_ok, hi]; exact if_pos hl
theorem cl_f {G : Hp → Prop} {fa : V → Fm → Option Fm} {ft fe : FE} {i : Nat} {v : V} {r : List V} {m m1 : Fm} {H H1 : Hp} (g : G H) (hf : fa v m = some m1) (ht : ft m1 H = .ok (.bool false) H1) : cLoop G fa ft fe i (v :: r) m H = cLoop G fa ft fe i r m1 H1 := by rw [cLoop_c g hf, ht, o_ok]
theorem e_comp {fv : List Str} {fit : Fm → Hp → Out It} {fa : V → Fm → Option Fm} {ft fe : FE} {m m0 : Fm} {H H1 H2 : Hp} {items : List V} {G : Hp → Prop} (h : fit m H = .ok (.mk items G) H1) (hm : (m.filter fun p => fv.contains p.1) = m0) (q : cLoop G fa ft fe H1.length items m0 (H1 ++ [.list []]) = .ok () H2) : fComp fv fit fa ft fe m H = .ok (.ref H1.length) H2 := by
  unfold fComp; rw [h, o_ok]; first | rw [hm, q, o_ok] | (dsimp only; rw [hm, q, o_ok])
theorem i_list {f : FE} {m : Fm} {H H1 : Hp} {j : Nat} {xs : List V} (h : f m H = .ok (.ref j) H1) (g : H1[j]? = some (.list xs)) : fIter f m H = .ok (.mk xs fun H => H[j]? = some (.list xs)) H1 := by unfold fIter; rw [h, o_ok]; first | rw [g] | (dsimp only; rw [g])
theorem i_tup {f : FE} {m : Fm} {H H1 : Hp} {xs : List V} (h : f m H = .ok (.tup xs) H1) : fIter f m H = .ok (.mk xs fun _ => True) H1 := by unfold fIter; rw [h, o_ok]
theorem e_lzip {g : Fm → Hp → Out (List V)} {m : Fm} {H H1 : Hp} {a b : V} {xs ys : List V} {r : Out V} (h : g m H = .ok [a, b] H1) (ha : sqOf H1 a = some xs) (hb : sqOf H1 b = some ys) (q : newL (zipV xs ys) (H1 ++ [.opq]) = r) : fListZip g m H = r := by unfold fListZip; rw [h, o_ok]; dsimp only; rw [ha, hb]; exact q
end MP
namespace MP


noncomputable abbrev hatO (c : Nat) (t : Int) : AObj := .dictS [(Str.ofString "cells", .ref c), (Str.ofString "turn", .int t)]

theorem deal_ok {H : Hp} {h c : Nat} {t k : Int} {cs : List Int} (hh : H[h]? = some (hatO c t)) (hc : H[c]? = some (.list (cs.map .int))) (hl : cs.length ≤ 1000) (t0 : 0 ≤ t) (t1 : t < 1000000) (hk : 0 < k) :
    ∃ i, 0 ≤ i ∧ i < k ∧ F_law_deal [.ref h, .int k] H = .ok (.int i) (H.set h (hatO c (t + 1))) := by
  have hne : c ≠ h := by rintro rfl; rw [hh] at hc; cases hc
  have go : ∀ i : Int, F_law_deal [.ref h, .int k] H = .ok (.int (i.fmod k)) (H.set h (hatO c (t + 1))) → ∃ i, 0 ≤ i ∧ i < k ∧ F_law_deal [.ref h, .int k] H = .ok (.int i) (H.set h (hatO c (t + 1))) :=
    fun i e => ⟨_, Int.fmod_nonneg_of_pos _ hk, Int.fmod_lt_of_pos _ hk, e⟩
  have h1 : (H.set h (hatO c (t + 1)))[h]? = some (hatO c (t + 1)) := get_set_eq hh
  have h2 : (H.set h (hatO c (t + 1)))[c]? = some (.list (cs.map .int)) := get_set_ne hne hc
  have hl1 : (cs.map V.int).length ≤ 1000 := by rw [List.length_map]; exact hl
  have i1 : oItem (.ref h) (.str (Str.ofString "turn")) H = .ok (.int t) H := it_dict hh (by kernel_rfl)
  have i2 : oStore (.ref h) (.str (Str.ofString "turn")) (.int (t + 1)) H = some (H.set h (hatO c (t + 1))) := st_dict hh (Nat.le_of_ble_eq_true rfl) (by kernel_rfl)
  generalize hH : H.set h (hatO c (t + 1)) = H1 at *
  have i3 : oItem (.ref h) (.str (Str.ofString "turn")) H1 = .ok (.int (t + 1)) H1 := it_dict h1 (by kernel_rfl)
  have i4 : oItem (.ref h) (.str (Str.ofString "cells")) H1 = .ok (.ref c) H1 := it_dict h1 (by kernel_rfl)
  have h6 := bLen_list h2 (Nat.lt_of_le_of_lt hl1 (by decide))
  have hm : ∀ a : Int, oMod (.int a) (.int k) H1 = .ok (.int (a.fmod k)) H1 := fun a => oMod_ok hk
  by_cases hb : t + 1 ≤ ((cs.map V.int).length : Int)
  · have hj : t < (cs.length : Int) := by rw [List.length_map] at hb; exact hb
    obtain ⟨j, rfl⟩ := Int.eq_ofNat_of_zero_le t0
    obtain ⟨x, hx⟩ : ∃ x, cs[j]? = some x := ⟨_, List.getElem?_eq_getElem (Int.ofNat_lt.mp hj)⟩
    have h7 : oItem (.ref c) (.int ((j : Int) + 1 - 1)) H1 = .ok (.int x) H1 := by
      rw [Int.add_sub_cancel]
      exact oItem_list h2 (Nat.le_trans hl1 (by decide)) t0 hb (by rw [Int.toNat_natCast, List.getElem?_map, hx]; rfl)
    refine go x ?_
    clear go hh hc h1 h2 hl1 hl hH hk t1 t0
    have hm := hm x
    delta F_law_deal f_law_deal
    apply d_ret [(Str.ofString "hat", .ref h), (Str.ofString "many", .int k)] ⟨rfl, rfl⟩
    refine s_seqK (s_aug (e_var (by ((repeat' with_reducible (first | exact s_set | exact e_nil | exact e_c | exact s_skip | apply e_cons | apply e_var | apply e_call | apply e_sub | apply e_bin | apply e_list | apply e_tup | (apply s_seq_exc; apply r_exc) | apply s_seqK | apply s_asg | apply s_if | apply s_ret | apply s_expr | apply t_ok | apply e_meth | apply e_or | apply e_and | apply e_ite | apply e_not | apply e_slice | apply e_neg | apply s_for | apply i_rng | apply i_range | apply i_range2 | exact s_swap2 | exact k_cont | exact k_ret | exact n_none | exact n_ref | exact n_tup | apply c_t | apply c_f | apply c_nt | apply c_nf | apply k_next | assumption | exact it0 | exact it1 | exact ne_f | (apply ne_t; first | assumption | kernel_rfl) | exact eq_t | exact eqi_t | (apply eq_f; first | assumption | kernel_rfl) | (apply eqi_f; first | assumption | kernel_rfl) | (apply lt_t; first | assumption | decide) | (apply lt_f; first | assumption | decide) | (apply le_t; first | assumption | decide) | (apply le_f; first | assumption | decide) | exact oAdd_ii | exact oSub_ii | apply b_append | exact isL_list | exact l_hit | (apply l_miss; kernel_rfl) | exact fFor_n trivial | rfl | (show Nat.ble _ _ = true; kernel_rfl)))))) e_c i1 e_c i2) (k_next ?_)
    ((repeat' with_reducible (first | exact s_set | exact e_nil | exact e_c | exact s_skip | apply e_cons | apply e_var | apply e_call | apply e_sub | apply e_bin | apply e_list | apply e_tup | (apply s_seq_exc; apply r_exc) | apply s_seqK | apply s_asg | apply s_if | apply s_ret | apply s_expr | apply t_ok | apply e_meth | apply e_or | apply e_and | apply e_ite | apply e_not | apply e_slice | apply e_neg | apply s_for | apply i_rng | apply i_range | apply i_range2 | exact s_swap2 | exact k_cont | exact k_ret | exact n_none | exact n_ref | exact n_tup | apply c_t | apply c_f | apply c_nt | apply c_nf | apply k_next | assumption | exact it0 | exact it1 | exact ne_f | (apply ne_t; first | assumption | kernel_rfl) | exact eq_t | exact eqi_t | (apply eq_f; first | assumption | kernel_rfl) | (apply eqi_f; first | assumption | kernel_rfl) | (apply lt_t; first | assumption | decide) | (apply lt_f; first | assumption | decide) | (apply le_t; first | assumption | decide) | (apply le_f; first | assumption | decide) | exact oAdd_ii | exact oSub_ii | apply b_append | exact isL_list | exact l_hit | (apply l_miss; kernel_rfl) | exact fFor_n trivial | rfl | (show Nat.ble _ _ = true; kernel_rfl))))
  · have q1 : oSq (.int (t + 1)) (.int 2) H1 = .ok (.int ((t + 1) * (t + 1))) H1 := oSq_ok (Int.le_trans t0 (Int.le_add_one (Int.le_refl t))) (Int.le_trans (Int.add_one_le_of_lt t1) (by decide))
    have q2 : ∀ a : Int, oDiv (.int a) (.int 3) H1 = .ok (.int (a.fdiv 3)) H1 := fun a => oDiv_3
    have q3 : oMul (.int 6) (.int (t + 1)) H1 = .ok (.int (6 * (t + 1))) H1 := by rw [oMul_ii, if_pos (by decide)]
    have q4 : ∀ a : Int, oMod (.int a) (.int 43) H1 = .ok (.int (a.fmod 43)) H1 := fun a => oMod_ok (by decide)
    refine go ((6 * (t + 1) + ((t + 1) * (t + 1)).fdiv 3 + 1).fmod 43) ?_
    have q2 := q2 ((t + 1) * (t + 1))
    have q4 := q4 (6 * (t + 1) + ((t + 1) * (t + 1)).fdiv 3 + 1)
    have hm := hm ((6 * (t + 1) + ((t + 1) * (t + 1)).fdiv 3 + 1).fmod 43)
    clear go hh hc h1 h2 hl1 hl hH hk t1 t0
    delta F_law_deal f_law_deal
    apply d_ret [(Str.ofString "hat", .ref h), (Str.ofString "many", .int k)] ⟨rfl, rfl⟩
    refine s_seqK (s_aug (e_var (by ((repeat' with_reducible (first | exact s_set | exact e_nil | exact e_c | exact s_skip | apply e_cons | apply e_var | apply e_call | apply e_sub | apply e_bin | apply e_list | apply e_tup | (apply s_seq_exc; apply r_exc) | apply s_seqK | apply s_asg | apply s_if | apply s_ret | apply s_expr | apply t_ok | apply e_meth | apply e_or | apply e_and | apply e_ite | apply e_not | apply e_slice | apply e_neg | apply s_for | apply i_rng | apply i_range | apply i_range2 | exact s_swap2 | exact k_cont | exact k_ret | exact n_none | exact n_ref | exact n_tup | apply c_t | apply c_f | apply c_nt | apply c_nf | apply k_next | assumption | exact it0 | exact it1 | exact ne_f | (apply ne_t; first | assumption | kernel_rfl) | exact eq_t | exact eqi_t | (apply eq_f; first | assumption | kernel_rfl) | (apply eqi_f; first | assumption | kernel_rfl) | (apply lt_t; first | assumption | decide) | (apply lt_f; first | assumption | decide) | (apply le_t; first | assumption | decide) | (apply le_f; first | assumption | decide) | exact oAdd_ii | exact oSub_ii | apply b_append | exact isL_list | exact l_hit | (apply l_miss; kernel_rfl) | exact fFor_n trivial | rfl | (show Nat.ble _ _ = true; kernel_rfl)))))) e_c i1 e_c i2) (k_next ?_)
    ((repeat' with_reducible (first | exact s_set | exact e_nil | exact e_c | exact s_skip | apply e_cons | apply e_var | apply e_call | apply e_sub | apply e_bin | apply e_list | apply e_tup | (apply s_seq_exc; apply r_exc) | apply s_seqK | apply s_asg | apply s_if | apply s_ret | apply s_expr | apply t_ok | apply e_meth | apply e_or | apply e_and | apply e_ite | apply e_not | apply e_slice | apply e_neg | apply s_for | apply i_rng | apply i_range | apply i_range2 | exact s_swap2 | exact k_cont | exact k_ret | exact n_none | exact n_ref | exact n_tup | apply c_t | apply c_f | apply c_nt | apply c_nf | apply k_next | assumption | exact it0 | exact it1 | exact ne_f | (apply ne_t; first | assumption | kernel_rfl) | exact eq_t | exact eqi_t | (apply eq_f; first | assumption | kernel_rfl) | (apply eqi_f; first | assumption | kernel_rfl) | (apply lt_t; first | assumption | decide) | (apply lt_f; first | assumption | decide) | (apply le_t; first | assumption | decide) | (apply le_f; first | assumption | decide) | exact oAdd_ii | exact oSub_ii | apply b_append | exact isL_list | exact l_hit | (apply l_miss; kernel_rfl) | exact fFor_n trivial | rfl | (show Nat.ble _ _ = true; kernel_rfl))))
/-- the items of a note -/
inductive Nt where
  | key (p : String) | sym (p : String) | num | str | lst
namespace Nt
noncomputable def v : Nt → V
  | .key p => .tup [.str (Str.ofString "key"), .str (Str.ofString p)]
  | .sym p => .tup [.str (Str.ofString "sym"), .str (Str.ofString p)]
  | .num => .tup [.str (Str.ofString "num"), .int 3]
  | .str => .tup [.str (Str.ofString "str"), .str (Str.ofString "named")]
  | .lst => .tup [.str (Str.ofString "list"), .tup [.tup [.str (Str.ofString "key"), .str (Str.ofString "named")]]]
theorem v_key {p : String} : v (.key p) = .tup [.str (Str.ofString "key"), .str (Str.ofString p)] := rfl
theorem v_sym {p : String} : v (.sym p) = .tup [.str (Str.ofString "sym"), .str (Str.ofString p)] := rfl
theorem v_num : v .num = .tup [.str (Str.ofString "num"), .int 3] := rfl
theorem v_str : v .str = .tup [.str (Str.ofString "str"), .str (Str.ofString "named")] := rfl
theorem v_lst : v .lst = .tup [.str (Str.ofString "list"), .tup [.tup [.str (Str.ofString "key"), .str (Str.ofString "named")]]] := rfl
noncomputable def isKey : Nt → Bool
  | .key _ => true
  | _ => false
noncomputable def isN : Nt → Bool
  | .key p => p == "named"
  | _ => false
end Nt
structure Hat (H : Hp) (h c : Nat) (cs : List Int) (t : Int) : Prop where
  hat : H[h]? = some (hatO c t)
  cells : H[c]? = some (.list (cs.map .int))
  len : cs.length ≤ 1000
  t0 : 0 ≤ t
theorem Hat.ext {H H' h c cs t} (x : Hat H h c cs t) (e : Ext H H') : Hat H' h c cs t := ⟨e.get x.hat, e.get x.cells, x.len, x.t0⟩
theorem deal {H : Hp} {h c : Nat} {t k : Int} {cs : List Int} (X : Hat H h c cs t) (t1 : t < 1000000) (hk : 0 < k) : ∃ i H', 0 ≤ i ∧ i < k ∧ F_law_deal [.ref h, .int k] H = .ok (.int i) H' ∧ Step h H H' ∧ Hat H' h c cs (t + 1) := by
  obtain ⟨i, h0, h1, e⟩ := deal_ok X.hat X.cells X.len X.t0 t1 hk
  have hne : c ≠ h := by rintro rfl; have := X.cells; rw [X.hat] at this; cases this
  exact ⟨i, _, h0, h1, e, .set .., get_set_eq X.hat, get_set_ne hne X.cells, X.len, by have := X.t0; omega⟩
theorem pick {α : Type} (g : α → V) (ns : List α) {i : Int} (h0 : 0 ≤ i) (h1 : i < ns.length) (hl : ns.length ≤ 1000) : ∃ x ∈ ns, ∀ H : Hp, oItem (.tup (ns.map g)) (.int i) H = .ok (g x) H := by
  obtain ⟨j, rfl⟩ := Int.eq_ofNat_of_zero_le h0
  have hj : j < ns.length := Int.ofNat_lt.mp h1
  refine ⟨ns[j], List.getElem_mem hj, fun H => ?_⟩
  rw [oItem_ti, List.length_map, idx_nn (Int.natCast_nonneg j) h1 (Nat.le_trans hl (by decide)), Int.toNat_natCast]
  dsimp only
  rw [List.getElem?_map, List.getElem?_eq_getElem hj]
  rfl
theorem worth {H : Hp} {h c : Nat} {t : Int} {cs : List Int} (X : Hat H h c cs t) (t1 : t < 1000000) : ∃ (x : Nt) (H' : Hp), F_law_worth [.ref h] H = .ok x.v H' ∧ Step h H H' ∧ Hat H' h c cs (t + 1) := by
  obtain ⟨i, H', h0, h1, e, st, X'⟩ := deal (k := 6) X t1 (by decide)
  obtain ⟨x, _, hx⟩ := pick Nt.v [.sym "a", .sym "b", .num, .str, .lst, .sym "named"] h0 h1 (by decide)
  have hx := hx H'
  dsimp only [List.map, Nt.v_sym, Nt.v_num, Nt.v_str, Nt.v_lst] at hx
  refine ⟨x, H', ?_, st, X'⟩
  delta F_law_worth f_law_worth
  apply d_ret [(Str.ofString "hat", .ref h)] ⟨rfl, rfl⟩
  ((repeat' with_reducible (first | exact s_set | exact e_nil | exact e_c | exact s_skip | apply e_cons | apply e_var | apply e_call | apply e_sub | apply e_bin | apply e_list | apply e_tup | (apply s_seq_exc; apply r_exc) | apply s_seqK | apply s_asg | apply s_if | apply s_ret | apply s_expr | apply t_ok | apply e_meth | apply e_or | apply e_and | apply e_ite | apply e_not | apply e_slice | apply e_neg | apply s_for | apply i_rng | apply i_range | apply i_range2 | exact s_swap2 | exact k_cont | exact k_ret | exact n_none | exact n_ref | exact n_tup | apply c_t | apply c_f | apply c_nt | apply c_nf | apply k_next | assumption | exact it0 | exact it1 | exact ne_f | (apply ne_t; first | assumption | kernel_rfl) | exact eq_t | exact eqi_t | (apply eq_f; first | assumption | kernel_rfl) | (apply eqi_f; first | assumption | kernel_rfl) | (apply lt_t; first | assumption | decide) | (apply lt_f; first | assumption | decide) | (apply le_t; first | assumption | decide) | (apply le_f; first | assumption | decide) | exact oAdd_ii | exact oSub_ii | apply b_append | exact isL_list | exact l_hit | (apply l_miss; kernel_rfl) | exact fFor_n trivial | rfl | (show Nat.ble _ _ = true; kernel_rfl))))
theorem fin_step {H H' : Hp} {h c : Nat} {t : Int} {cs : List Int} {xs : List V} (st : Step h H H') (X : Hat H' h c cs t) : (H' ++ [.list xs])[H'.length]? = some (.list xs) ∧ Step h H (H' ++ [.list xs]) ∧ Hat (H' ++ [.list xs]) h c cs t :=
  ⟨by simp, st.trans ((Ext.app _ _).step h), X.ext (Ext.app _ _)⟩
theorem piece {H : Hp} {h c : Nat} {t : Int} {cs : List Int} (X : Hat H h c cs t) (t1 : t < 999990) :
    ∃ (xs : List Nt) (H' : Hp) (j : Nat) (t' : Int), xs.length ≤ 2 ∧ F_law_piece [.ref h] H = .ok (.ref j) H' ∧ H'[j]? = some (.list (xs.map Nt.v)) ∧ Step h H H' ∧ Hat H' h c cs t' ∧ t' ≤ t + 4 := by
  refine Classical.byContradiction fun K => ?_
  have fin : ∀ (xs : List Nt) (H1 : Hp) (t' : Int), xs.length ≤ 2 → F_law_piece [.ref h] H = newL (xs.map Nt.v) H1 → Step h H H1 → Hat H1 h c cs t' → t' ≤ t + 4 → False := fun xs H1 t' hl e s X' ht => by
    have hl' : (xs.map Nt.v).length ≤ 1000000 := by rw [List.length_map]; exact Nat.le_trans hl (by decide)
    have f := fin_step (xs := xs.map Nt.v) s X'
    exact K ⟨xs, _, _, t', hl, e.trans (newL_ok hl'), f.1, f.2.1, f.2.2, ht⟩
  obtain ⟨i, H1, h0, h1, e1, s1, X1⟩ := deal (k := 6) X (Int.lt_trans t1 (by decide)) (by decide)
  have t2 : t + 1 < 1000000 := by clear h0 h1; omega
  obtain ⟨i2, H2, h2, h3, e2, s2, X2⟩ := deal (k := 3) X1 t2 (by decide)
  have s12 := s1.trans s2
  have t3 : t + 1 + 1 < 1000000 := by clear h0 h1 h2 h3 t2; omega
  have t4 : t + 1 + 1 + 1 < 1000000 := by clear h0 h1 h2 h3 t2 t3; omega
  have q2 : t + 1 + 1 ≤ t + 4 := by clear h0 h1 h2 h3 t1 t2 t3 t4; omega
  have q3 : t + 1 + 1 + 1 ≤ t + 4 := by clear h0 h1 h2 h3 t1 t2 t3 t4 q2; omega
  have q4 : t + 1 + 1 + 1 + 1 ≤ t + 4 := by clear h0 h1 h2 h3 t1 t2 t3 t4 q2 q3; omega
  by_cases hw : i < 2
  · obtain ⟨p, _, hp⟩ := pick (fun p : String => V.str (Str.ofString p)) ["a", "b", "named"] h2 h3 (by decide)
    have hp := hp H2
    dsimp only [List.map] at hp
    refine fin [.key "named", .sym p] H2 _ (Nat.le_of_ble_eq_true rfl) ?_ s12 X2 q2
    dsimp only [List.map, Nt.v_key, Nt.v_sym]
    rw [newL_ok (Nat.le_of_ble_eq_true rfl)]
    have n := newL_ok (xs := [.tup [.str (Str.ofString "key"), .str (Str.ofString "named")], .tup [.str (Str.ofString "sym"), .str (Str.ofString p)]]) (H := H2) (Nat.le_of_ble_eq_true rfl)
    clear fin K
    delta F_law_piece f_law_piece
    apply d_ret [(Str.ofString "hat", .ref h)] ⟨rfl, rfl⟩
    ((repeat' with_reducible (first | exact s_set | exact e_nil | exact e_c | exact s_skip | apply e_cons | apply e_var | apply e_call | apply e_sub | apply e_bin | apply e_list | apply e_tup | (apply s_seq_exc; apply r_exc) | apply s_seqK | apply s_asg | apply s_if | apply s_ret | apply s_expr | apply t_ok | apply e_meth | apply e_or | apply e_and | apply e_ite | apply e_not | apply e_slice | apply e_neg | apply s_for | apply i_rng | apply i_range | apply i_range2 | exact s_swap2 | exact k_cont | exact k_ret | exact n_none | exact n_ref | exact n_tup | apply c_t | apply c_f | apply c_nt | apply c_nf | apply k_next | assumption | exact it0 | exact it1 | exact ne_f | (apply ne_t; first | assumption | kernel_rfl) | exact eq_t | exact eqi_t | (apply eq_f; first | assumption | kernel_rfl) | (apply eqi_f; first | assumption | kernel_rfl) | (apply lt_t; first | assumption | decide) | (apply lt_f; first | assumption | decide) | (apply le_t; first | assumption | decide) | (apply le_f; first | assumption | decide) | exact oAdd_ii | exact oSub_ii | apply b_append | exact isL_list | exact l_hit | (apply l_miss; kernel_rfl) | exact fFor_n trivial | rfl | (show Nat.ble _ _ = true; kernel_rfl))))
  · obtain ⟨p, _, hp⟩ := pick (fun p : String => V.str (Str.ofString p)) ["pattern", "weight", "a"] h2 h3 (by decide)
    have hp := hp H2
    dsimp only [List.map] at hp
    obtain ⟨x, H3, e3, s3, X3⟩ := worth X2 t3
    by_cases hw5 : i < 5
    · by_cases hw4 : i < 4
      · refine fin [.key p] H2 _ (Nat.le_of_ble_eq_true rfl) ?_ s12 X2 q2
        dsimp only [List.map, Nt.v_key, Nt.v_sym]
        rw [newL_ok (Nat.le_of_ble_eq_true rfl)]
        have n := newL_ok (xs := [.tup [.str (Str.ofString "key"), .str (Str.ofString p)]]) (H := H2) (Nat.le_of_ble_eq_true rfl)
        clear fin K e3
        delta F_law_piece f_law_piece
        apply d_ret [(Str.ofString "hat", .ref h)] ⟨rfl, rfl⟩
        ((repeat' with_reducible (first | exact s_set | exact e_nil | exact e_c | exact s_skip | apply e_cons | apply e_var | apply e_call | apply e_sub | apply e_bin | apply e_list | apply e_tup | (apply s_seq_exc; apply r_exc) | apply s_seqK | apply s_asg | apply s_if | apply s_ret | apply s_expr | apply t_ok | apply e_meth | apply e_or | apply e_and | apply e_ite | apply e_not | apply e_slice | apply e_neg | apply s_for | apply i_rng | apply i_range | apply i_range2 | exact s_swap2 | exact k_cont | exact k_ret | exact n_none | exact n_ref | exact n_tup | apply c_t | apply c_f | apply c_nt | apply c_nf | apply k_next | assumption | exact it0 | exact it1 | exact ne_f | (apply ne_t; first | assumption | kernel_rfl) | exact eq_t | exact eqi_t | (apply eq_f; first | assumption | kernel_rfl) | (apply eqi_f; first | assumption | kernel_rfl) | (apply lt_t; first | assumption | decide) | (apply lt_f; first | assumption | decide) | (apply le_t; first | assumption | decide) | (apply le_f; first | assumption | decide) | exact oAdd_ii | exact oSub_ii | apply b_append | exact isL_list | exact l_hit | (apply l_miss; kernel_rfl) | exact fFor_n trivial | rfl | (show Nat.ble _ _ = true; kernel_rfl))))
      · refine fin [.key p, x] H3 _ (Nat.le_of_ble_eq_true rfl) ?_ (s12.trans s3) X3 q3
        dsimp only [List.map, Nt.v_key, Nt.v_sym]
        rw [newL_ok (Nat.le_of_ble_eq_true rfl)]
        have n := newL_ok (xs := [.tup [.str (Str.ofString "key"), .str (Str.ofString p)], x.v]) (H := H3) (Nat.le_of_ble_eq_true rfl)
        clear fin K
        delta F_law_piece f_law_piece
        apply d_ret [(Str.ofString "hat", .ref h)] ⟨rfl, rfl⟩
        ((repeat' with_reducible (first | exact s_set | exact e_nil | exact e_c | exact s_skip | apply e_cons | apply e_var | apply e_call | apply e_sub | apply e_bin | apply e_list | apply e_tup | (apply s_seq_exc; apply r_exc) | apply s_seqK | apply s_asg | apply s_if | apply s_ret | apply s_expr | apply t_ok | apply e_meth | apply e_or | apply e_and | apply e_ite | apply e_not | apply e_slice | apply e_neg | apply s_for | apply i_rng | apply i_range | apply i_range2 | exact s_swap2 | exact k_cont | exact k_ret | exact n_none | exact n_ref | exact n_tup | apply c_t | apply c_f | apply c_nt | apply c_nf | apply k_next | assumption | exact it0 | exact it1 | exact ne_f | (apply ne_t; first | assumption | kernel_rfl) | exact eq_t | exact eqi_t | (apply eq_f; first | assumption | kernel_rfl) | (apply eqi_f; first | assumption | kernel_rfl) | (apply lt_t; first | assumption | decide) | (apply lt_f; first | assumption | decide) | (apply le_t; first | assumption | decide) | (apply le_f; first | assumption | decide) | exact oAdd_ii | exact oSub_ii | apply b_append | exact isL_list | exact l_hit | (apply l_miss; kernel_rfl) | exact fFor_n trivial | rfl | (show Nat.ble _ _ = true; kernel_rfl))))
    · clear e3 s3 X3
      obtain ⟨i4, H4, h4, h5, e4, s4, X4⟩ := deal (k := 2) X2 t3 (by decide)
      obtain ⟨x', H5, e5, s5, X5⟩ := worth X4 t4
      by_cases hz : i4 = 0
      · subst hz
        refine fin [x'] H5 _ (Nat.le_of_ble_eq_true rfl) ?_ ((s12.trans s4).trans s5) X5 q4
        dsimp only [List.map]
        rw [newL_ok (Nat.le_of_ble_eq_true rfl)]
        have n := newL_ok (xs := [x'.v]) (H := H5) (Nat.le_of_ble_eq_true rfl)
        clear fin K
        delta F_law_piece f_law_piece
        apply d_ret [(Str.ofString "hat", .ref h)] ⟨rfl, rfl⟩
        ((repeat' with_reducible (first | exact s_set | exact e_nil | exact e_c | exact s_skip | apply e_cons | apply e_var | apply e_call | apply e_sub | apply e_bin | apply e_list | apply e_tup | (apply s_seq_exc; apply r_exc) | apply s_seqK | apply s_asg | apply s_if | apply s_ret | apply s_expr | apply t_ok | apply e_meth | apply e_or | apply e_and | apply e_ite | apply e_not | apply e_slice | apply e_neg | apply s_for | apply i_rng | apply i_range | apply i_range2 | exact s_swap2 | exact k_cont | exact k_ret | exact n_none | exact n_ref | exact n_tup | apply c_t | apply c_f | apply c_nt | apply c_nf | apply k_next | assumption | exact it0 | exact it1 | exact ne_f | (apply ne_t; first | assumption | kernel_rfl) | exact eq_t | exact eqi_t | (apply eq_f; first | assumption | kernel_rfl) | (apply eqi_f; first | assumption | kernel_rfl) | (apply lt_t; first | assumption | decide) | (apply lt_f; first | assumption | decide) | (apply le_t; first | assumption | decide) | (apply le_f; first | assumption | decide) | exact oAdd_ii | exact oSub_ii | apply b_append | exact isL_list | exact l_hit | (apply l_miss; kernel_rfl) | exact fFor_n trivial | rfl | (show Nat.ble _ _ = true; kernel_rfl))))
      · have hz' : (i4 == 0) = false := beq_eq_false_iff_ne.mpr hz
        refine fin [.key "named"] H4 _ (Nat.le_of_ble_eq_true rfl) ?_ (s12.trans s4) X4 q3
        dsimp only [List.map, Nt.v_key, Nt.v_sym]
        rw [newL_ok (Nat.le_of_ble_eq_true rfl)]
        have n := newL_ok (xs := [.tup [.str (Str.ofString "key"), .str (Str.ofString "named")]]) (H := H4) (Nat.le_of_ble_eq_true rfl)
        clear fin K
        delta F_law_piece f_law_piece
        apply d_ret [(Str.ofString "hat", .ref h)] ⟨rfl, rfl⟩
        ((repeat' with_reducible (first | exact s_set | exact e_nil | exact e_c | exact s_skip | apply e_cons | apply e_var | apply e_call | apply e_sub | apply e_bin | apply e_list | apply e_tup | (apply s_seq_exc; apply r_exc) | apply s_seqK | apply s_asg | apply s_if | apply s_ret | apply s_expr | apply t_ok | apply e_meth | apply e_or | apply e_and | apply e_ite | apply e_not | apply e_slice | apply e_neg | apply s_for | apply i_rng | apply i_range | apply i_range2 | exact s_swap2 | exact k_cont | exact k_ret | exact n_none | exact n_ref | exact n_tup | apply c_t | apply c_f | apply c_nt | apply c_nf | apply k_next | assumption | exact it0 | exact it1 | exact ne_f | (apply ne_t; first | assumption | kernel_rfl) | exact eq_t | exact eqi_t | (apply eq_f; first | assumption | kernel_rfl) | (apply eqi_f; first | assumption | kernel_rfl) | (apply lt_t; first | assumption | decide) | (apply lt_f; first | assumption | decide) | (apply le_t; first | assumption | decide) | (apply le_f; first | assumption | decide) | exact oAdd_ii | exact oSub_ii | apply b_append | exact isL_list | exact l_hit | (apply l_miss; kernel_rfl) | exact fFor_n trivial | rfl | (show Nat.ble _ _ = true; kernel_rfl))))
noncomputable def noted : List Nt → Option (List String)
  | [] => some []
  | [k] => if k.isKey && !k.isN then some [] else none
  | k :: w :: r => if k.isKey then (if w.isKey then (if k.isN then none else noted (w :: r)) else if k.isN then (match w with | .sym p => (noted r).map (p :: ·) | _ => none) else noted r) else none
theorem name_of_sym {p : String} {H : Hp} : F_name_of [.tup [.str (Str.ofString "sym"), .str (Str.ofString p)], .str (Str.ofString "!")] H = .ok (.str (Str.ofString p)) H := by
  delta F_name_of f_name_of
  apply d_ret [(Str.ofString "item", .tup [.str (Str.ofString "sym"), .str (Str.ofString p)]), (Str.ofString "what", .str (Str.ofString "!"))] ⟨rfl, rfl⟩
  ((repeat' with_reducible (first | exact s_set | exact e_nil | exact e_c | exact s_skip | apply e_cons | apply e_var | apply e_call | apply e_sub | apply e_bin | apply e_list | apply e_tup | (apply s_seq_exc; apply r_exc) | apply s_seqK | apply s_asg | apply s_if | apply s_ret | apply s_expr | apply t_ok | apply e_meth | apply e_or | apply e_and | apply e_ite | apply e_not | apply e_slice | apply e_neg | apply s_for | apply i_rng | apply i_range | apply i_range2 | exact s_swap2 | exact k_cont | exact k_ret | exact n_none | exact n_ref | exact n_tup | apply c_t | apply c_f | apply c_nt | apply c_nf | apply k_next | assumption | exact it0 | exact it1 | exact ne_f | (apply ne_t; first | assumption | kernel_rfl) | exact eq_t | exact eqi_t | (apply eq_f; first | assumption | kernel_rfl) | (apply eqi_f; first | assumption | kernel_rfl) | (apply lt_t; first | assumption | decide) | (apply lt_f; first | assumption | decide) | (apply le_t; first | assumption | decide) | (apply le_f; first | assumption | decide) | exact oAdd_ii | exact oSub_ii | apply b_append | exact isL_list | exact l_hit | (apply l_miss; kernel_rfl) | exact fFor_n trivial | rfl | (show Nat.ble _ _ = true; kernel_rfl))))
theorem name_of_exc {x : V} {s : String} {H : Hp} (h : oItem x (.int 0) H = .ok (.str (Str.ofString s)) H) (hs : (s == "sym") = false) : F_name_of [x, .str (Str.ofString "!")] H = .exc H := by
  delta F_name_of f_name_of
  apply d_exc [(Str.ofString "item", x), (Str.ofString "what", .str (Str.ofString "!"))] ⟨rfl, rfl⟩
  refine s_seq_exc (s_if (b := true) (H1 := H) ?_ (c_t (s_seq_exc (r_exc (v := .str (Str.empty ++ Str.ofString "!" ++ Str.ofString ": a symbol is wanted")) ?_))))
  · ((repeat' with_reducible (first | exact s_set | exact e_nil | exact e_c | exact s_skip | apply e_cons | apply e_var | apply e_call | apply e_sub | apply e_bin | apply e_list | apply e_tup | (apply s_seq_exc; apply r_exc) | apply s_seqK | apply s_asg | apply s_if | apply s_ret | apply s_expr | apply t_ok | apply e_meth | apply e_or | apply e_and | apply e_ite | apply e_not | apply e_slice | apply e_neg | apply s_for | apply i_rng | apply i_range | apply i_range2 | exact s_swap2 | exact k_cont | exact k_ret | exact n_none | exact n_ref | exact n_tup | apply c_t | apply c_f | apply c_nt | apply c_nf | apply k_next | assumption | exact it0 | exact it1 | exact ne_f | (apply ne_t; first | assumption | kernel_rfl) | exact eq_t | exact eqi_t | (apply eq_f; first | assumption | kernel_rfl) | (apply eqi_f; first | assumption | kernel_rfl) | (apply lt_t; first | assumption | decide) | (apply lt_f; first | assumption | decide) | (apply le_t; first | assumption | decide) | (apply le_f; first | assumption | decide) | exact oAdd_ii | exact oSub_ii | apply b_append | exact isL_list | exact l_hit | (apply l_miss; kernel_rfl) | exact fFor_n trivial | rfl | (show Nat.ble _ _ = true; kernel_rfl))))
  · kernel_rfl
theorem name_of_ok {x : Nt} {H : Hp} : F_name_of [x.v, .str (Str.ofString "!")] H = match x with | .sym p => .ok (.str (Str.ofString p)) H | _ => .exc H := by
  cases x with
  | sym p => exact name_of_sym
  | key p => exact name_of_exc it0 (by kernel_rfl)
  | num => exact name_of_exc it0 (by kernel_rfl)
  | str => exact name_of_exc it0 (by kernel_rfl)
  | lst => exact name_of_exc it0 (by kernel_rfl)
theorem set_same {H : Hp} {i : Nat} {o : AObj} (h : H[i]? = some o) : H.set i o = H := by
  apply List.ext_getElem?
  intro j
  by_cases hj : i = j
  · subst hj; rw [List.getElem?_set_self (lt_of_get h), h]
  · rw [List.getElem?_set_ne hj]
structure NL (m : Fm) (H : Hp) (p f : Nat) (pre : List V) (r : List Nt) (acc : List V) : Prop where
  hp : H[p]? = some (.list (pre ++ r.map Nt.v))
  hf : H[f]? = some (.list acc)
  m1 : m.lookup (Str.ofString "parts") = some (.ref p)
  m2 : m.lookup (Str.ofString "found") = some (.ref f)
  m3 : m.lookup (Str.ofString "place") = some (.int pre.length)
  b1 : pre.length + r.length ≤ 1000
  b2 : acc.length + r.length ≤ 1000
  ne : p ≠ f
theorem nl_test {m H p f pre r acc} (X : NL m H p f pre r acc) : f_CoreElaborator_names_noted_t1 m H = .ok (.bool (decide (0 < r.length))) H := by
  have e1 := bLen_list X.hp (by rw [List.length_append, List.length_map]; exact Nat.lt_of_le_of_lt X.b1 (by decide))
  have e2 : decide ((pre.length : Int) < ((pre ++ r.map Nt.v).length : Nat)) = decide (0 < r.length) := by
    rw [List.length_append, List.length_map]
    exact decide_eq_decide.mpr (by clear e1; omega)
  rw [← e2]
  have m1 := X.m1
  have m3 := X.m3
  delta f_CoreElaborator_names_noted_t1
  refine e_bin (e_var m3) (e_call (e_cons (e_var m1) e_nil) e1) oLt_ii
theorem nl_item {H : Hp} {p : Nat} {pre : List V} {k : Nt} {r : List Nt} (hp : H[p]? = some (.list (pre ++ (k :: r).map Nt.v))) (b : pre.length + (k :: r).length ≤ 1000) : oItem (.ref p) (.int pre.length) H = .ok k.v H :=
  oItem_list hp (by simp at b ⊢; omega) (by omega) (by simp; omega) (by simp)
theorem nl_item2 {H : Hp} {p : Nat} {pre : List V} {k w : Nt} {r : List Nt} (hp : H[p]? = some (.list (pre ++ (k :: w :: r).map Nt.v))) (b : pre.length + (k :: w :: r).length ≤ 1000) : oItem (.ref p) (.int ((pre.length : Int) + 1)) H = .ok w.v H :=
  oItem_list hp (by simp at b ⊢; omega) (by omega) (by simp; omega) (by rw [show ((pre.length : Int) + 1).toNat = pre.length + 1 by omega]; simp)
theorem nl_next {m : Fm} {H : Hp} {p f : Nat} {pre : List V} {r : List Nt} {acc : List V} {b : Bool} {k : Int} (hp : H[p]? = some (.list (pre ++ r.map Nt.v))) (hf : H[f]? = some (.list acc)) (m1 : m.lookup (Str.ofString "parts") = some (.ref p)) (m2 : m.lookup (Str.ofString "found") = some (.ref f))
    (hk : k = pre.length) (b1 : pre.length + r.length ≤ 1000) (b2 : acc.length + r.length ≤ 1000) (hne : p ≠ f) : NL ((Str.ofString "place", .int k) :: (Str.ofString "has_worth", .bool b) :: m) H p f pre r acc := by
  subst hk
  refine ⟨hp, hf, ?_, ?_, ?_, b1, b2, hne⟩ <;> simp only [List.lookup_cons, ofS_beq, String.reduceBEq, beq_self_eq_true, m1, m2]
/-- one turn: the last item -/
theorem nl_body1 {m H p f pre k acc} (X : NL m H p f pre [k] acc) : if k.isKey && !k.isN then ∃ m', f_CoreElaborator_names_noted_b2 m H = .ok .next m' H ∧ NL m' H p f (pre ++ [k.v]) [] acc else ∃ m', f_CoreElaborator_names_noted_b2 m H = .exc m' H := by
  obtain ⟨hp, hf, m1, m2, m3, b1, b2, hne⟩ := X
  obtain ⟨N, e1, e2⟩ : ∃ N : Int, bLen [.ref p] H = .ok (.int N) H ∧ ¬ (pre.length : Int) + 1 < N := ⟨_, bLen_list hp (by simp at b1 ⊢; omega), by simp⟩
  have e3 := nl_item hp b1
  cases k with
  | key s =>
    dsimp only [Nt.v_key] at e3
    by_cases hs : s = "named"
    · subst hs
      refine ⟨(Str.ofString "has_worth", .bool false) :: m, ?_⟩
      clear b1 b2 hf hp
      delta f_CoreElaborator_names_noted_b2
      refine' s_seqK (m1 := m) (H1 := H) (fl := .next) ?_ (k_next (s_seqK (m1 := (Str.ofString "has_worth", .bool false) :: m) (H1 := H) (fl := .next) ?_ (k_next (s_seq_exc (s_if (b := true) (H1 := H) ?_ (c_t (s_seq_exc ?_))))))) <;> ((repeat' with_reducible (first | exact s_set | exact e_nil | exact e_c | exact s_skip | apply e_cons | apply e_var | apply e_call | apply e_sub | apply e_bin | apply e_list | apply e_tup | (apply s_seq_exc; apply r_exc) | apply s_seqK | apply s_asg | apply s_if | apply s_ret | apply s_expr | apply t_ok | apply e_meth | apply e_or | apply e_and | apply e_ite | apply e_not | apply e_slice | apply e_neg | apply s_for | apply i_rng | apply i_range | apply i_range2 | exact s_swap2 | exact k_cont | exact k_ret | exact n_none | exact n_ref | exact n_tup | apply c_t | apply c_f | apply c_nt | apply c_nf | apply k_next | assumption | exact it0 | exact it1 | exact ne_f | (apply ne_t; first | assumption | kernel_rfl) | exact eq_t | exact eqi_t | (apply eq_f; first | assumption | kernel_rfl) | (apply eqi_f; first | assumption | kernel_rfl) | (apply lt_t; first | assumption | decide) | (apply lt_f; first | assumption | decide) | (apply le_t; first | assumption | decide) | (apply le_f; first | assumption | decide) | exact oAdd_ii | exact oSub_ii | apply b_append | exact isL_list | exact l_hit | (apply l_miss; kernel_rfl) | exact fFor_n trivial | rfl | (show Nat.ble _ _ = true; kernel_rfl))))
    · have hs2 : (s == "named") = false := beq_eq_false_iff_ne.mpr hs
      have hpp : H[p]? = some (.list ((pre ++ [(Nt.key s).v]) ++ ([] : List Nt).map Nt.v)) := by rw [List.append_assoc]; exact hp
      have N : NL ((Str.ofString "place", .int ((pre.length : Int) + 1)) :: (Str.ofString "has_worth", .bool false) :: m) H p f (pre ++ [(Nt.key s).v]) [] acc := nl_next hpp hf m1 m2 (by simp) (by simpa using b1) (Nat.le_trans (Nat.le_succ _) b2) hne
      have hk : ((Nt.key s).isKey && !(Nt.key s).isN) = true := by show (true && !(s == "named")) = true; rw [hs2]; rfl
      rw [if_pos hk]
      refine ⟨_, ?_, N⟩
      clear b1 b2 hf hp hpp N
      delta f_CoreElaborator_names_noted_b2
      ((repeat' with_reducible (first | exact s_set | exact e_nil | exact e_c | exact s_skip | apply e_cons | apply e_var | apply e_call | apply e_sub | apply e_bin | apply e_list | apply e_tup | (apply s_seq_exc; apply r_exc) | apply s_seqK | apply s_asg | apply s_if | apply s_ret | apply s_expr | apply t_ok | apply e_meth | apply e_or | apply e_and | apply e_ite | apply e_not | apply e_slice | apply e_neg | apply s_for | apply i_rng | apply i_range | apply i_range2 | exact s_swap2 | exact k_cont | exact k_ret | exact n_none | exact n_ref | exact n_tup | apply c_t | apply c_f | apply c_nt | apply c_nf | apply k_next | assumption | exact it0 | exact it1 | exact ne_f | (apply ne_t; first | assumption | kernel_rfl) | exact eq_t | exact eqi_t | (apply eq_f; first | assumption | kernel_rfl) | (apply eqi_f; first | assumption | kernel_rfl) | (apply lt_t; first | assumption | decide) | (apply lt_f; first | assumption | decide) | (apply le_t; first | assumption | decide) | (apply le_f; first | assumption | decide) | exact oAdd_ii | exact oSub_ii | apply b_append | exact isL_list | exact l_hit | (apply l_miss; kernel_rfl) | exact fFor_n trivial | rfl | (show Nat.ble _ _ = true; kernel_rfl))))
  | _ =>
    refine ⟨m, ?_⟩
    clear b1 b2 hf hp
    dsimp only [Nt.v_sym, Nt.v_num, Nt.v_str, Nt.v_lst] at e3
    delta f_CoreElaborator_names_noted_b2
    refine' s_seq_exc (s_if (b := true) (H1 := H) ?_ (c_t (s_seq_exc (r_exc e_c))))
    ((repeat' with_reducible (first | exact s_set | exact e_nil | exact e_c | exact s_skip | apply e_cons | apply e_var | apply e_call | apply e_sub | apply e_bin | apply e_list | apply e_tup | (apply s_seq_exc; apply r_exc) | apply s_seqK | apply s_asg | apply s_if | apply s_ret | apply s_expr | apply t_ok | apply e_meth | apply e_or | apply e_and | apply e_ite | apply e_not | apply e_slice | apply e_neg | apply s_for | apply i_rng | apply i_range | apply i_range2 | exact s_swap2 | exact k_cont | exact k_ret | exact n_none | exact n_ref | exact n_tup | apply c_t | apply c_f | apply c_nt | apply c_nf | apply k_next | assumption | exact it0 | exact it1 | exact ne_f | (apply ne_t; first | assumption | kernel_rfl) | exact eq_t | exact eqi_t | (apply eq_f; first | assumption | kernel_rfl) | (apply eqi_f; first | assumption | kernel_rfl) | (apply lt_t; first | assumption | decide) | (apply lt_f; first | assumption | decide) | (apply le_t; first | assumption | decide) | (apply le_f; first | assumption | decide) | exact oAdd_ii | exact oSub_ii | apply b_append | exact isL_list | exact l_hit | (apply l_miss; kernel_rfl) | exact fFor_n trivial | rfl | (show Nat.ble _ _ = true; kernel_rfl))))
/-- one turn: an item and the one behind it -/
theorem nl_body2 {m H p f pre k w r acc} (X : NL m H p f pre (k :: w :: r) acc) :
    if k.isKey then (if w.isKey then (if k.isN then ∃ m', f_CoreElaborator_names_noted_b2 m H = .exc m' H else ∃ m', f_CoreElaborator_names_noted_b2 m H = .ok .next m' H ∧ NL m' H p f (pre ++ [k.v]) (w :: r) acc)
      else if k.isN then (match (generalizing := false) w with
        | .sym q => ∃ m', f_CoreElaborator_names_noted_b2 m H = .ok .next m' (H.set f (.list (acc ++ [.str (Str.ofString q)]))) ∧ NL m' (H.set f (.list (acc ++ [.str (Str.ofString q)]))) p f (pre ++ [k.v, w.v]) r (acc ++ [.str (Str.ofString q)])
        | _ => ∃ m', f_CoreElaborator_names_noted_b2 m H = .exc m' H)
      else ∃ m', f_CoreElaborator_names_noted_b2 m H = .ok .next m' H ∧ NL m' H p f (pre ++ [k.v, w.v]) r acc) else ∃ m', f_CoreElaborator_names_noted_b2 m H = .exc m' H := by
  obtain ⟨hp, hf, m1, m2, m3, b1, b2, hne⟩ := X
  obtain ⟨N, e1, e2⟩ : ∃ N : Int, bLen [.ref p] H = .ok (.int N) H ∧ (pre.length : Int) + 1 < N := ⟨_, bLen_list hp (by simp at b1 ⊢; omega), by simp; clear b1 b2; omega⟩
  have e3 := nl_item hp b1
  have e4 := nl_item2 hp b1
  have c1 : pre.length + (r.length + 2) ≤ 1000 := b1
  have c2 : acc.length + (r.length + 2) ≤ 1000 := b2
  have hp1 : H[p]? = some (.list ((pre ++ [k.v]) ++ (w :: r).map Nt.v)) := by rw [List.append_assoc]; exact hp
  have hp2 : H[p]? = some (.list ((pre ++ [k.v, w.v]) ++ r.map Nt.v)) := by rw [List.append_assoc]; exact hp
  have N1 : NL ((Str.ofString "place", .int ((pre.length : Int) + 1)) :: (Str.ofString "has_worth", .bool false) :: m) H p f (pre ++ [k.v]) (w :: r) acc := nl_next hp1 hf m1 m2 (by simp) (by rw [List.length_append, Nat.add_assoc, Nat.add_comm [k.v].length]; exact c1) (Nat.le_trans (Nat.le_succ _) c2) hne
  have N2 : ∀ {H' : Hp} {ac : List V}, H'[p]? = some (.list ((pre ++ [k.v, w.v]) ++ r.map Nt.v)) → H'[f]? = some (.list ac) → ac.length + r.length ≤ 1000 → NL ((Str.ofString "place", .int ((pre.length : Int) + 2)) :: (Str.ofString "has_worth", .bool true) :: m) H' p f (pre ++ [k.v, w.v]) r ac := fun g1 g2 g3 => nl_next g1 g2 m1 m2 (by simp) (by rw [List.length_append, Nat.add_assoc, Nat.add_comm [k.v, w.v].length]; exact c1) g3 hne
  have ha : acc.length < 1000000 := Nat.lt_of_le_of_lt (Nat.le_trans (Nat.le_add_right _ _) c2) (by decide)
  clear hp hp1
  cases k with
  | key s =>
    dsimp only [Nt.v_key] at e3
    by_cases hs : s = "named"
    · subst hs
      cases w with
      | key q =>
        dsimp only [Nt.v_key] at e4
        refine ⟨(Str.ofString "has_worth", .bool false) :: m, ?_⟩
        clear N1 N2 b1 b2 c1 c2 hp2
        delta f_CoreElaborator_names_noted_b2
        refine' s_seqK (m1 := m) (H1 := H) (fl := .next) ?_ (k_next (s_seqK (m1 := (Str.ofString "has_worth", .bool false) :: m) (H1 := H) (fl := .next) ?_ (k_next (s_seq_exc (s_if (b := true) (H1 := H) ?_ (c_t (s_seq_exc ?_))))))) <;> ((repeat' with_reducible (first | exact s_set | exact e_nil | exact e_c | exact s_skip | apply e_cons | apply e_var | apply e_call | apply e_sub | apply e_bin | apply e_list | apply e_tup | (apply s_seq_exc; apply r_exc) | apply s_seqK | apply s_asg | apply s_if | apply s_ret | apply s_expr | apply t_ok | apply e_meth | apply e_or | apply e_and | apply e_ite | apply e_not | apply e_slice | apply e_neg | apply s_for | apply i_rng | apply i_range | apply i_range2 | exact s_swap2 | exact k_cont | exact k_ret | exact n_none | exact n_ref | exact n_tup | apply c_t | apply c_f | apply c_nt | apply c_nf | apply k_next | assumption | exact it0 | exact it1 | exact ne_f | (apply ne_t; first | assumption | kernel_rfl) | exact eq_t | exact eqi_t | (apply eq_f; first | assumption | kernel_rfl) | (apply eqi_f; first | assumption | kernel_rfl) | (apply lt_t; first | assumption | decide) | (apply lt_f; first | assumption | decide) | (apply le_t; first | assumption | decide) | (apply le_f; first | assumption | decide) | exact oAdd_ii | exact oSub_ii | apply b_append | exact isL_list | exact l_hit | (apply l_miss; kernel_rfl) | exact fFor_n trivial | rfl | (show Nat.ble _ _ = true; kernel_rfl))))
      | sym q =>
        dsimp only [Nt.v_sym] at e4
        refine ⟨_, ?_, N2 (get_set_ne hne hp2) (get_set_eq hf) (by rw [List.length_append, Nat.add_assoc, Nat.add_comm [V.str (Str.ofString q)].length]; exact Nat.le_trans (Nat.le_succ _) c2)⟩
        have n2 := @name_of_sym q H
        clear N1 N2 b1 b2 c1 c2 hp2
        delta f_CoreElaborator_names_noted_b2
        ((repeat' with_reducible (first | exact s_set | exact e_nil | exact e_c | exact s_skip | apply e_cons | apply e_var | apply e_call | apply e_sub | apply e_bin | apply e_list | apply e_tup | (apply s_seq_exc; apply r_exc) | apply s_seqK | apply s_asg | apply s_if | apply s_ret | apply s_expr | apply t_ok | apply e_meth | apply e_or | apply e_and | apply e_ite | apply e_not | apply e_slice | apply e_neg | apply s_for | apply i_rng | apply i_range | apply i_range2 | exact s_swap2 | exact k_cont | exact k_ret | exact n_none | exact n_ref | exact n_tup | apply c_t | apply c_f | apply c_nt | apply c_nf | apply k_next | assumption | exact it0 | exact it1 | exact ne_f | (apply ne_t; first | assumption | kernel_rfl) | exact eq_t | exact eqi_t | (apply eq_f; first | assumption | kernel_rfl) | (apply eqi_f; first | assumption | kernel_rfl) | (apply lt_t; first | assumption | decide) | (apply lt_f; first | assumption | decide) | (apply le_t; first | assumption | decide) | (apply le_f; first | assumption | decide) | exact oAdd_ii | exact oSub_ii | apply b_append | exact isL_list | exact l_hit | (apply l_miss; kernel_rfl) | exact fFor_n trivial | rfl | (show Nat.ble _ _ = true; kernel_rfl))))
      | _ =>
        dsimp only [Nt.v_num, Nt.v_str, Nt.v_lst] at e4
        refine ⟨(Str.ofString "has_worth", .bool true) :: m, ?_⟩
        clear N1 N2 b1 b2 c1 c2 hp2
        delta f_CoreElaborator_names_noted_b2
        refine' s_seqK (m1 := m) (H1 := H) (fl := .next) ?_ (k_next (s_seqK (m1 := (Str.ofString "has_worth", .bool true) :: m) (H1 := H) (fl := .next) ?_ (k_next (s_seq_exc (s_if (b := true) (H1 := H) ?_ (c_t (s_seqK (m1 := (Str.ofString "has_worth", .bool true) :: m) (H1 := H) (fl := .next) ?_ (k_next (s_seq_exc (s_expr_exc (e_meth_exc (H1 := H) (i := f) ?_ hf isL_list (e_cons_exc (e_call (H1 := H) (vs := [_, .str (Str.ofString "!")]) ?_ (name_of_exc it0 (by kernel_rfl))))))))))))))) <;> ((repeat' with_reducible (first | exact s_set | exact e_nil | exact e_c | exact s_skip | apply e_cons | apply e_var | apply e_call | apply e_sub | apply e_bin | apply e_list | apply e_tup | (apply s_seq_exc; apply r_exc) | apply s_seqK | apply s_asg | apply s_if | apply s_ret | apply s_expr | apply t_ok | apply e_meth | apply e_or | apply e_and | apply e_ite | apply e_not | apply e_slice | apply e_neg | apply s_for | apply i_rng | apply i_range | apply i_range2 | exact s_swap2 | exact k_cont | exact k_ret | exact n_none | exact n_ref | exact n_tup | apply c_t | apply c_f | apply c_nt | apply c_nf | apply k_next | assumption | exact it0 | exact it1 | exact ne_f | (apply ne_t; first | assumption | kernel_rfl) | exact eq_t | exact eqi_t | (apply eq_f; first | assumption | kernel_rfl) | (apply eqi_f; first | assumption | kernel_rfl) | (apply lt_t; first | assumption | decide) | (apply lt_f; first | assumption | decide) | (apply le_t; first | assumption | decide) | (apply le_f; first | assumption | decide) | exact oAdd_ii | exact oSub_ii | apply b_append | exact isL_list | exact l_hit | (apply l_miss; kernel_rfl) | exact fFor_n trivial | rfl | (show Nat.ble _ _ = true; kernel_rfl))))
    · have hs2 : (s == "named") = false := beq_eq_false_iff_ne.mpr hs
      have hk : ¬ (Nt.key s).isN = true := fun z => Bool.false_ne_true (hs2.symm.trans z)
      cases w with
      | key q =>
        dsimp only [Nt.v_key] at e4
        show (if (Nt.key s).isN = true then _ else _)
        rw [if_neg hk]
        refine ⟨_, ?_, N1⟩
        clear N1 N2 b1 b2 c1 c2 hp2
        delta f_CoreElaborator_names_noted_b2
        ((repeat' with_reducible (first | exact s_set | exact e_nil | exact e_c | exact s_skip | apply e_cons | apply e_var | apply e_call | apply e_sub | apply e_bin | apply e_list | apply e_tup | (apply s_seq_exc; apply r_exc) | apply s_seqK | apply s_asg | apply s_if | apply s_ret | apply s_expr | apply t_ok | apply e_meth | apply e_or | apply e_and | apply e_ite | apply e_not | apply e_slice | apply e_neg | apply s_for | apply i_rng | apply i_range | apply i_range2 | exact s_swap2 | exact k_cont | exact k_ret | exact n_none | exact n_ref | exact n_tup | apply c_t | apply c_f | apply c_nt | apply c_nf | apply k_next | assumption | exact it0 | exact it1 | exact ne_f | (apply ne_t; first | assumption | kernel_rfl) | exact eq_t | exact eqi_t | (apply eq_f; first | assumption | kernel_rfl) | (apply eqi_f; first | assumption | kernel_rfl) | (apply lt_t; first | assumption | decide) | (apply lt_f; first | assumption | decide) | (apply le_t; first | assumption | decide) | (apply le_f; first | assumption | decide) | exact oAdd_ii | exact oSub_ii | apply b_append | exact isL_list | exact l_hit | (apply l_miss; kernel_rfl) | exact fFor_n trivial | rfl | (show Nat.ble _ _ = true; kernel_rfl))))
      | _ =>
        dsimp only [Nt.v_sym, Nt.v_num, Nt.v_str, Nt.v_lst] at e4
        show (if (Nt.key s).isN = true then _ else _)
        rw [if_neg hk]
        refine ⟨_, ?_, N2 hp2 hf (Nat.le_trans (Nat.add_le_add_left (Nat.le_add_right _ 2) _) c2)⟩
        clear N1 N2 b1 b2 c1 c2 hp2
        delta f_CoreElaborator_names_noted_b2
        ((repeat' with_reducible (first | exact s_set | exact e_nil | exact e_c | exact s_skip | apply e_cons | apply e_var | apply e_call | apply e_sub | apply e_bin | apply e_list | apply e_tup | (apply s_seq_exc; apply r_exc) | apply s_seqK | apply s_asg | apply s_if | apply s_ret | apply s_expr | apply t_ok | apply e_meth | apply e_or | apply e_and | apply e_ite | apply e_not | apply e_slice | apply e_neg | apply s_for | apply i_rng | apply i_range | apply i_range2 | exact s_swap2 | exact k_cont | exact k_ret | exact n_none | exact n_ref | exact n_tup | apply c_t | apply c_f | apply c_nt | apply c_nf | apply k_next | assumption | exact it0 | exact it1 | exact ne_f | (apply ne_t; first | assumption | kernel_rfl) | exact eq_t | exact eqi_t | (apply eq_f; first | assumption | kernel_rfl) | (apply eqi_f; first | assumption | kernel_rfl) | (apply lt_t; first | assumption | decide) | (apply lt_f; first | assumption | decide) | (apply le_t; first | assumption | decide) | (apply le_f; first | assumption | decide) | exact oAdd_ii | exact oSub_ii | apply b_append | exact isL_list | exact l_hit | (apply l_miss; kernel_rfl) | exact fFor_n trivial | rfl | (show Nat.ble _ _ = true; kernel_rfl))))
  | _ =>
    refine ⟨m, ?_⟩
    clear N1 N2 b1 b2 c1 c2 hp2
    dsimp only [Nt.v_sym, Nt.v_num, Nt.v_str, Nt.v_lst] at e3
    delta f_CoreElaborator_names_noted_b2
    refine' s_seq_exc (s_if (b := true) (H1 := H) ?_ (c_t (s_seq_exc (r_exc e_c))))
    ((repeat' with_reducible (first | exact s_set | exact e_nil | exact e_c | exact s_skip | apply e_cons | apply e_var | apply e_call | apply e_sub | apply e_bin | apply e_list | apply e_tup | (apply s_seq_exc; apply r_exc) | apply s_seqK | apply s_asg | apply s_if | apply s_ret | apply s_expr | apply t_ok | apply e_meth | apply e_or | apply e_and | apply e_ite | apply e_not | apply e_slice | apply e_neg | apply s_for | apply i_rng | apply i_range | apply i_range2 | exact s_swap2 | exact k_cont | exact k_ret | exact n_none | exact n_ref | exact n_tup | apply c_t | apply c_f | apply c_nt | apply c_nf | apply k_next | assumption | exact it0 | exact it1 | exact ne_f | (apply ne_t; first | assumption | kernel_rfl) | exact eq_t | exact eqi_t | (apply eq_f; first | assumption | kernel_rfl) | (apply eqi_f; first | assumption | kernel_rfl) | (apply lt_t; first | assumption | decide) | (apply lt_f; first | assumption | decide) | (apply le_t; first | assumption | decide) | (apply le_f; first | assumption | decide) | exact oAdd_ii | exact oSub_ii | apply b_append | exact isL_list | exact l_hit | (apply l_miss; kernel_rfl) | exact fFor_n trivial | rfl | (show Nat.ble _ _ = true; kernel_rfl))))
noncomputable def NLR (o : Option (List String)) (n : Nat) (m : Fm) (H : Hp) (f : Nat) (acc : List V) : Prop := match o with
  | none => ∃ m' ys, fWhile f_CoreElaborator_names_noted_t1 f_CoreElaborator_names_noted_b2 n m H = .exc m' (H.set f (.list ys))
  | some xs => ∃ m', fWhile f_CoreElaborator_names_noted_t1 f_CoreElaborator_names_noted_b2 n m H = .ok .next m' (H.set f (.list (acc ++ xs.map fun x => .str (Str.ofString x)))) ∧ m'.lookup (Str.ofString "found") = some (.ref f)
theorem NLR.of {o n n' m m' H f acc} (x : NLR o n m' H f acc) (e : fWhile f_CoreElaborator_names_noted_t1 f_CoreElaborator_names_noted_b2 n' m H = fWhile f_CoreElaborator_names_noted_t1 f_CoreElaborator_names_noted_b2 n m' H) : NLR o n' m H f acc := by
  unfold NLR at *; rw [e]; exact x
theorem NLR.put {o n n' m m' H f acc} {q : String} (x : NLR o n m' (H.set f (.list (acc ++ [.str (Str.ofString q)]))) f (acc ++ [.str (Str.ofString q)])) (e : fWhile f_CoreElaborator_names_noted_t1 f_CoreElaborator_names_noted_b2 n' m H = fWhile f_CoreElaborator_names_noted_t1 f_CoreElaborator_names_noted_b2 n m' (H.set f (.list (acc ++ [.str (Str.ofString q)])))) : NLR (o.map (q :: ·)) n' m H f acc := by
  cases o with
  | none => obtain ⟨m2, ys, e2⟩ := x; exact ⟨m2, ys, by rw [e, e2, List.set_set]⟩
  | some xs => obtain ⟨m2, e2, l2⟩ := x; exact ⟨m2, by rw [e, e2, List.set_set, List.append_assoc]; rfl, l2⟩
theorem w_exc {ft : FE} {fb : FS} {n : Nat} {m m' : Fm} {H H' : Hp} (ht : ft m H = .ok (.bool true) H) (e : fb m H = .exc m' H') : fWhile ft fb (n + 1) m H = .exc m' H' := by rw [fWhile_S, ht, oS_ok]; dsimp only; rw [e, s_exc]
theorem w_next {ft : FE} {fb : FS} {n : Nat} {m m' : Fm} {H H' : Hp} (ht : ft m H = .ok (.bool true) H) (e : fb m H = .ok .next m' H') : fWhile ft fb (n + 1) m H = fWhile ft fb n m' H' := by rw [fWhile_S, ht, oS_ok]; dsimp only; rw [e, s_ok]
theorem w_end {ft : FE} {fb : FS} {n : Nat} {m : Fm} {H : Hp} (ht : ft m H = .ok (.bool false) H) : fWhile ft fb (n + 1) m H = .ok .next m H := by rw [fWhile_S, ht, oS_ok]
theorem nl_loop : ∀ (n : Nat) (r : List Nt) (m : Fm) (H : Hp) (p f : Nat) (pre acc : List V), r.length < n → NL m H p f pre r acc → NLR (noted r) n m H f acc := by
  intro n
  induction n with
  | zero => intro r m H p f pre acc h; exact absurd h (Nat.not_lt_zero _)
  | succ n ih =>
    intro r m H p f pre acc h X
    have ht := nl_test X
    have hx : ∀ {m' : Fm}, fWhile f_CoreElaborator_names_noted_t1 f_CoreElaborator_names_noted_b2 (n + 1) m H = .exc m' H → NLR none (n + 1) m H f acc := fun {m'} e => ⟨m', acc, by rw [e, set_same X.hf]⟩
    cases r with
    | nil => exact ⟨m, by rw [w_end ht, List.map_nil, List.append_nil, set_same X.hf], X.m2⟩
    | cons k r =>
      have ht : f_CoreElaborator_names_noted_t1 m H = .ok (.bool true) H := ht
      have h : r.length < n := Nat.lt_of_succ_lt_succ h
      cases r with
      | nil =>
        have hb := nl_body1 X
        unfold noted
        by_cases hk : (k.isKey && !k.isN) = true
        · rw [if_pos hk] at hb ⊢
          obtain ⟨m', e, X'⟩ := hb
          exact (ih [] m' H p f _ acc h X').of (w_next ht e)
        · rw [if_neg hk] at hb ⊢
          obtain ⟨m', e⟩ := hb
          exact hx (w_exc ht e)
      | cons w r =>
        have hb := nl_body2 X
        have h2 : r.length < n := Nat.lt_of_succ_lt h
        unfold noted
        by_cases h1 : k.isKey = true
        · rw [if_pos h1] at hb ⊢
          by_cases h2' : w.isKey = true
          · rw [if_pos h2'] at hb ⊢
            by_cases h3 : k.isN = true
            · rw [if_pos h3] at hb ⊢
              obtain ⟨m', e⟩ := hb
              exact hx (w_exc ht e)
            · rw [if_neg h3] at hb ⊢
              obtain ⟨m', e, X'⟩ := hb
              exact (ih (w :: r) m' H p f _ acc h X').of (w_next ht e)
          · rw [if_neg h2'] at hb ⊢
            by_cases h3 : k.isN = true
            · rw [if_pos h3] at hb ⊢
              cases w with
              | sym q =>
                obtain ⟨m', e, X'⟩ := hb
                exact (ih r m' _ p f _ _ h2 X').put (w_next ht e)
              | key q => exact absurd rfl h2'
              | _ => obtain ⟨m', e⟩ := hb; exact hx (w_exc ht e)
            · rw [if_neg h3] at hb ⊢
              obtain ⟨m', e, X'⟩ := hb
              exact (ih r m' H p f _ acc h2 X').of (w_next ht e)
        · rw [if_neg h1] at hb ⊢
          obtain ⟨m', e⟩ := hb
          exact hx (w_exc ht e)
noncomputable def told (ns : List Nt) : Option (List String) := if ns = [] then none else noted ns
noncomputable abbrev svs (xs : List String) : List V := xs.map fun x => .str (Str.ofString x)
theorem names_noted_ok {H : Hp} {p : Nat} {hd : List V} {ns : List Nt} {sv : V} (hp : H[p]? = some (.list (hd ++ ns.map Nt.v))) (h2 : hd.length = 2) (hl : ns.length ≤ 900) :
    match told ns with
    | none => ∃ H', F_CoreElaborator_names_noted [sv, .ref p] H = .exc H' ∧ Ext H H'
    | some xs => ∃ H', F_CoreElaborator_names_noted [sv, .ref p] H = .ok (.ref H.length) H' ∧ Ext H H' ∧ H'[H.length]? = some (.list (svs xs)) := by
  have hlen : ((hd ++ ns.map Nt.v).length : Int) = 2 + ns.length := by rw [List.length_append, List.length_map, h2]; rfl
  have e1 : bLen [.ref p] H = .ok (.int (2 + ns.length)) H := by
    rw [bLen_list hp (by rw [List.length_append, List.length_map, h2]; clear hlen; omega), hlen]
  clear hlen
  unfold told
  by_cases hn : ns = []
  · subst hn
    rw [if_pos rfl]
    refine ⟨H, ?_, Ext.refl H⟩
    have e1 : bLen [.ref p] H = .ok (.int 2) H := e1
    clear hp
    delta F_CoreElaborator_names_noted f_CoreElaborator_names_noted
    apply d_exc [(Str.ofString "self", sv), (Str.ofString "parts", .ref p)] ⟨rfl, rfl⟩
    refine' s_seq_exc (s_if (b := true) (H1 := H) ?_ (c_t (s_seq_exc (r_exc e_c))))
    ((repeat' with_reducible (first | exact s_set | exact e_nil | exact e_c | exact s_skip | apply e_cons | apply e_var | apply e_call | apply e_sub | apply e_bin | apply e_list | apply e_tup | (apply s_seq_exc; apply r_exc) | apply s_seqK | apply s_asg | apply s_if | apply s_ret | apply s_expr | apply t_ok | apply e_meth | apply e_or | apply e_and | apply e_ite | apply e_not | apply e_slice | apply e_neg | apply s_for | apply i_rng | apply i_range | apply i_range2 | exact s_swap2 | exact k_cont | exact k_ret | exact n_none | exact n_ref | exact n_tup | apply c_t | apply c_f | apply c_nt | apply c_nf | apply k_next | assumption | exact it0 | exact it1 | exact ne_f | (apply ne_t; first | assumption | kernel_rfl) | exact eq_t | exact eqi_t | (apply eq_f; first | assumption | kernel_rfl) | (apply eqi_f; first | assumption | kernel_rfl) | (apply lt_t; first | assumption | decide) | (apply lt_f; first | assumption | decide) | (apply le_t; first | assumption | decide) | (apply le_f; first | assumption | decide) | exact oAdd_ii | exact oSub_ii | apply b_append | exact isL_list | exact l_hit | (apply l_miss; kernel_rfl) | exact fFor_n trivial | rfl | (show Nat.ble _ _ = true; kernel_rfl))))
  · rw [if_neg hn]
    have hp' : (H ++ [.list []])[p]? = some (.list (hd ++ ns.map Nt.v)) := get_app hp
    have hlt := lt_of_get hp
    have X : NL [(Str.ofString "found", .ref H.length), (Str.ofString "place", .int 2), (Str.ofString "self", sv), (Str.ofString "parts", .ref p)] (H ++ [.list []]) p H.length hd ns [] :=
      ⟨hp', get_app_at _ _ _, by ((repeat' with_reducible (first | exact s_set | exact e_nil | exact e_c | exact s_skip | apply e_cons | apply e_var | apply e_call | apply e_sub | apply e_bin | apply e_list | apply e_tup | (apply s_seq_exc; apply r_exc) | apply s_seqK | apply s_asg | apply s_if | apply s_ret | apply s_expr | apply t_ok | apply e_meth | apply e_or | apply e_and | apply e_ite | apply e_not | apply e_slice | apply e_neg | apply s_for | apply i_rng | apply i_range | apply i_range2 | exact s_swap2 | exact k_cont | exact k_ret | exact n_none | exact n_ref | exact n_tup | apply c_t | apply c_f | apply c_nt | apply c_nf | apply k_next | assumption | exact it0 | exact it1 | exact ne_f | (apply ne_t; first | assumption | kernel_rfl) | exact eq_t | exact eqi_t | (apply eq_f; first | assumption | kernel_rfl) | (apply eqi_f; first | assumption | kernel_rfl) | (apply lt_t; first | assumption | decide) | (apply lt_f; first | assumption | decide) | (apply le_t; first | assumption | decide) | (apply le_f; first | assumption | decide) | exact oAdd_ii | exact oSub_ii | apply b_append | exact isL_list | exact l_hit | (apply l_miss; kernel_rfl) | exact fFor_n trivial | rfl | (show Nat.ble _ _ = true; kernel_rfl)))), by ((repeat' with_reducible (first | exact s_set | exact e_nil | exact e_c | exact s_skip | apply e_cons | apply e_var | apply e_call | apply e_sub | apply e_bin | apply e_list | apply e_tup | (apply s_seq_exc; apply r_exc) | apply s_seqK | apply s_asg | apply s_if | apply s_ret | apply s_expr | apply t_ok | apply e_meth | apply e_or | apply e_and | apply e_ite | apply e_not | apply e_slice | apply e_neg | apply s_for | apply i_rng | apply i_range | apply i_range2 | exact s_swap2 | exact k_cont | exact k_ret | exact n_none | exact n_ref | exact n_tup | apply c_t | apply c_f | apply c_nt | apply c_nf | apply k_next | assumption | exact it0 | exact it1 | exact ne_f | (apply ne_t; first | assumption | kernel_rfl) | exact eq_t | exact eqi_t | (apply eq_f; first | assumption | kernel_rfl) | (apply eqi_f; first | assumption | kernel_rfl) | (apply lt_t; first | assumption | decide) | (apply lt_f; first | assumption | decide) | (apply le_t; first | assumption | decide) | (apply le_f; first | assumption | decide) | exact oAdd_ii | exact oSub_ii | apply b_append | exact isL_list | exact l_hit | (apply l_miss; kernel_rfl) | exact fFor_n trivial | rfl | (show Nat.ble _ _ = true; kernel_rfl)))), by rw [h2]; show _ = some (V.int 2); ((repeat' with_reducible (first | exact s_set | exact e_nil | exact e_c | exact s_skip | apply e_cons | apply e_var | apply e_call | apply e_sub | apply e_bin | apply e_list | apply e_tup | (apply s_seq_exc; apply r_exc) | apply s_seqK | apply s_asg | apply s_if | apply s_ret | apply s_expr | apply t_ok | apply e_meth | apply e_or | apply e_and | apply e_ite | apply e_not | apply e_slice | apply e_neg | apply s_for | apply i_rng | apply i_range | apply i_range2 | exact s_swap2 | exact k_cont | exact k_ret | exact n_none | exact n_ref | exact n_tup | apply c_t | apply c_f | apply c_nt | apply c_nf | apply k_next | assumption | exact it0 | exact it1 | exact ne_f | (apply ne_t; first | assumption | kernel_rfl) | exact eq_t | exact eqi_t | (apply eq_f; first | assumption | kernel_rfl) | (apply eqi_f; first | assumption | kernel_rfl) | (apply lt_t; first | assumption | decide) | (apply lt_f; first | assumption | decide) | (apply le_t; first | assumption | decide) | (apply le_f; first | assumption | decide) | exact oAdd_ii | exact oSub_ii | apply b_append | exact isL_list | exact l_hit | (apply l_miss; kernel_rfl) | exact fFor_n trivial | rfl | (show Nat.ble _ _ = true; kernel_rfl)))), by clear e1 hlt; omega, by clear e1 hlt h2; show 0 + ns.length ≤ 1000; omega, Nat.ne_of_lt hlt⟩
    have e2 : ¬ ((2 : Int) + (ns.length : Int) < 3) := by
      have : ns.length ≠ 0 := fun z => hn (List.length_eq_zero_iff.mp z)
      clear e1 hlt h2 hl; omega
    have lp := nl_loop 5000 ns _ _ _ _ _ _ (Nat.lt_of_le_of_lt hl (by decide)) X
    have n0 := newL_ok (xs := []) (H := H) (Nat.zero_le _)
    clear X hp hp' hn hlt h2 hl
    cases hd' : noted ns with
    | none =>
      rw [hd'] at lp
      obtain ⟨m', ys, e⟩ := lp
      refine ⟨_, ?_, (Ext.app H [.list []]).set (Nat.le_refl _) (.list ys)⟩
      delta F_CoreElaborator_names_noted f_CoreElaborator_names_noted
      apply d_exc [(Str.ofString "self", sv), (Str.ofString "parts", .ref p)] ⟨rfl, rfl⟩
      refine s_seqK (m1 := [(Str.ofString "self", sv), (Str.ofString "parts", .ref p)]) (H1 := H) (fl := .next) ?_ (k_next (s_seqK (m1 := [(Str.ofString "found", .ref H.length), (Str.ofString "place", .int 2), (Str.ofString "self", sv), (Str.ofString "parts", .ref p)]) (H1 := H ++ [.list []]) (fl := .next) ?_ (k_next (s_seq_exc e))))
      · ((repeat' with_reducible (first | exact s_set | exact e_nil | exact e_c | exact s_skip | apply e_cons | apply e_var | apply e_call | apply e_sub | apply e_bin | apply e_list | apply e_tup | (apply s_seq_exc; apply r_exc) | apply s_seqK | apply s_asg | apply s_if | apply s_ret | apply s_expr | apply t_ok | apply e_meth | apply e_or | apply e_and | apply e_ite | apply e_not | apply e_slice | apply e_neg | apply s_for | apply i_rng | apply i_range | apply i_range2 | exact s_swap2 | exact k_cont | exact k_ret | exact n_none | exact n_ref | exact n_tup | apply c_t | apply c_f | apply c_nt | apply c_nf | apply k_next | assumption | exact it0 | exact it1 | exact ne_f | (apply ne_t; first | assumption | kernel_rfl) | exact eq_t | exact eqi_t | (apply eq_f; first | assumption | kernel_rfl) | (apply eqi_f; first | assumption | kernel_rfl) | (apply lt_t; first | assumption | decide) | (apply lt_f; first | assumption | decide) | (apply le_t; first | assumption | decide) | (apply le_f; first | assumption | decide) | exact oAdd_ii | exact oSub_ii | apply b_append | exact isL_list | exact l_hit | (apply l_miss; kernel_rfl) | exact fFor_n trivial | rfl | (show Nat.ble _ _ = true; kernel_rfl))))
      · ((repeat' with_reducible (first | exact s_set | exact e_nil | exact e_c | exact s_skip | apply e_cons | apply e_var | apply e_call | apply e_sub | apply e_bin | apply e_list | apply e_tup | (apply s_seq_exc; apply r_exc) | apply s_seqK | apply s_asg | apply s_if | apply s_ret | apply s_expr | apply t_ok | apply e_meth | apply e_or | apply e_and | apply e_ite | apply e_not | apply e_slice | apply e_neg | apply s_for | apply i_rng | apply i_range | apply i_range2 | exact s_swap2 | exact k_cont | exact k_ret | exact n_none | exact n_ref | exact n_tup | apply c_t | apply c_f | apply c_nt | apply c_nf | apply k_next | assumption | exact it0 | exact it1 | exact ne_f | (apply ne_t; first | assumption | kernel_rfl) | exact eq_t | exact eqi_t | (apply eq_f; first | assumption | kernel_rfl) | (apply eqi_f; first | assumption | kernel_rfl) | (apply lt_t; first | assumption | decide) | (apply lt_f; first | assumption | decide) | (apply le_t; first | assumption | decide) | (apply le_f; first | assumption | decide) | exact oAdd_ii | exact oSub_ii | apply b_append | exact isL_list | exact l_hit | (apply l_miss; kernel_rfl) | exact fFor_n trivial | rfl | (show Nat.ble _ _ = true; kernel_rfl))))
    | some xs =>
      rw [hd'] at lp
      obtain ⟨m', e, l⟩ := lp
      have e : _ = OutS.ok .next m' ((H ++ [AObj.list []]).set H.length (AObj.list (svs xs))) := e
      refine ⟨(H ++ [AObj.list []]).set H.length (AObj.list (svs xs)), ?_, (Ext.app H [.list []]).set (Nat.le_refl _) (.list (svs xs)), get_set_eq (get_app_at _ _ _)⟩
      delta F_CoreElaborator_names_noted f_CoreElaborator_names_noted
      apply d_ret [(Str.ofString "self", sv), (Str.ofString "parts", .ref p)] ⟨rfl, rfl⟩
      ((repeat' with_reducible (first | exact s_set | exact e_nil | exact e_c | exact s_skip | apply e_cons | apply e_var | apply e_call | apply e_sub | apply e_bin | apply e_list | apply e_tup | (apply s_seq_exc; apply r_exc) | apply s_seqK | apply s_asg | apply s_if | apply s_ret | apply s_expr | apply t_ok | apply e_meth | apply e_or | apply e_and | apply e_ite | apply e_not | apply e_slice | apply e_neg | apply s_for | apply i_rng | apply i_range | apply i_range2 | exact s_swap2 | exact k_cont | exact k_ret | exact n_none | exact n_ref | exact n_tup | apply c_t | apply c_f | apply c_nt | apply c_nf | apply k_next | assumption | exact it0 | exact it1 | exact ne_f | (apply ne_t; first | assumption | kernel_rfl) | exact eq_t | exact eqi_t | (apply eq_f; first | assumption | kernel_rfl) | (apply eqi_f; first | assumption | kernel_rfl) | (apply lt_t; first | assumption | decide) | (apply lt_f; first | assumption | decide) | (apply le_t; first | assumption | decide) | (apply le_f; first | assumption | decide) | exact oAdd_ii | exact oSub_ii | apply b_append | exact isL_list | exact l_hit | (apply l_miss; kernel_rfl) | exact fFor_n trivial | rfl | (show Nat.ble _ _ = true; kernel_rfl))))
structure Rdr (H : Hp) (rd : Nat) : Prop where
  ex : ∃ fs, H[rd]? = some (.inst 846 fs) ∧ fs.lookup (Str.ofString "names_noted") = none
theorem Rdr.ext {H H' rd} (x : Rdr H rd) (e : Ext H H') : Rdr H' rd := let ⟨fs, a, b⟩ := x.ex; ⟨fs, e.get a, b⟩
theorem told_ok {H : Hp} {rd i j : Nat} {hd : List V} {ns : List Nt} (R : Rdr H rd) (hi : H[i]? = some (.list hd)) (hj : H[j]? = some (.list (ns.map Nt.v))) (h2 : hd.length = 2) (hl : ns.length ≤ 900) :
    match told ns with
    | none => ∃ H', F_law_told [.ref rd, .ref i, .ref j] H = .ok .none H' ∧ Ext H H'
    | some xs => ∃ H' q, F_law_told [.ref rd, .ref i, .ref j] H = .ok (.ref q) H' ∧ Ext H H' ∧ H'[q]? = some (.list (svs xs)) := by
  obtain ⟨fs, h1, hf⟩ := R.ex
  have hI : isI 846 (Str.ofString "names_noted") (.inst 846 fs) = true := by unfold isI; dsimp only; rw [hf]; rfl
  have ha : oAdd (.ref i) (.ref j) H = .ok (.ref H.length) (H ++ [.list (hd ++ ns.map Nt.v)]) := by
    unfold oAdd
    dsimp only
    rw [hi, hj]
    exact newL_ok (by rw [List.length_append, List.length_map, h2]; omega)
  have nn := names_noted_ok (H := H ++ [.list (hd ++ ns.map Nt.v)]) (p := H.length) (sv := .ref rd) (get_app_at _ _ _) h2 hl
  clear hi hj R h2 hl
  cases ht : told ns with
  | none =>
    rw [ht] at nn
    obtain ⟨H', e, x⟩ := nn
    refine ⟨H', ?_, (Ext.app _ _).trans x⟩
    delta F_law_told f_law_told
    apply d_ret [(Str.ofString "reader", .ref rd), (Str.ofString "head", .ref i), (Str.ofString "notes", .ref j)] ⟨rfl, rfl⟩
    refine s_seqK (t_exc (s_seq_exc (s_ret_exc (call_exc (fo := fVar (Str.ofString "reader")) ?_ h1 hI ?_ e))) e_c) k_ret
    · ((repeat' with_reducible (first | exact s_set | exact e_nil | exact e_c | exact s_skip | apply e_cons | apply e_var | apply e_call | apply e_sub | apply e_bin | apply e_list | apply e_tup | (apply s_seq_exc; apply r_exc) | apply s_seqK | apply s_asg | apply s_if | apply s_ret | apply s_expr | apply t_ok | apply e_meth | apply e_or | apply e_and | apply e_ite | apply e_not | apply e_slice | apply e_neg | apply s_for | apply i_rng | apply i_range | apply i_range2 | exact s_swap2 | exact k_cont | exact k_ret | exact n_none | exact n_ref | exact n_tup | apply c_t | apply c_f | apply c_nt | apply c_nf | apply k_next | assumption | exact it0 | exact it1 | exact ne_f | (apply ne_t; first | assumption | kernel_rfl) | exact eq_t | exact eqi_t | (apply eq_f; first | assumption | kernel_rfl) | (apply eqi_f; first | assumption | kernel_rfl) | (apply lt_t; first | assumption | decide) | (apply lt_f; first | assumption | decide) | (apply le_t; first | assumption | decide) | (apply le_f; first | assumption | decide) | exact oAdd_ii | exact oSub_ii | apply b_append | exact isL_list | exact l_hit | (apply l_miss; kernel_rfl) | exact fFor_n trivial | rfl | (show Nat.ble _ _ = true; kernel_rfl))))
    · ((repeat' with_reducible (first | exact s_set | exact e_nil | exact e_c | exact s_skip | apply e_cons | apply e_var | apply e_call | apply e_sub | apply e_bin | apply e_list | apply e_tup | (apply s_seq_exc; apply r_exc) | apply s_seqK | apply s_asg | apply s_if | apply s_ret | apply s_expr | apply t_ok | apply e_meth | apply e_or | apply e_and | apply e_ite | apply e_not | apply e_slice | apply e_neg | apply s_for | apply i_rng | apply i_range | apply i_range2 | exact s_swap2 | exact k_cont | exact k_ret | exact n_none | exact n_ref | exact n_tup | apply c_t | apply c_f | apply c_nt | apply c_nf | apply k_next | assumption | exact it0 | exact it1 | exact ne_f | (apply ne_t; first | assumption | kernel_rfl) | exact eq_t | exact eqi_t | (apply eq_f; first | assumption | kernel_rfl) | (apply eqi_f; first | assumption | kernel_rfl) | (apply lt_t; first | assumption | decide) | (apply lt_f; first | assumption | decide) | (apply le_t; first | assumption | decide) | (apply le_f; first | assumption | decide) | exact oAdd_ii | exact oSub_ii | apply b_append | exact isL_list | exact l_hit | (apply l_miss; kernel_rfl) | exact fFor_n trivial | rfl | (show Nat.ble _ _ = true; kernel_rfl))))
  | some xs =>
    rw [ht] at nn
    obtain ⟨H', e, x, g⟩ := nn
    refine ⟨H', _, ?_, (Ext.app _ _).trans x, g⟩
    delta F_law_told f_law_told
    apply d_ret [(Str.ofString "reader", .ref rd), (Str.ofString "head", .ref i), (Str.ofString "notes", .ref j)] ⟨rfl, rfl⟩
    ((repeat' with_reducible (first | exact s_set | exact e_nil | exact e_c | exact s_skip | apply e_cons | apply e_var | apply e_call | apply e_sub | apply e_bin | apply e_list | apply e_tup | (apply s_seq_exc; apply r_exc) | apply s_seqK | apply s_asg | apply s_if | apply s_ret | apply s_expr | apply t_ok | apply e_meth | apply e_or | apply e_and | apply e_ite | apply e_not | apply e_slice | apply e_neg | apply s_for | apply i_rng | apply i_range | apply i_range2 | exact s_swap2 | exact k_cont | exact k_ret | exact n_none | exact n_ref | exact n_tup | apply c_t | apply c_f | apply c_nt | apply c_nf | apply k_next | assumption | exact it0 | exact it1 | exact ne_f | (apply ne_t; first | assumption | kernel_rfl) | exact eq_t | exact eqi_t | (apply eq_f; first | assumption | kernel_rfl) | (apply eqi_f; first | assumption | kernel_rfl) | (apply lt_t; first | assumption | decide) | (apply lt_f; first | assumption | decide) | (apply le_t; first | assumption | decide) | (apply le_f; first | assumption | decide) | exact oAdd_ii | exact oSub_ii | apply b_append | exact isL_list | exact l_hit | (apply l_miss; kernel_rfl) | exact fFor_n trivial | rfl | (show Nat.ble _ _ = true; kernel_rfl))))
end MP
namespace MP


namespace Nt
noncomputable def kd : Nt → String
  | .key _ => "key"
  | .sym _ => "sym"
  | .num => "num"
  | .str => "str"
  | .lst => "list"
noncomputable def pay : Nt → V
  | .key p => .str (Str.ofString p)
  | .sym p => .str (Str.ofString p)
  | .num => .int 3
  | .str => .str (Str.ofString "named")
  | .lst => .tup [.tup [.str (Str.ofString "key"), .str (Str.ofString "named")]]
theorem v_eq (x : Nt) : x.v = .tup [.str (Str.ofString x.kd), x.pay] := by cases x <;> rfl
theorem kd_key (x : Nt) : (x.kd == "key") = x.isKey := by cases x <;> rfl
end Nt
noncomputable def ov : Option Nt → V
  | none => .none
  | some x => x.v
noncomputable def onN : Option Nt → Bool
  | none => false
  | some x => x.isN
noncomputable abbrev kNv : V := .tup [.str (Str.ofString "key"), .str (Str.ofString "named")]
theorem toD_v (x : Nt) (H : Hp) : ∃ d, toD H 19 x.v = some d ∧ toD H 20 x.v = some d ∧ (PyData.eqv d (.tuple [.str (Str.ofString "key"), .str (Str.ofString "named")]) = x.isN) := by
  cases x with
  | key p => exact ⟨_, by simp only [Nt.v, toD_tup, toDs, toD_str (strOk_ofS _)]; rfl, by simp only [Nt.v, toD_tup, toDs, toD_str (strOk_ofS _)]; rfl, by simp [PyData.eqv, PyData.eqvAll, Nt.isN, ofS_beq]⟩
  | sym p => exact ⟨_, by simp only [Nt.v, toD_tup, toDs, toD_str (strOk_ofS _)]; rfl, by simp only [Nt.v, toD_tup, toDs, toD_str (strOk_ofS _)]; rfl, by simp [PyData.eqv, PyData.eqvAll, Nt.isN, ofS_beq]⟩
  | num => exact ⟨_, by simp only [Nt.v, toD_tup, toDs, toD_str (strOk_ofS _), toD_int]; rfl, by simp only [Nt.v, toD_tup, toDs, toD_str (strOk_ofS _), toD_int]; rfl, by simp [PyData.eqv, PyData.eqvAll, Nt.isN, ofS_beq]⟩
  | str => exact ⟨_, by simp only [Nt.v, toD_tup, toDs, toD_str (strOk_ofS _)]; rfl, by simp only [Nt.v, toD_tup, toDs, toD_str (strOk_ofS _)]; rfl, by simp [PyData.eqv, PyData.eqvAll, Nt.isN, ofS_beq]⟩
  | lst => exact ⟨_, by simp only [Nt.v, toD_tup, toDs, toD_str (strOk_ofS _), Option.map_some]; rfl, by simp only [Nt.v, toD_tup, toDs, toD_str (strOk_ofS _), Option.map_some], by simp [PyData.eqv, PyData.eqvAll, Nt.isN, ofS_beq]⟩
theorem toD_kN {H : Hp} : toD H 20 kNv = some (.tuple [.str (Str.ofString "key"), .str (Str.ofString "named")]) := by
  simp only [toD_tup, toDs, toD_str (strOk_ofS _)]; rfl
theorem oEq_kN (a : Option Nt) (H : Hp) : oEq (ov a) kNv H = .ok (.bool (onN a)) H := by
  unfold oEq
  rw [toD_kN]
  cases a with
  | none => rw [show toD H 20 (ov none) = some .none from toD_none]; rfl
  | some x =>
    obtain ⟨d, _, h, e⟩ := toD_v x H
    rw [show toD H 20 (ov (some x)) = some d from h]
    simp only [e]; rfl
theorem toDs_v (H : Hp) : ∀ ns : List Nt, ∃ ds, toDs (toD H 19) (ns.map Nt.v) = some ds ∧ ds.length = ns.length
  | [] => ⟨[], rfl, rfl⟩
  | x :: r => by
    obtain ⟨d, h, _⟩ := toD_v x H
    obtain ⟨ds, e, l⟩ := toDs_v H r
    exact ⟨d :: ds, by rw [List.map_cons, toDs, h, e], by simp [l]⟩
theorem oNe_nil {H : Hp} {i j : Nat} {ns : List Nt} (h : H[i]? = some (.list (ns.map Nt.v))) (h0 : H[j]? = some (.list [])) : oNe (.ref i) (.ref j) H = .ok (.bool (!ns.isEmpty)) H := by
  unfold oNe
  obtain ⟨ds, e, l⟩ := toDs_v H ns
  rw [toD_list h, toD_list h0, e]
  cases ns with
  | nil => cases ds with
    | nil => rfl
    | cons => simp at l
  | cons => cases ds with
    | nil => simp at l
    | cons => rfl
/-- pairs of neighbours -/
noncomputable def prs : Option Nt → List Nt → List (Option Nt × Option Nt)
  | p, [] => [(p, none)]
  | p, x :: r => (p, some x) :: prs (some x) r
noncomputable abbrev pv (q : Option Nt × Option Nt) : V := .tup [ov q.1, ov q.2]
theorem zip_prs : ∀ (p : Option Nt) (ns : List Nt), zipV (ov p :: ns.map Nt.v) (ns.map Nt.v ++ [.none]) = (prs p ns).map pv
  | p, [] => rfl
  | p, x :: r => by
    have := zip_prs (some x) r
    simp only [prs, List.map_cons, zipV, List.cons_append, List.zipWith_cons_cons] at this ⊢
    rw [← this]; rfl
noncomputable def notKey : Option Nt → Bool
  | none => true
  | some x => !x.isKey
noncomputable def isSym : Nt → Bool
  | .sym _ => true
  | _ => false
theorem kd_sym (x : Nt) : (x.kd == "sym") = isSym x := by cases x <;> rfl
noncomputable def notSym : Option Nt → Bool
  | none => true
  | some x => !isSym x
noncomputable def wrong (q : Option Nt × Option Nt) : Bool := (q.2.isSome && notKey q.2 && notKey q.1) || (onN q.1 && notSym q.2)
theorem due_fin {t1 t2 : FE} {m : Fm} {H : Hp} {a b c : Bool} (h1 : t1 m H = .ok (.bool a) H) (h2 : t2 m H = .ok (.bool b) H) (hc : c = (a || b)) : fSeq (fIf t1 (fSeq (fRet (fC .none)) fSkip) fSkip) (fSeq (fIf t2 (fSeq (fRet (fC .none)) fSkip) fSkip) fSkip) m H = if c then .ok (.ret .none) m H else .ok .next m H := by
  subst hc
  cases a with
  | true => exact s_seqK (s_if h1 (c_t (s_seqK (s_ret e_c) k_ret))) k_ret
  | false => cases b with
    | true => exact s_seqK (s_if h1 (c_f s_skip)) (k_next (s_seqK (s_if h2 (c_t (s_seqK (s_ret e_c) k_ret))) k_ret))
    | false => exact s_seqK (s_if h1 (c_f s_skip)) (k_next (s_seqK (s_if h2 (c_f s_skip)) (k_next s_skip)))
theorem due_body {m : Fm} {H : Hp} {a b : Option Nt} (h1 : m.lookup (Str.ofString "one") = some (ov a)) (h2 : m.lookup (Str.ofString "other") = some (ov b)) :
    f_law_due_b3 m H = if wrong (a, b) then .ok (.ret .none) m H else .ok .next m H := by
  have e1 : fBin oEq (fVar (Str.ofString "one")) (fTup (fCons (fC (.str (Str.ofString "key"))) (fCons (fC (.str (Str.ofString "named"))) fNil))) m H = .ok (.bool (onN a)) H := e_bin (e_var h1) (e_tup (e_cons e_c (e_cons e_c e_nil)) rfl) (oEq_kN a H)
  have ne : ∀ {z : Nt} {x : Str} (s : String), m.lookup x = some z.v → fBin oNe (fSub (fVar x) (fC (.int 0))) (fC (.str (Str.ofString s))) m H = .ok (.bool !(z.kd == s)) H := fun {z x} s h => e_bin (e_sub (e_var h) e_c (z.v_eq ▸ it0)) e_c oNe_ss
  have n1 : ∀ {z : Nt} {x : Str}, m.lookup x = some z.v → fBin oNotNone (fVar x) (fC .none) m H = .ok (.bool true) H := fun {z x} h => e_bin (e_var h) e_c (z.v_eq ▸ rfl)
  have n0 : ∀ {z : Nt} {x : Str}, m.lookup x = some z.v → fBin oIsNone (fVar x) (fC .none) m H = .ok (.bool false) H := fun {z x} h => e_bin (e_var h) e_c (z.v_eq ▸ rfl)
  delta f_law_due_b3
  cases a with
  | none =>
    have ha : fBin oIsNone (fVar (Str.ofString "one")) (fC .none) m H = .ok (.bool true) H := e_bin (e_var h1) e_c rfl
    cases b with
    | none => exact due_fin (a := false) (b := false) (e_and (b := false) (e_bin (e_var h2) e_c rfl) (c_f rfl)) (e_and e1 (c_f rfl)) rfl
    | some y => exact due_fin (a := true && (!(y.kd == "key") && true)) (b := false) (e_andB (n1 h2) (e_andB (ne _ h2) (e_or ha (c_t rfl)))) (e_and e1 (c_f rfl)) (by rw [y.kd_key]; show (true && !y.isKey && true || false) = _; cases y.isKey <;> rfl)
  | some x =>
    cases b with
    | none => exact due_fin (a := false) (b := x.isN && true) (e_and (b := false) (e_bin (e_var h2) e_c rfl) (c_f rfl)) (e_andB e1 (e_or (b := true) (e_bin (e_var h2) e_c rfl) (c_t rfl))) rfl
    | some y => exact due_fin (e_andB (n1 h2) (e_andB (ne _ h2) (e_orB (n0 h1) (ne _ h1)))) (e_andB e1 (e_orB (n0 h2) (ne _ h2))) (by rw [y.kd_key, x.kd_key, kd_sym]; show (true && !y.isKey && !x.isKey || (x.isN && !isSym y)) = _; rw [Bool.and_assoc]; rfl)
theorem due_loop {G : Hp → Prop} {H : Hp} (hG : G H) (l : List (Option Nt × Option Nt)) : ∀ (m : Fm),
    ∃ m', fFor G (fUnpack 2 (fT (fSet (Str.ofString "one")) (fT (fSet (Str.ofString "other")) fT0))) f_law_due_b3 (l.map pv) m H = (match l.any wrong with | true => .ok (.ret .none) m' H | false => .ok .next m' H) ∧ ∀ x : String, x ≠ "one" → x ≠ "other" → m'.lookup (Str.ofString x) = m.lookup (Str.ofString x) := by
  induction l with
  | nil => exact fun m => ⟨m, fFor_n hG, fun _ _ _ => rfl⟩
  | cons p r ih =>
    intro m
    obtain ⟨a, b⟩ := p
    have hb := due_body (H := H) (a := a) (b := b) (m := (Str.ofString "other", ov b) :: (Str.ofString "one", ov a) :: m) (by ((repeat' with_reducible (first | exact s_set | exact e_nil | exact e_c | exact s_skip | apply e_cons | apply e_var | apply e_call | apply e_sub | apply e_bin | apply e_list | apply e_tup | (apply s_seq_exc; apply r_exc) | apply s_seqK | apply s_asg | apply s_if | apply s_ret | apply s_expr | apply t_ok | apply e_meth | apply e_or | apply e_and | apply e_ite | apply e_not | apply e_slice | apply e_neg | apply s_for | apply i_rng | apply i_range | apply i_range2 | exact s_swap2 | exact k_cont | exact k_ret | exact n_none | exact n_ref | exact n_tup | apply c_t | apply c_f | apply c_nt | apply c_nf | apply k_next | assumption | exact it0 | exact it1 | exact ne_f | (apply ne_t; first | assumption | kernel_rfl) | exact eq_t | exact eqi_t | (apply eq_f; first | assumption | kernel_rfl) | (apply eqi_f; first | assumption | kernel_rfl) | (apply lt_t; first | assumption | decide) | (apply lt_f; first | assumption | decide) | (apply le_t; first | assumption | decide) | (apply le_f; first | assumption | decide) | exact oAdd_ii | exact oSub_ii | apply b_append | exact isL_list | exact l_hit | (apply l_miss; kernel_rfl) | exact fFor_n trivial | rfl | (show Nat.ble _ _ = true; kernel_rfl))))) l_hit
    have lk : ∀ x : String, x ≠ "one" → x ≠ "other" → ((Str.ofString "other", ov b) :: (Str.ofString "one", ov a) :: m).lookup (Str.ofString x) = m.lookup (Str.ofString x) := fun x h1 h2 => (l_skip h2).trans (l_skip h1)
    rw [List.map_cons, List.any_cons]
    by_cases hw : wrong (a, b) = true
    · rw [if_pos hw] at hb
      rw [hw, f_ret hG unpack2 hb]
      exact ⟨_, rfl, lk⟩
    · rw [if_neg hw] at hb
      obtain ⟨m', e, l'⟩ := ih ((Str.ofString "other", ov b) :: (Str.ofString "one", ov a) :: m)
      rw [f_next hG unpack2 hb, e, eq_false_of_ne_true hw, Bool.false_or]
      exact ⟨m', rfl, fun x h1 h2 => (l' x h1 h2).trans (lk x h1 h2)⟩
noncomputable def nm2 (q : Option Nt × Option Nt) : Option String := if onN q.1 then (match q.2 with | some (.sym s) => some s | _ => none) else none
theorem due_comp {G : Hp → Prop} {i : Nat} (l : List (Option Nt × Option Nt)) : ∀ (m : Fm) (H : Hp) (acc : List V), (∀ ys, G (H.set i (.list ys))) → H[i]? = some (.list acc) → l.any wrong = false → acc.length + l.length ≤ 10000 →
    cLoop G (vPair (Str.ofString "one") (Str.ofString "other")) f_law_due_c1 f_law_due_e2 i (l.map pv) m H = .ok () (H.set i (.list (acc ++ svs (l.filterMap nm2)))) := by
  induction l with
  | nil =>
    intro m H acc hG hi _ _
    have g : G H := by have := hG acc; rwa [set_same hi] at this
    rw [List.map_nil, cLoop_n g, List.filterMap_nil]
    show _ = Out.ok () (H.set i (.list (acc ++ [])))
    rw [List.append_nil, set_same hi]
  | cons p r ih =>
    obtain ⟨a, b⟩ := p
    intro m H acc hG hi hw hl
    have g : G H := by have := hG acc; rwa [set_same hi] at this
    rw [List.any_cons, Bool.or_eq_false_iff] at hw
    have hl : acc.length + (r.length + 1) ≤ 10000 := hl
    have c1 : f_law_due_c1 ((Str.ofString "other", ov b) :: (Str.ofString "one", ov a) :: m) H = .ok (.bool (onN a)) H := e_bin (e_var (by ((repeat' with_reducible (first | exact s_set | exact e_nil | exact e_c | exact s_skip | apply e_cons | apply e_var | apply e_call | apply e_sub | apply e_bin | apply e_list | apply e_tup | (apply s_seq_exc; apply r_exc) | apply s_seqK | apply s_asg | apply s_if | apply s_ret | apply s_expr | apply t_ok | apply e_meth | apply e_or | apply e_and | apply e_ite | apply e_not | apply e_slice | apply e_neg | apply s_for | apply i_rng | apply i_range | apply i_range2 | exact s_swap2 | exact k_cont | exact k_ret | exact n_none | exact n_ref | exact n_tup | apply c_t | apply c_f | apply c_nt | apply c_nf | apply k_next | assumption | exact it0 | exact it1 | exact ne_f | (apply ne_t; first | assumption | kernel_rfl) | exact eq_t | exact eqi_t | (apply eq_f; first | assumption | kernel_rfl) | (apply eqi_f; first | assumption | kernel_rfl) | (apply lt_t; first | assumption | decide) | (apply lt_f; first | assumption | decide) | (apply le_t; first | assumption | decide) | (apply le_f; first | assumption | decide) | exact oAdd_ii | exact oSub_ii | apply b_append | exact isL_list | exact l_hit | (apply l_miss; kernel_rfl) | exact fFor_n trivial | rfl | (show Nat.ble _ _ = true; kernel_rfl)))))) (e_tup (e_cons e_c (e_cons e_c e_nil)) rfl) (oEq_kN a H)
    rw [List.map_cons]
    cases hN : onN a with
    | false =>
      have : nm2 (a, b) = none := by unfold nm2; dsimp only; rw [hN]; rfl
      rw [hN] at c1
      rw [List.filterMap_cons_none this, cl_f (m1 := (Str.ofString "other", ov b) :: (Str.ofString "one", ov a) :: m) g rfl c1]
      exact ih _ H acc hG hi hw.2 (Nat.le_trans (Nat.le_succ _) hl)
    | true =>
      obtain ⟨q, rfl⟩ : ∃ q, b = some (.sym q) := by
        have := hw.1
        unfold wrong at this
        rw [Bool.or_eq_false_iff] at this
        have this := this.2
        dsimp only at this
        rw [hN] at this
        clear c1 ih hw
        cases b with
        | none => cases this
        | some y => cases y with
          | sym q => exact ⟨q, rfl⟩
          | _ => cases this
      have : nm2 (a, some (.sym q)) = some q := by unfold nm2; dsimp only; rw [hN]; rfl
      rw [hN] at c1
      have c2 : f_law_due_e2 ((Str.ofString "other", ov (some (.sym q))) :: (Str.ofString "one", ov a) :: m) H = .ok (.str (Str.ofString q)) H := e_sub (e_var l_hit) e_c it1
      have e := ih ((Str.ofString "other", ov (some (.sym q))) :: (Str.ofString "one", ov a) :: m) (H.set i (.list (acc ++ [V.str (Str.ofString q)]))) (acc ++ [V.str (Str.ofString q)]) (fun ys => by rw [List.set_set]; exact hG ys) (get_set_eq hi) hw.2 (by rw [List.length_append, Nat.add_assoc, Nat.add_comm [V.str (Str.ofString q)].length]; exact hl)
      rw [List.filterMap_cons_some this, cl_t (m1 := (Str.ofString "other", ov (some (.sym q))) :: (Str.ofString "one", ov a) :: m) g rfl c1 c2 hi (Nat.lt_of_le_of_lt (Nat.le_trans (Nat.le_add_right _ _) hl) (by decide)), e, List.set_set, List.append_assoc]
      rfl
noncomputable def due (ns : List Nt) : Option (List String) := if (prs none ns).any wrong = true ∨ ns = [] then none else some ((prs none ns).filterMap nm2)
noncomputable def IsOpt (H : Hp) (v : V) (o : Option (List String)) : Prop := match o with
  | none => v = .none
  | some xs => ∃ q, v = .ref q ∧ H[q]? = some (.list (svs xs))
theorem IsOpt.ext {H H' : Hp} {v o} (x : IsOpt H v o) (e : Ext H H') : IsOpt H' v o := by
  cases o with
  | none => exact x
  | some xs => obtain ⟨q, a, b⟩ := x; exact ⟨q, a, e.get b⟩
theorem prs_len : ∀ (p : Option Nt) (ns : List Nt), (prs p ns).length = ns.length + 1
  | _, [] => rfl
  | _, x :: r => by simp [prs, prs_len (some x) r]
theorem due_ok {H : Hp} {j : Nat} {ns : List Nt} (hj : H[j]? = some (.list (ns.map Nt.v))) (hl : ns.length ≤ 900) : ∃ r H', F_law_due [.ref j] H = .ok r H' ∧ Ext H H' ∧ IsOpt H' r (due ns) := by
  refine Classical.byContradiction fun K => ?_
  have hml : (ns.map Nt.v).length ≤ 900 := by rw [List.length_map]; exact hl
  obtain ⟨H1, a1, x1, g1⟩ := newL_ex (xs := [.none]) H (by decide)
  obtain ⟨H2, a2, x2, g2⟩ := add_ex g1 (x1.get hj) (Nat.le_trans (Nat.add_le_add_left hml _) (by decide))
  obtain ⟨H3, a3, x3, g3⟩ := newL_ex (xs := [.none]) H2 (by decide)
  obtain ⟨H4, a4, x4, g4⟩ := add_ex (((x1.trans x2).trans x3).get hj) g3 (Nat.le_trans (Nat.add_le_add_right hml _) (by decide))
  have t1 : sqOf H4 (.ref H1.length) = some ([.none] ++ ns.map Nt.v) := by unfold sqOf; dsimp only; rw [(x3.trans x4).get g2]
  have t2 : sqOf H4 (.ref H3.length) = some (ns.map Nt.v ++ [.none]) := by unfold sqOf; dsimp only; rw [g4]
  obtain ⟨P, hz, hP⟩ : ∃ P, zipV ([.none] ++ ns.map Nt.v) (ns.map Nt.v ++ [.none]) = P ∧ P = (prs none ns).map pv := ⟨_, rfl, zip_prs none ns⟩
  have hPl : P.length ≤ 1000000 := by rw [hP, List.length_map, prs_len]; exact Nat.le_trans (Nat.succ_le_succ hl) (by decide)
  obtain ⟨H5, a5, x5, g5⟩ := newL_ex (xs := P) (H4 ++ [.opq]) hPl
  obtain ⟨pj, hpj⟩ : ∃ pj, pj = (H4 ++ [AObj.opq]).length := ⟨_, rfl⟩
  rw [← hpj] at a5 g5
  rw [← hz] at a5
  have x05 : Ext H H5 := (((x1.trans x2).trans x3).trans x4).trans ((Ext.app _ _).trans x5)
  have hj5 := x05.get hj
  clear g1 g2 g3 g4 x1 x2 x3 x4 x5 hj hPl hpj
  obtain ⟨m', el, lk⟩ := due_loop (G := fun H => H[pj]? = some (.list P)) g5 (prs none ns) [(Str.ofString "pairs", .ref pj), (Str.ofString "notes", .ref j)]
  rw [← hP] at el
  have l1 : m'.lookup (Str.ofString "notes") = some (.ref j) := by rw [lk _ (by decide) (by decide)]; ((repeat' with_reducible (first | exact s_set | exact e_nil | exact e_c | exact s_skip | apply e_cons | apply e_var | apply e_call | apply e_sub | apply e_bin | apply e_list | apply e_tup | (apply s_seq_exc; apply r_exc) | apply s_seqK | apply s_asg | apply s_if | apply s_ret | apply s_expr | apply t_ok | apply e_meth | apply e_or | apply e_and | apply e_ite | apply e_not | apply e_slice | apply e_neg | apply s_for | apply i_rng | apply i_range | apply i_range2 | exact s_swap2 | exact k_cont | exact k_ret | exact n_none | exact n_ref | exact n_tup | apply c_t | apply c_f | apply c_nt | apply c_nf | apply k_next | assumption | exact it0 | exact it1 | exact ne_f | (apply ne_t; first | assumption | kernel_rfl) | exact eq_t | exact eqi_t | (apply eq_f; first | assumption | kernel_rfl) | (apply eqi_f; first | assumption | kernel_rfl) | (apply lt_t; first | assumption | decide) | (apply lt_f; first | assumption | decide) | (apply le_t; first | assumption | decide) | (apply le_f; first | assumption | decide) | exact oAdd_ii | exact oSub_ii | apply b_append | exact isL_list | exact l_hit | (apply l_miss; kernel_rfl) | exact fFor_n trivial | rfl | (show Nat.ble _ _ = true; kernel_rfl))))
  have l2 : m'.lookup (Str.ofString "pairs") = some (.ref pj) := by rw [lk _ (by decide) (by decide)]; ((repeat' with_reducible (first | exact s_set | exact e_nil | exact e_c | exact s_skip | apply e_cons | apply e_var | apply e_call | apply e_sub | apply e_bin | apply e_list | apply e_tup | (apply s_seq_exc; apply r_exc) | apply s_seqK | apply s_asg | apply s_if | apply s_ret | apply s_expr | apply t_ok | apply e_meth | apply e_or | apply e_and | apply e_ite | apply e_not | apply e_slice | apply e_neg | apply s_for | apply i_rng | apply i_range | apply i_range2 | exact s_swap2 | exact k_cont | exact k_ret | exact n_none | exact n_ref | exact n_tup | apply c_t | apply c_f | apply c_nt | apply c_nf | apply k_next | assumption | exact it0 | exact it1 | exact ne_f | (apply ne_t; first | assumption | kernel_rfl) | exact eq_t | exact eqi_t | (apply eq_f; first | assumption | kernel_rfl) | (apply eqi_f; first | assumption | kernel_rfl) | (apply lt_t; first | assumption | decide) | (apply lt_f; first | assumption | decide) | (apply le_t; first | assumption | decide) | (apply le_f; first | assumption | decide) | exact oAdd_ii | exact oSub_ii | apply b_append | exact isL_list | exact l_hit | (apply l_miss; kernel_rfl) | exact fFor_n trivial | rfl | (show Nat.ble _ _ = true; kernel_rfl))))
  have s1 : fAsgE (fListZip (fCons (fBin oAdd (fList (fCons (fC .none) (fNil))) (fVar (Str.ofString "notes"))) (fCons (fBin oAdd (fVar (Str.ofString "notes")) (fList (fCons (fC .none) (fNil)))) (fNil)))) (fSet (Str.ofString "pairs")) [(Str.ofString "notes", .ref j)] H = .ok .next [(Str.ofString "pairs", .ref pj), (Str.ofString "notes", .ref j)] H5 := by
    refine s_asg (e_lzip (a := .ref H1.length) (b := .ref H3.length) ?_ t1 t2 a5) s_set
    ((repeat' with_reducible (first | exact s_set | exact e_nil | exact e_c | exact s_skip | apply e_cons | apply e_var | apply e_call | apply e_sub | apply e_bin | apply e_list | apply e_tup | (apply s_seq_exc; apply r_exc) | apply s_seqK | apply s_asg | apply s_if | apply s_ret | apply s_expr | apply t_ok | apply e_meth | apply e_or | apply e_and | apply e_ite | apply e_not | apply e_slice | apply e_neg | apply s_for | apply i_rng | apply i_range | apply i_range2 | exact s_swap2 | exact k_cont | exact k_ret | exact n_none | exact n_ref | exact n_tup | apply c_t | apply c_f | apply c_nt | apply c_nf | apply k_next | assumption | exact it0 | exact it1 | exact ne_f | (apply ne_t; first | assumption | kernel_rfl) | exact eq_t | exact eqi_t | (apply eq_f; first | assumption | kernel_rfl) | (apply eqi_f; first | assumption | kernel_rfl) | (apply lt_t; first | assumption | decide) | (apply lt_f; first | assumption | decide) | (apply le_t; first | assumption | decide) | (apply le_f; first | assumption | decide) | exact oAdd_ii | exact oSub_ii | apply b_append | exact isL_list | exact l_hit | (apply l_miss; kernel_rfl) | exact fFor_n trivial | rfl | (show Nat.ble _ _ = true; kernel_rfl))))
  have s2 : ∀ r : OutS, fFor (fun H => H[pj]? = some (.list P)) (fUnpack 2 (fT (fSet (Str.ofString "one")) (fT (fSet (Str.ofString "other")) fT0))) f_law_due_b3 P [(Str.ofString "pairs", .ref pj), (Str.ofString "notes", .ref j)] H5 = r → fForS (fIter (fVar (Str.ofString "pairs"))) (fUnpack 2 (fT (fSet (Str.ofString "one")) (fT (fSet (Str.ofString "other")) fT0))) f_law_due_b3 [(Str.ofString "pairs", .ref pj), (Str.ofString "notes", .ref j)] H5 = r := fun r e => s_for (i_list (e_var l_hit) g5) e
  clear a1 a2 a3 a4 a5 t1 t2 lk
  cases hw : (prs none ns).any wrong with
  | true =>
    rw [hw] at el
    have : due ns = none := if_pos (.inl hw)
    refine K ⟨.none, H5, d_ret _ ⟨rfl, rfl⟩ (s_seqK s1 (k_next (s_seqK (s2 _ el) k_ret))), x05, ?_⟩
    rw [this]; rfl
  | false =>
    rw [hw] at el
    obtain ⟨H6, a6, x6, g6⟩ := newL_ex (xs := []) H5 (Nat.zero_le _)
    have n1 := oNe_nil (x6.get hj5) g6
    have fin : ∀ {r : V} {H' : Hp}, fIte (fBin oNe (fVar (Str.ofString "notes")) (fList fNil)) (fComp [] (fIter (fVar (Str.ofString "pairs"))) (vPair (Str.ofString "one") (Str.ofString "other")) f_law_due_c1 f_law_due_e2) (fC .none) m' H5 = .ok r H' → F_law_due [.ref j] H = .ok r H' := fun e => d_ret _ ⟨rfl, rfl⟩ (s_seqK s1 (k_next (s_seqK (s2 _ el) (k_next (s_seqK (s_ret e) k_ret)))))
    cases ns with
    | nil =>
      have : due [] = none := if_pos (.inr rfl)
      refine K ⟨.none, H6, fin (e_ite (b := false) (e_bin (e_var l1) (e_list e_nil a6) n1) (c_f e_c)), x05.trans x6, ?_⟩
      rw [this]; rfl
    | cons y ys =>
      have g7 : (H6 ++ [AObj.list []])[H6.length]? = some (.list []) := get_app_at _ _ _
      have cl := due_comp (G := fun H => H[pj]? = some (.list P)) (prs none (y :: ys)) [] (H6 ++ [AObj.list []]) [] (fun ys' => get_set_ne (Nat.ne_of_lt (Nat.lt_of_lt_of_le (lt_of_get g5) x6.len)) (get_app (x6.get g5))) g7 hw (by rw [prs_len]; exact Nat.le_trans (Nat.le_of_eq (Nat.zero_add _)) (Nat.le_trans (Nat.succ_le_succ hl) (by decide)))
      rw [← hP] at cl
      have : due (y :: ys) = some ((prs none (y :: ys)).filterMap nm2) := if_neg (by rw [hw]; exact fun z => z.elim (fun z => by cases z) (fun z => by cases z))
      refine K ⟨.ref H6.length, (H6 ++ [AObj.list []]).set H6.length (.list ([] ++ svs ((prs none (y :: ys)).filterMap nm2))), fin (e_ite (b := true) (e_bin (e_var l1) (e_list e_nil a6) n1) (c_t (e_comp (i_list (e_var l2) (x6.get g5)) (List.filter_eq_nil_iff.mpr fun _ _ z => by cases z) cl))), (x05.trans x6).trans ((Ext.app _ _).set (Nat.le_refl _) _), ?_⟩
      rw [this]
      exact ⟨_, rfl, get_set_eq g7⟩
end MP
namespace MP
noncomputable def dueF (p : Option Nt) (ns : List Nt) : Option (List String) := match (prs p ns).any wrong with
  | true => none
  | false => some ((prs p ns).filterMap nm2)
theorem onN_notKey : ∀ {p : Option Nt}, notKey p = true → onN p = false
  | none, _ => rfl
  | some (.key _), h => by cases h
  | some (.sym _), _ => rfl
  | some .num, _ => rfl
  | some .str, _ => rfl
  | some .lst, _ => rfl
theorem prs_cons (p : Option Nt) (x : Nt) (r : List Nt) : prs p (x :: r) = (p, some x) :: prs (some x) r := rfl
theorem dueF_cons (p : Option Nt) (x : Nt) (r : List Nt) : dueF p (x :: r) = match wrong (p, some x) with | true => none | false => (match nm2 (p, some x) with | none => dueF (some x) r | some s => (dueF (some x) r).map (s :: ·)) := by
  unfold dueF
  rw [prs_cons, List.any_cons]
  cases hw : wrong (p, some x) with
  | true => rfl
  | false =>
    rw [Bool.false_or]
    cases hn : nm2 (p, some x) with
    | none => rw [List.filterMap_cons_none hn]
    | some s =>
      rw [List.filterMap_cons_some hn]
      cases (prs (some x) r).any wrong <;> rfl
theorem noted_due : ∀ (ns : List Nt) (p : Option Nt), notKey p = true → noted ns = dueF p ns
  | [], p, hp => by
    have h := onN_notKey hp
    simp [noted, dueF, prs, wrong, h, nm2]
  | [k], p, hp => by
    have h := onN_notKey hp
    rw [dueF_cons]
    simp only [noted, wrong, Option.isSome, hp, h, Bool.true_and, Bool.and_true, Bool.false_and, Bool.or_false, nm2]
    cases hk : k.isKey with
    | false =>
      simp only [notKey, hk]
      rfl
    | true =>
      simp only [notKey, hk, dueF, prs]
      cases hN : k.isN <;> simp [wrong, notKey, onN, notSym, nm2, hN]
  | k :: w :: r, p, hp => by
    have h := onN_notKey hp
    have ih1 := noted_due (w :: r) none rfl
    rw [dueF_cons]
    simp only [noted, wrong, Option.isSome, hp, h, Bool.true_and, Bool.and_true, Bool.false_and, Bool.or_false, nm2]
    cases hk : k.isKey with
    | false => simp only [notKey, hk]; rfl
    | true =>
      simp only [notKey, hk, Bool.not_true, if_true]
      rw [dueF_cons]
      cases hw : w.isKey with
      | true =>
        rw [dueF_cons] at ih1
        have hs : isSym w = false := by cases w <;> first | rfl | cases hw
        cases hN : k.isN with
        | true => simp [wrong, notKey, hk, hw, onN, hN, notSym, hs]
        | false =>
          simp only [wrong, notKey, hk, hw, onN, hN, nm2] at ih1 ⊢
          simpa using ih1
      | false =>
        have ih2 := noted_due r (some w) (by simp [notKey, hw])
        cases hN : k.isN with
        | false =>
          simp only [wrong, notKey, hk, hw, onN, hN, nm2]
          simpa using ih2
        | true =>
          cases w with
          | sym q =>
            simp only [wrong, notKey, hk, hw, onN, hN, nm2, notSym, isSym]
            simp [ih2]
          | key q => cases hw
          | _ => simp [wrong, notKey, hk, hw, onN, hN, nm2, notSym, isSym]
theorem told_due (ns : List Nt) : told ns = due ns := by
  unfold told due
  by_cases hn : ns = []
  · simp [hn]
  · rw [if_neg hn, noted_due ns none rfl]
    unfold dueF
    cases (prs none ns).any wrong <;> simp [hn]
/-- a lot: a keyword and what is no keyword behind it -/
noncomputable def good (g : List Nt) : Prop := ∃ k r, g = k :: r ∧ k.isKey = true ∧ ∀ x ∈ r, x.isKey = false
noncomputable def startsKey : List Nt → Bool
  | [] => true
  | x :: _ => x.isKey
noncomputable def gname : List Nt → Option (List String)
  | [k] => if k.isN then none else some []
  | [k, w] => if k.isN then (match w with | .sym p => some [p] | _ => none) else some []
  | _ => none
theorem noted_good {g r : List Nt} (hg : good g) (hr : startsKey r = true) : noted (g ++ r) = (gname g).bind fun a => (noted r).map (a ++ ·) := by
  obtain ⟨k, t, rfl, hk, ht⟩ := hg
  cases t with
  | nil =>
    cases r with
    | nil => simp only [List.append_nil, noted, hk, gname]; cases k.isN <;> simp
    | cons x r =>
      have hx : x.isKey = true := hr
      simp only [List.cons_append, List.nil_append, noted, hk, hx, if_true, gname]
      cases k.isN <;> simp
  | cons w t =>
    have hw := ht w (by simp)
    cases t with
    | nil =>
      simp only [List.cons_append, List.nil_append, noted, hk, hw, if_true, gname]
      cases hN : k.isN with
      | false => simp
      | true =>
        cases w with
        | sym p => simp only [if_true, Option.bind_some]; cases noted r <;> simp
        | key p => cases hw
        | _ => simp
    | cons y t =>
      have hy := ht y (by simp)
      have z : noted (y :: (t ++ r)) = none := by
        cases hq : t ++ r with
        | nil => simp [noted, hy]
        | cons => simp [noted, hy]
      simp only [List.cons_append, noted, hk, hw, if_true, gname]
      rw [z]
      cases k.isN with
      | false => simp
      | true => cases w <;> simp
noncomputable def NN : List (List Nt) → Option (List String)
  | [] => some []
  | g :: gs => (gname g).bind fun a => (NN gs).map (a ++ ·)
theorem starts_flat : ∀ {gs : List (List Nt)}, (∀ g ∈ gs, good g) → startsKey gs.flatten = true
  | [], _ => rfl
  | g :: gs, h => by
    obtain ⟨k, r, rfl, hk, _⟩ := h g (by simp)
    exact hk
theorem noted_flat : ∀ {gs : List (List Nt)}, (∀ g ∈ gs, good g) → noted gs.flatten = NN gs
  | [], _ => rfl
  | g :: gs, h => by
    have h' : ∀ g ∈ gs, good g := fun x hx => h x (List.mem_cons_of_mem _ hx)
    rw [List.flatten_cons, noted_good (h g (by simp)) (starts_flat h'), noted_flat h']
    rfl
theorem NN_app : ∀ (a b : List (List Nt)), NN (a ++ b) = (NN a).bind fun x => (NN b).map (x ++ ·)
  | [], b => by simp only [List.nil_append, NN, Option.bind_some]; cases NN b <;> simp
  | g :: a, b => by
    simp only [List.cons_append, NN, NN_app a b]
    cases gname g <;> cases NN a <;> cases NN b <;> simp
theorem gname_len {g : List Nt} {a : List String} (h : gname g = some a) : a.length ≤ 1 := by
  unfold gname at h
  split at h
  · split at h <;> cases h; simp
  · split at h
    · split at h <;> cases h; simp
    · cases h; simp
  · cases h
theorem NN_rev : ∀ {gs : List (List Nt)} {xs : List String}, NN gs = some xs → NN gs.reverse = some xs.reverse
  | [], xs, h => by cases h; rfl
  | g :: gs, xs, h => by
    simp only [NN] at h
    cases hg : gname g with
    | none => rw [hg] at h; cases h
    | some a =>
      cases hn : NN gs with
      | none => rw [hg, hn] at h; cases h
      | some b =>
        rw [hg, hn] at h
        cases h
        have hl := gname_len hg
        rw [List.reverse_cons, NN_app, NN_rev hn]
        simp only [NN, hg, Option.bind_some, Option.map_some, List.append_nil, List.reverse_append]
        congr 2
        match a, hl with
        | [], _ => rfl
        | [x], _ => rfl
theorem flat_ne {gs : List (List Nt)} (h : ∀ g ∈ gs, good g) (hn : gs ≠ []) : gs.flatten ≠ [] := by
  cases gs with
  | nil => exact absurd rfl hn
  | cons g gs =>
    obtain ⟨k, r, rfl, _⟩ := h g (by simp)
    simp
theorem told_flat {gs : List (List Nt)} (h : ∀ g ∈ gs, good g) (hn : gs ≠ []) : told gs.flatten = NN gs := by
  unfold told
  rw [if_neg (flat_ne h hn), noted_flat h]
theorem told_cut {gs : List (List Nt)} {xs : List String} (h : ∀ g ∈ gs, good g) (e : told gs.flatten = some xs) {k : Nat} (h1 : 1 ≤ k) (h2 : k < gs.length) : ∃ a b, told (gs.take k).flatten = some a ∧ told (gs.drop k).flatten = some b ∧ a ++ b = xs := by
  have hn : gs ≠ [] := by rintro rfl; simp at h2
  rw [told_flat h hn] at e
  have ht : gs.take k ≠ [] := fun q => by have := congrArg List.length q; simp at this; rcases this with z | z; (· omega); (· exact hn z)
  have hd : gs.drop k ≠ [] := fun q => by have := congrArg List.length q; simp at this; omega
  rw [told_flat (fun g hg => h g (List.mem_of_mem_take hg)) ht, told_flat (fun g hg => h g (List.mem_of_mem_drop hg)) hd]
  rw [← List.take_append_drop k gs, NN_app] at e
  cases ha : NN (gs.take k) with
  | none => rw [ha] at e; cases e
  | some a =>
    cases hb : NN (gs.drop k) with
    | none => rw [ha, hb] at e; cases e
    | some b => rw [ha, hb] at e; cases e; exact ⟨a, b, rfl, rfl, rfl⟩
theorem told_rev {gs : List (List Nt)} {xs : List String} (h : ∀ g ∈ gs, good g) (e : told gs.flatten = some xs) : told gs.reverse.flatten = some xs.reverse := by
  have hn : gs ≠ [] := by rintro rfl; cases e
  rw [told_flat h hn] at e
  rw [told_flat (fun g hg => h g (by simpa using hg)) (by simpa using hn), NN_rev e]
theorem told_two {gs : List (List Nt)} {xs : List String} (h : ∀ g ∈ gs, good g) (e : told gs.flatten = some xs) : told (gs.flatten ++ gs.flatten) = some (xs ++ xs) := by
  have hn : gs ≠ [] := by rintro rfl; cases e
  rw [told_flat h hn] at e
  rw [← List.flatten_append, told_flat (fun g hg => by rcases List.mem_append.mp hg with z | z <;> exact h g z) (by simpa using hn), NN_app, e]
  rfl
theorem told_starts {ns : List Nt} {xs : List String} (e : told ns = some xs) : startsKey ns = true := by
  unfold told at e
  match ns with
  | [] => rfl
  | [k] =>
    rw [if_neg (by simp)] at e
    simp only [noted] at e
    cases hk : k.isKey with
    | true => exact hk
    | false => rw [hk] at e; cases e
  | k :: w :: r =>
    rw [if_neg (by simp)] at e
    simp only [noted] at e
    cases hk : k.isKey with
    | true => exact hk
    | false => rw [hk] at e; cases e
end MP
namespace MP

structure LI (H : Hp) (f : Nat) (gl : List (Nat × List Nt)) : Prop where
  hf : H[f]? = some (.list (gl.map fun p => .ref p.1))
  gs : ∀ p ∈ gl, H[p.1]? = some (.list (p.2.map Nt.v)) ∧ f < p.1
  nd : (gl.map (·.1)).Nodup
theorem lots_key {m : Fm} {H : Hp} {f : Nat} {gl : List (Nat × List Nt)} {x : Nt} (X : LI H f gl) (hx : x.isKey = true) (m1 : m.lookup (Str.ofString "found") = some (.ref f)) (m2 : m.lookup (Str.ofString "item") = some x.v) (hl : gl.length ≤ 10000) :
    ∃ H', f_law_lots_b1 m H = .ok .next m H' ∧ LI H' f (gl ++ [(H.length, [x])]) ∧ ∀ i, i < f → H'[i]? = H[i]? := by
  obtain ⟨hf, gs, nd⟩ := X
  have hlt := lt_of_get hf
  have g1 : (H ++ [AObj.list []])[f]? = some (.list (gl.map fun p => .ref p.1)) := get_app hf
  have g2 : ((H ++ [AObj.list []]).set f (.list ((gl.map fun p => V.ref p.1) ++ [.ref H.length])))[f]? = some (.list ((gl.map fun p => V.ref p.1) ++ [.ref H.length])) := get_set_eq g1
  have g3 : ((H ++ [AObj.list []]).set f (.list ((gl.map fun p => V.ref p.1) ++ [.ref H.length])))[H.length]? = some (.list []) := get_set_ne (Nat.ne_of_gt hlt) (get_app_at _ _ _)
  have hll : (gl.map fun p => V.ref p.1).length < 1000000 := by rw [List.length_map]; exact Nat.lt_of_le_of_lt hl (by decide)
  have e1 := oItem_last g2 hll
  have n1 := newL_ok (xs := []) (H := H) (Nat.zero_le _)
  have k1 := x.kd_key
  rw [hx] at k1
  rw [Nt.v_eq] at m2
  have k2 : x.kd = "key" := beq_iff_eq.mp k1
  rw [k2] at m2
  refine ⟨((H ++ [AObj.list []]).set f (.list ((gl.map fun p => V.ref p.1) ++ [.ref H.length]))).set H.length (.list [x.v]), ?_, ⟨?_, fun p hp => ?_, ?_⟩, fun i hi => ?_⟩
  · have q1 := b_append (v := .ref H.length) g1 hll
    have q2 : _ = Out.ok V.none (((H ++ [AObj.list []]).set f (.list ((gl.map fun p => V.ref p.1) ++ [.ref H.length]))).set H.length (.list [.tup [.str (Str.ofString "key"), x.pay]])) := b_append (v := .tup [.str (Str.ofString "key"), x.pay]) g3 (by decide)
    rw [Nt.v_eq, k2]
    clear gs nd hlt hl
    delta f_law_lots_b1
    ((repeat' with_reducible (first | exact s_set | exact e_nil | exact e_c | exact s_skip | apply e_cons | apply e_var | apply e_call | apply e_sub | apply e_bin | apply e_list | apply e_tup | (apply s_seq_exc; apply r_exc) | apply s_seqK | apply s_asg | apply s_if | apply s_ret | apply s_expr | apply t_ok | apply e_meth | apply e_or | apply e_and | apply e_ite | apply e_not | apply e_slice | apply e_neg | apply s_for | apply i_rng | apply i_range | apply i_range2 | exact s_swap2 | exact k_cont | exact k_ret | exact n_none | exact n_ref | exact n_tup | apply c_t | apply c_f | apply c_nt | apply c_nf | apply k_next | assumption | exact it0 | exact it1 | exact ne_f | (apply ne_t; first | assumption | kernel_rfl) | exact eq_t | exact eqi_t | (apply eq_f; first | assumption | kernel_rfl) | (apply eqi_f; first | assumption | kernel_rfl) | (apply lt_t; first | assumption | decide) | (apply lt_f; first | assumption | decide) | (apply le_t; first | assumption | decide) | (apply le_f; first | assumption | decide) | exact oAdd_ii | exact oSub_ii | apply b_append | exact isL_list | exact l_hit | (apply l_miss; kernel_rfl) | exact fFor_n trivial | rfl | (show Nat.ble _ _ = true; kernel_rfl))))
  · rw [List.map_append]
    exact get_set_ne (by omega) g2
  · rcases List.mem_append.mp hp with hp | hp
    · obtain ⟨a, b⟩ := gs p hp
      have := lt_of_get a
      exact ⟨get_set_ne (by omega) (get_set_ne (by omega) (get_app a)), b⟩
    · rw [List.mem_singleton.mp hp]
      exact ⟨get_set_eq g3, hlt⟩
  · rw [List.map_append, List.nodup_append]
    refine ⟨nd, by simp, ?_⟩
    intro a ha b hb
    simp only [List.map_cons, List.map_nil, List.mem_singleton] at hb
    obtain ⟨p, hp, rfl⟩ := List.mem_map.mp ha
    have := lt_of_get (gs p hp).1
    omega
  · rw [List.getElem?_set_ne (by omega), List.getElem?_set_ne (by omega), List.getElem?_append_left (by omega)]
theorem lots_oth {m : Fm} {H : Hp} {f q : Nat} {gl : List (Nat × List Nt)} {g : List Nt} {x : Nt} (X : LI H f (gl ++ [(q, g)])) (hx : x.isKey = false) (m1 : m.lookup (Str.ofString "found") = some (.ref f)) (m2 : m.lookup (Str.ofString "item") = some x.v) (hl : gl.length ≤ 10000) (hg : g.length ≤ 10000) :
    ∃ H', f_law_lots_b1 m H = .ok .next m H' ∧ LI H' f (gl ++ [(q, g ++ [x])]) ∧ ∀ i, i < f → H'[i]? = H[i]? := by
  obtain ⟨hf, gs, nd⟩ := X
  have hlt := lt_of_get hf
  obtain ⟨hq, hfq⟩ := gs (q, g) (by simp)
  simp only at hq hfq
  rw [List.map_append] at hf
  have e1 := oItem_last hf (by rw [List.length_map]; exact Nat.lt_of_le_of_lt hl (by decide))
  have k1 := x.kd_key
  rw [hx] at k1
  rw [Nt.v_eq] at m2
  have q2 := b_append (v := x.v) hq (by rw [List.length_map]; exact Nat.lt_of_le_of_lt hg (by decide))
  rw [Nt.v_eq] at q2
  refine ⟨H.set q (.list (g.map Nt.v ++ [x.v])), ?_, ⟨?_, fun p hp => ?_, ?_⟩, fun i hi => ?_⟩
  · rw [Nt.v_eq]
    clear gs nd hlt hl hfq
    delta f_law_lots_b1
    ((repeat' with_reducible (first | exact s_set | exact e_nil | exact e_c | exact s_skip | apply e_cons | apply e_var | apply e_call | apply e_sub | apply e_bin | apply e_list | apply e_tup | (apply s_seq_exc; apply r_exc) | apply s_seqK | apply s_asg | apply s_if | apply s_ret | apply s_expr | apply t_ok | apply e_meth | apply e_or | apply e_and | apply e_ite | apply e_not | apply e_slice | apply e_neg | apply s_for | apply i_rng | apply i_range | apply i_range2 | exact s_swap2 | exact k_cont | exact k_ret | exact n_none | exact n_ref | exact n_tup | apply c_t | apply c_f | apply c_nt | apply c_nf | apply k_next | assumption | exact it0 | exact it1 | exact ne_f | (apply ne_t; first | assumption | kernel_rfl) | exact eq_t | exact eqi_t | (apply eq_f; first | assumption | kernel_rfl) | (apply eqi_f; first | assumption | kernel_rfl) | (apply lt_t; first | assumption | decide) | (apply lt_f; first | assumption | decide) | (apply le_t; first | assumption | decide) | (apply le_f; first | assumption | decide) | exact oAdd_ii | exact oSub_ii | apply b_append | exact isL_list | exact l_hit | (apply l_miss; kernel_rfl) | exact fFor_n trivial | rfl | (show Nat.ble _ _ = true; kernel_rfl))))
  · rw [List.map_append]
    exact get_set_ne (by omega) hf
  · rcases List.mem_append.mp hp with hp | hp
    · obtain ⟨a, b⟩ := gs p (List.mem_append_left _ hp)
      rw [List.map_append, List.nodup_append] at nd
      have hne := nd.2.2 p.1 (List.mem_map.mpr ⟨p, hp, rfl⟩) q (by simp)
      exact ⟨get_set_ne hne a, b⟩
    · rw [List.mem_singleton.mp hp]
      refine ⟨?_, hfq⟩
      have := get_set_eq (o' := .list (g.map Nt.v ++ [x.v])) hq
      simpa using this
  · simpa using nd
  · rw [List.getElem?_set_ne (by omega)]
theorem good_snoc {g : List Nt} {x : Nt} (h : good g) (hx : x.isKey = false) : good (g ++ [x]) := by
  obtain ⟨k, r, rfl, hk, hr⟩ := h
  exact ⟨k, r ++ [x], rfl, hk, fun y hy => by rcases List.mem_append.mp hy with z | z; (· exact hr y z); (· rw [List.mem_singleton.mp z]; exact hx)⟩
noncomputable def LR (j f : Nat) (al : List V) (r : List Nt) (m : Fm) (H : Hp) (gl : List (Nat × List Nt)) : Prop :=
    ∃ m' H' gl', fFor (fun H => H[j]? = some (.list al)) (fSet (Str.ofString "item")) f_law_lots_b1 (r.map Nt.v) m H = .ok .next m' H' ∧ LI H' f gl' ∧ (∀ p ∈ gl', good p.2) ∧ (gl'.map (·.2)).flatten = (gl.map (·.2)).flatten ++ r ∧ (∀ i, i < f → H'[i]? = H[i]?) ∧ m'.lookup (Str.ofString "found") = some (.ref f)
theorem lots_loop {j f : Nat} {al : List V} (hjf : j < f) (r : List Nt) : ∀ (m : Fm) (H : Hp) (gl : List (Nat × List Nt)), H[j]? = some (.list al) → LI H f gl → m.lookup (Str.ofString "found") = some (.ref f) → (gl = [] → startsKey r = true) → (∀ p ∈ gl, good p.2 ∧ p.2.length + r.length ≤ 5000) → gl.length + r.length ≤ 5000 → LR j f al r m H gl := by
  induction r with
  | nil => exact fun m H gl hj X m1 _ hg _ => ⟨m, H, gl, fFor_n (G := fun H => H[j]? = some (.list al)) hj, X, fun p hp => (hg p hp).1, (List.append_nil _).symm, fun _ _ => rfl, m1⟩
  | cons x r ih =>
    intro m H gl hj X m1 hs hg hl
    have l1 : ((Str.ofString "item", x.v) :: m).lookup (Str.ofString "found") = some (.ref f) := (l_skip (by decide)).trans m1
    have hl' : gl.length + 1 + r.length ≤ 5000 := Nat.le_trans (Nat.le_of_eq (by rw [Nat.add_assoc, Nat.add_comm 1]; rfl)) hl
    have hg' : ∀ p ∈ gl, good p.2 ∧ p.2.length + 1 + r.length ≤ 5000 := fun p hp => ⟨(hg p hp).1, Nat.le_trans (Nat.le_of_eq (by rw [Nat.add_assoc, Nat.add_comm 1]; rfl)) (hg p hp).2⟩
    have hgl : gl.length ≤ 10000 := Nat.le_trans (Nat.le_add_right _ _) (Nat.le_trans hl (by decide))
    have fin : ∀ {H1 : Hp} {gl1 : List (Nat × List Nt)}, f_law_lots_b1 ((Str.ofString "item", x.v) :: m) H = .ok .next ((Str.ofString "item", x.v) :: m) H1 → LI H1 f gl1 → (∀ i, i < f → H1[i]? = H[i]?) → gl1 ≠ [] → (∀ p ∈ gl1, good p.2 ∧ p.2.length + r.length ≤ 5000) → gl1.length + r.length ≤ 5000 → (gl1.map (·.2)).flatten = (gl.map (·.2)).flatten ++ [x] → LR j f al (x :: r) m H gl := by
      intro H1 gl1 e X1 k1 hn hg1 hl1 hf1
      obtain ⟨m', H', gl', e', X', hg', hf', k', lk⟩ := ih ((Str.ofString "item", x.v) :: m) H1 gl1 ((k1 j hjf).trans hj) X1 l1 (fun z => absurd z hn) hg1 hl1
      exact ⟨m', H', gl', (f_next (G := fun H => H[j]? = some (.list al)) hj s_set e).trans e', X', hg', by rw [hf', hf1, List.append_assoc]; rfl, fun i hi => (k' i hi).trans (k1 i hi), lk⟩
    cases hx : x.isKey with
    | true =>
      obtain ⟨H1, e, X1, k1⟩ := lots_key X hx l1 l_hit hgl
      refine fin e X1 k1 (fun z => List.cons_ne_nil _ _ (List.append_eq_nil_iff.mp z).2) (fun p hp => ?_) (by rw [List.length_append]; exact hl') (by rw [List.map_append, List.flatten_append]; rfl)
      rcases List.mem_append.mp hp with hp | hp
      · exact ⟨(hg p hp).1, Nat.le_trans (Nat.add_le_add_right (Nat.le_succ _) _) (hg' p hp).2⟩
      · rw [List.mem_singleton.mp hp]
        exact ⟨⟨x, [], rfl, hx, fun _ z => by cases z⟩, Nat.le_trans (Nat.add_le_add_right (Nat.le_add_left 1 _) _) hl'⟩
    | false =>
      rcases List.eq_nil_or_concat gl with hz | ⟨gl0, ⟨q, g⟩, hz⟩
      · have this : x.isKey = true := hs hz
        rw [hx] at this; cases this
      · rw [List.concat_eq_append] at hz
        subst hz
        have hgq := hg' (q, g) (List.mem_append_right _ (List.mem_singleton.mpr rfl))
        rw [List.length_append] at hl' hgl
        obtain ⟨H1, e, X1, k1⟩ := lots_oth X hx l1 l_hit (Nat.le_trans (Nat.le_add_right _ _) hgl) (Nat.le_trans (Nat.le_add_right _ 1) (Nat.le_trans (Nat.le_add_right _ _) (Nat.le_trans hgq.2 (by decide))))
        refine fin e X1 k1 (fun z => List.cons_ne_nil _ _ (List.append_eq_nil_iff.mp z).2) (fun p hp => ?_) (by rw [List.length_append]; exact Nat.le_trans (Nat.add_le_add_right (Nat.le_succ _) _) hl') (by rw [List.map_append, List.map_append, List.flatten_append, List.flatten_append, List.append_assoc]; congr 1; simp)
        rcases List.mem_append.mp hp with hp | hp
        · have := hg' p (List.mem_append_left _ hp)
          exact ⟨this.1, Nat.le_trans (Nat.add_le_add_right (Nat.le_succ _) _) this.2⟩
        · rw [List.mem_singleton.mp hp]
          exact ⟨good_snoc hgq.1 hx, by rw [List.length_append]; exact hgq.2⟩
theorem lots_ok {H : Hp} {j : Nat} {ns : List Nt} (hj : H[j]? = some (.list (ns.map Nt.v))) (hl : ns.length ≤ 900) (hs : startsKey ns = true) :
    ∃ H' gl, F_law_lots [.ref j] H = .ok (.ref H.length) H' ∧ Ext H H' ∧ LI H' H.length gl ∧ (∀ p ∈ gl, good p.2) ∧ (gl.map (·.2)).flatten = ns := by
  obtain ⟨H1, a1, x1, g1⟩ := newL_ex (xs := []) H (Nat.zero_le _)
  have hj1 := x1.get hj
  have X : LI H1 H.length [] := ⟨g1, (fun p hp => by cases hp), List.nodup_nil⟩
  obtain ⟨m', H', gl, e, X', hg, hf, k, lk⟩ := lots_loop (lt_of_get hj) ns [(Str.ofString "found", .ref H.length), (Str.ofString "notes", .ref j)] H1 [] hj1 X l_hit (fun _ => hs) (fun p hp => by cases hp) (Nat.le_trans (Nat.le_of_eq (Nat.zero_add _)) (Nat.le_trans hl (by decide)))
  refine ⟨H', gl, ?_, Ext.of_get fun i hi => (k i hi).trans ?_, X', hg, hf⟩
  · refine d_ret [(Str.ofString "notes", .ref j)] ⟨rfl, rfl⟩ (s_seqK (s_asg (e_list e_nil a1) s_set) (k_next (s_seqK (s_for (i_list (e_var ?_) hj1) e) (k_next (s_seqK (s_ret (e_var lk)) k_ret)))))
    ((repeat' with_reducible (first | exact s_set | exact e_nil | exact e_c | exact s_skip | apply e_cons | apply e_var | apply e_call | apply e_sub | apply e_bin | apply e_list | apply e_tup | (apply s_seq_exc; apply r_exc) | apply s_seqK | apply s_asg | apply s_if | apply s_ret | apply s_expr | apply t_ok | apply e_meth | apply e_or | apply e_and | apply e_ite | apply e_not | apply e_slice | apply e_neg | apply s_for | apply i_rng | apply i_range | apply i_range2 | exact s_swap2 | exact k_cont | exact k_ret | exact n_none | exact n_ref | exact n_tup | apply c_t | apply c_f | apply c_nt | apply c_nf | apply k_next | assumption | exact it0 | exact it1 | exact ne_f | (apply ne_t; first | assumption | kernel_rfl) | exact eq_t | exact eqi_t | (apply eq_f; first | assumption | kernel_rfl) | (apply eqi_f; first | assumption | kernel_rfl) | (apply lt_t; first | assumption | decide) | (apply lt_f; first | assumption | decide) | (apply le_t; first | assumption | decide) | (apply le_f; first | assumption | decide) | exact oAdd_ii | exact oSub_ii | apply b_append | exact isL_list | exact l_hit | (apply l_miss; kernel_rfl) | exact fFor_n trivial | rfl | (show Nat.ble _ _ = true; kernel_rfl))))
  · obtain ⟨t, rfl⟩ := x1
    rw [List.getElem?_append_left hi]
end MP
namespace MP

theorem clip_eq {n : Nat} {k : Int} (h0 : 0 ≤ k) (h1 : k ≤ n) : clipAt n k = k.toNat := by
  unfold clipAt
  rw [if_neg (Int.not_lt.mpr h0), Int.min_eq_left h1, Int.max_eq_right h0]
theorem clip_hi {n : Nat} {k : Int} (h0 : 0 ≤ k) (h1 : (n : Int) ≤ k) : clipAt n k = n := by
  unfold clipAt
  rw [if_neg (Int.not_lt.mpr h0), Int.min_eq_right h1, Int.max_eq_right (Int.natCast_nonneg n), Int.toNat_natCast]
theorem cut_take {xs : List V} {k : Int} (h0 : 0 ≤ k) (h1 : k ≤ xs.length) : cut xs none (some k) = xs.take k.toNat := by
  show (xs.drop 0).take (clipAt xs.length k - 0) = _
  rw [List.drop_zero, Nat.sub_zero, clip_eq h0 h1]
theorem cut_drop {xs : List V} {k : Int} (h0 : 0 ≤ k) (h1 : k ≤ xs.length) : cut xs (some k) none = xs.drop k.toNat := by
  show (xs.drop (clipAt xs.length k)).take (xs.length - clipAt xs.length k) = _
  rw [clip_eq h0 h1, List.take_of_length_le (Nat.le_of_eq List.length_drop)]
theorem eqvAll_refl : ∀ xs : List String, PyData.eqvAll (xs.map fun x => .str (Str.ofString x)) (xs.map fun x => .str (Str.ofString x)) = true
  | [] => rfl
  | x :: r => by simp [PyData.eqvAll, PyData.eqv, eqvAll_refl r]
theorem toDs_svs {H : Hp} {n : Nat} : ∀ xs : List String, toDs (toD H n) (svs xs) = some (xs.map fun x => .str (Str.ofString x))
  | [] => rfl
  | x :: r => by
    have := toDs_svs (H := H) (n := n) r
    simp only [svs, List.map_cons, toDs] at this ⊢
    rw [toD_str (strOk_ofS x), this]
theorem oNe_opt {H : Hp} {v w : V} {o : Option (List String)} (h1 : IsOpt H v o) (h2 : IsOpt H w o) : oNe v w H = .ok (.bool false) H := by
  cases o with
  | none =>
    cases h1; cases h2
    unfold oNe; rw [toD_none]; rfl
  | some xs =>
    obtain ⟨q, rfl, a⟩ := h1
    obtain ⟨q', rfl, b⟩ := h2
    unfold oNe
    rw [toD_list a, toD_list b, toDs_svs]
    simp only [Option.map_some, PyData.eqv, eqvAll_refl, Bool.not_true]
theorem told_opt {H : Hp} {rd i j : Nat} {hd : List V} {ns : List Nt} (R : Rdr H rd) (hi : H[i]? = some (.list hd)) (hj : H[j]? = some (.list (ns.map Nt.v))) (h2 : hd.length = 2) (hl : ns.length ≤ 900) :
    ∃ r H', F_law_told [.ref rd, .ref i, .ref j] H = .ok r H' ∧ Ext H H' ∧ IsOpt H' r (told ns) := by
  have := told_ok R hi hj h2 hl
  cases ht : told ns with
  | none => rw [ht] at this; obtain ⟨H', e, x⟩ := this; exact ⟨_, H', e, x, rfl⟩
  | some xs => rw [ht] at this; obtain ⟨H', q, e, x, g⟩ := this; exact ⟨_, H', e, x, q, rfl, g⟩
theorem told_short {H : Hp} {rd i j : Nat} {a : V} (R : Rdr H rd) (hi : H[i]? = some (.list [a])) (hj : H[j]? = some (.list [])) : ∃ H', F_law_told [.ref rd, .ref i, .ref j] H = .ok .none H' ∧ Ext H H' := by
  obtain ⟨fs, h1, hf⟩ := R.ex
  have hI : isI 846 (Str.ofString "names_noted") (.inst 846 fs) = true := by unfold isI; dsimp only; rw [hf]; rfl
  obtain ⟨H1, a1, x1, g1⟩ := add_ex hi hj (Nat.le_of_ble_eq_true rfl)
  have e1 : bLen [.ref H.length] H1 = .ok (.int 1) H1 := bLen_list g1 (Nat.le_of_ble_eq_true rfl)
  have n1 : F_CoreElaborator_names_noted [.ref rd, .ref H.length] H1 = .exc H1 := by
    clear R hi hj h1 hf hI x1 g1
    delta F_CoreElaborator_names_noted f_CoreElaborator_names_noted
    apply d_exc [(Str.ofString "self", .ref rd), (Str.ofString "parts", .ref H.length)] ⟨rfl, rfl⟩
    refine' s_seq_exc (s_if (b := true) (H1 := H1) ?_ (c_t (s_seq_exc (r_exc e_c))))
    ((repeat' with_reducible (first | exact s_set | exact e_nil | exact e_c | exact s_skip | apply e_cons | apply e_var | apply e_call | apply e_sub | apply e_bin | apply e_list | apply e_tup | (apply s_seq_exc; apply r_exc) | apply s_seqK | apply s_asg | apply s_if | apply s_ret | apply s_expr | apply t_ok | apply e_meth | apply e_or | apply e_and | apply e_ite | apply e_not | apply e_slice | apply e_neg | apply s_for | apply i_rng | apply i_range | apply i_range2 | exact s_swap2 | exact k_cont | exact k_ret | exact n_none | exact n_ref | exact n_tup | apply c_t | apply c_f | apply c_nt | apply c_nf | apply k_next | assumption | exact it0 | exact it1 | exact ne_f | (apply ne_t; first | assumption | kernel_rfl) | exact eq_t | exact eqi_t | (apply eq_f; first | assumption | kernel_rfl) | (apply eqi_f; first | assumption | kernel_rfl) | (apply lt_t; first | assumption | decide) | (apply lt_f; first | assumption | decide) | (apply le_t; first | assumption | decide) | (apply le_f; first | assumption | decide) | exact oAdd_ii | exact oSub_ii | apply b_append | exact isL_list | exact l_hit | (apply l_miss; kernel_rfl) | exact fFor_n trivial | rfl | (show Nat.ble _ _ = true; kernel_rfl))))
  refine ⟨H1, ?_, x1⟩
  clear hi hj R x1 g1 e1
  delta F_law_told f_law_told
  apply d_ret [(Str.ofString "reader", .ref rd), (Str.ofString "head", .ref i), (Str.ofString "notes", .ref j)] ⟨rfl, rfl⟩
  refine s_seqK (t_exc (s_seq_exc (s_ret_exc (call_exc (fo := fVar (Str.ofString "reader")) ?_ h1 hI ?_ n1))) e_c) k_ret
  · ((repeat' with_reducible (first | exact s_set | exact e_nil | exact e_c | exact s_skip | apply e_cons | apply e_var | apply e_call | apply e_sub | apply e_bin | apply e_list | apply e_tup | (apply s_seq_exc; apply r_exc) | apply s_seqK | apply s_asg | apply s_if | apply s_ret | apply s_expr | apply t_ok | apply e_meth | apply e_or | apply e_and | apply e_ite | apply e_not | apply e_slice | apply e_neg | apply s_for | apply i_rng | apply i_range | apply i_range2 | exact s_swap2 | exact k_cont | exact k_ret | exact n_none | exact n_ref | exact n_tup | apply c_t | apply c_f | apply c_nt | apply c_nf | apply k_next | assumption | exact it0 | exact it1 | exact ne_f | (apply ne_t; first | assumption | kernel_rfl) | exact eq_t | exact eqi_t | (apply eq_f; first | assumption | kernel_rfl) | (apply eqi_f; first | assumption | kernel_rfl) | (apply lt_t; first | assumption | decide) | (apply lt_f; first | assumption | decide) | (apply le_t; first | assumption | decide) | (apply le_f; first | assumption | decide) | exact oAdd_ii | exact oSub_ii | apply b_append | exact isL_list | exact l_hit | (apply l_miss; kernel_rfl) | exact fFor_n trivial | rfl | (show Nat.ble _ _ = true; kernel_rfl))))
  · ((repeat' with_reducible (first | exact s_set | exact e_nil | exact e_c | exact s_skip | apply e_cons | apply e_var | apply e_call | apply e_sub | apply e_bin | apply e_list | apply e_tup | (apply s_seq_exc; apply r_exc) | apply s_seqK | apply s_asg | apply s_if | apply s_ret | apply s_expr | apply t_ok | apply e_meth | apply e_or | apply e_and | apply e_ite | apply e_not | apply e_slice | apply e_neg | apply s_for | apply i_rng | apply i_range | apply i_range2 | exact s_swap2 | exact k_cont | exact k_ret | exact n_none | exact n_ref | exact n_tup | apply c_t | apply c_f | apply c_nt | apply c_nf | apply k_next | assumption | exact it0 | exact it1 | exact ne_f | (apply ne_t; first | assumption | kernel_rfl) | exact eq_t | exact eqi_t | (apply eq_f; first | assumption | kernel_rfl) | (apply eqi_f; first | assumption | kernel_rfl) | (apply lt_t; first | assumption | decide) | (apply lt_f; first | assumption | decide) | (apply le_t; first | assumption | decide) | (apply le_f; first | assumption | decide) | exact oAdd_ii | exact oSub_ii | apply b_append | exact isL_list | exact l_hit | (apply l_miss; kernel_rfl) | exact fFor_n trivial | rfl | (show Nat.ble _ _ = true; kernel_rfl))))
/-- the sum of lists -/
theorem sum_loop' {i k L : Nat} {al : List V} (h1 : i < L) (h2 : L ≤ k) (r : List (Nat × List Nt)) : ∀ (u : Nat) (H : Hp) (acc : List Nt), H[i]? = some (.list al) → (∀ p ∈ r, H[p.1]? = some (.list (p.2.map Nt.v)) ∧ p.1 < L) → H[u]? = some (.list (acc.map Nt.v)) → H[k]? = some (.list [.ref u]) → acc.length + (r.map (·.2)).flatten.length ≤ 100000 →
    ∃ u' H', sumL (fun H => H[i]? = some (.list al)) k (r.map fun p => .ref p.1) (.ref u) H = .ok (.ref u') H' ∧ H'[u']? = some (.list ((acc ++ (r.map (·.2)).flatten).map Nt.v)) ∧ ∀ x, x < L → H'[x]? = H[x]? := by
  induction r with
  | nil => exact fun u H acc hi _ hu _ _ => ⟨u, H, if_pos hi, by rw [List.map_nil, List.flatten_nil, List.append_nil]; exact hu, fun _ _ => rfl⟩
  | cons p r ih =>
    obtain ⟨q, g⟩ := p
    intro u H acc hi hp hu hk hl
    obtain ⟨hq, hqL⟩ := hp (q, g) (List.mem_cons_self ..)
    have hl : acc.length + (g ++ (r.map (·.2)).flatten).length ≤ 100000 := hl
    rw [List.length_append, ← Nat.add_assoc] at hl
    have ha : oAdd (.ref u) (.ref q) H = .ok (.ref H.length) (H ++ [.list ((acc ++ g).map Nt.v)]) := by
      unfold oAdd
      dsimp only
      rw [hu, hq, List.map_append]
      exact newL_ok (by rw [← List.map_append, List.length_map, List.length_append]; exact Nat.le_trans (Nat.le_add_right _ _) (Nat.le_trans hl (by decide)))
    have hkl := lt_of_get hk
    have k1 : (H ++ [AObj.list ((acc ++ g).map Nt.v)])[k]? = some (.list [.ref u]) := get_app hk
    have pre : ∀ x, x < L → ((H ++ [AObj.list ((acc ++ g).map Nt.v)]).set k (.list [.ref H.length]))[x]? = H[x]? := fun x hx => by
      rw [List.getElem?_set_ne (Nat.ne_of_gt (Nat.lt_of_lt_of_le hx h2)), List.getElem?_append_left (Nat.lt_trans (Nat.lt_of_lt_of_le hx h2) hkl)]
    obtain ⟨u', H', e, g1, p1⟩ := ih H.length ((H ++ [AObj.list ((acc ++ g).map Nt.v)]).set k (.list [.ref H.length])) (acc ++ g) ((pre i h1).trans hi)
      (fun p hp' => ⟨(pre _ (hp p (List.mem_cons_of_mem _ hp')).2).trans (hp p (List.mem_cons_of_mem _ hp')).1, (hp p (List.mem_cons_of_mem _ hp')).2⟩) (get_set_ne (Nat.ne_of_gt hkl) (get_app_at _ _ _)) (get_set_eq k1) (by rw [List.length_append]; exact hl)
    refine ⟨u', H', ?_, by rw [g1, List.append_assoc]; rfl, fun x hx => (p1 x hx).trans (pre x hx)⟩
    rw [List.map_cons, sumL, if_pos hi, ha, o_ok, k1]
    exact e
theorem sum_ok {H : Hp} {i j : Nat} {gl : List (Nat × List Nt)} (hi : H[i]? = some (.list (gl.map fun p => .ref p.1))) (hj : H[j]? = some (.list [])) (hp : ∀ p ∈ gl, H[p.1]? = some (.list (p.2.map Nt.v))) (hl : (gl.map (·.2)).flatten.length ≤ 10000) :
    ∃ q H', bSum [.ref i, .ref j] H = .ok (.ref q) H' ∧ Ext H H' ∧ H'[q]? = some (.list ((gl.map (·.2)).flatten.map Nt.v)) := by
  obtain ⟨q, H', e, g, p⟩ := sum_loop' (i := i) (k := H.length) (L := H.length) (al := gl.map fun p => .ref p.1) (lt_of_get hi) (Nat.le_refl _) gl j (H ++ [.list [.ref j]]) [] (get_app hi) (fun p hp' => ⟨get_app (hp p hp'), lt_of_get (hp p hp')⟩) (get_app hj) (get_app_at _ _ _) (Nat.le_trans (Nat.le_of_eq (Nat.zero_add _)) (Nat.le_trans hl (by decide)))
  refine ⟨q, H', ?_, Ext.of_get fun x hx => (p x hx).trans (List.getElem?_append_left hx), g⟩
  unfold bSum
  dsimp only
  rw [hi, hj]
  exact e
end MP
namespace MP

theorem slice_of {H : Hp} {f : Nat} {xs ys : List V} {a b c : V} (h : H[f]? = some (.list xs)) (hl : xs.length ≤ 1000000) (hy : ys.length ≤ 1000000) (e : oCut (.ref f) a b c H = newL ys H) :
    ∃ H1, smallL (.ref f) H = true ∧ oCut (.ref f) a b c H = .ok (.ref H.length) H1 ∧ Ext H H1 ∧ H1[H.length]? = some (.list ys) := by
  obtain ⟨H1, q, x, g⟩ := newL_ex (xs := ys) H hy
  exact ⟨H1, by unfold smallL; dsimp only; rw [h]; exact decide_eq_true hl, e.trans q, x, g⟩
theorem slice_hi {H : Hp} {f : Nat} {xs : List V} {k : Int} (h : H[f]? = some (.list xs)) (hl : xs.length ≤ 1000000) (h0 : 0 ≤ k) (h1 : k ≤ xs.length) :
    ∃ H1, smallL (.ref f) H = true ∧ oCut (.ref f) .none (.int k) .none H = .ok (.ref H.length) H1 ∧ Ext H H1 ∧ H1[H.length]? = some (.list (xs.take k.toNat)) :=
  slice_of h hl (Nat.le_trans (List.length_take_le' ..) hl) (by unfold oCut; dsimp only [part]; rw [h]; dsimp only; rw [cut_take h0 h1])
theorem slice_lo {H : Hp} {f : Nat} {xs : List V} {k : Int} (h : H[f]? = some (.list xs)) (hl : xs.length ≤ 1000000) (h0 : 0 ≤ k) (h1 : k ≤ xs.length) :
    ∃ H1, smallL (.ref f) H = true ∧ oCut (.ref f) (.int k) .none .none H = .ok (.ref H.length) H1 ∧ Ext H H1 ∧ H1[H.length]? = some (.list (xs.drop k.toNat)) :=
  slice_of h hl (by rw [List.length_drop]; exact Nat.le_trans (Nat.sub_le ..) hl) (by unfold oCut; dsimp only [part]; rw [h]; dsimp only; rw [cut_drop h0 h1])
theorem slice_rev {H : Hp} {f : Nat} {xs : List V} (h : H[f]? = some (.list xs)) (hl : xs.length ≤ 1000000) :
    ∃ H1, smallL (.ref f) H = true ∧ oCut (.ref f) .none .none (.int (-1)) H = .ok (.ref H.length) H1 ∧ Ext H H1 ∧ H1[H.length]? = some (.list xs.reverse) :=
  slice_of h hl (by rw [List.length_reverse]; exact hl) (by unfold oCut; dsimp only [part]; rw [h]; rfl)
theorem LI.ext {H H' f gl} (x : LI H f gl) (e : Ext H H') : LI H' f gl := ⟨e.get x.hf, fun p hp => ⟨e.get (x.gs p hp).1, (x.gs p hp).2⟩, x.nd⟩
theorem sub_flat (gl : List (Nat × List Nt)) (k : Nat) : ((gl.take k).map (·.2)).flatten.length ≤ (gl.map (·.2)).flatten.length ∧ ((gl.drop k).map (·.2)).flatten.length ≤ (gl.map (·.2)).flatten.length := by
  have e : ((gl.take k).map (·.2)).flatten.length + ((gl.drop k).map (·.2)).flatten.length = (gl.map (·.2)).flatten.length := by
    rw [← List.length_append, ← List.flatten_append, ← List.map_append, List.take_append_drop]
  rw [← e]
  exact ⟨Nat.le_add_right _ _, Nat.le_add_left _ _⟩
theorem at_body {m : Fm} {H : Hp} {rd i f : Nat} {hd : List V} {gl : List (Nat × List Nt)} {dv : V} {xs : List String} {k : Int} (R : Rdr H rd) (hi : H[i]? = some (.list hd)) (h2 : hd.length = 2) (X : LI H f gl) (hg : ∀ p ∈ gl, good p.2)
    (ht : told (gl.map (·.2)).flatten = some xs) (D : IsOpt H dv (some xs)) (k1 : 1 ≤ k) (k2 : k < gl.length) (hl : (gl.map (·.2)).flatten.length ≤ 400) (hgl : gl.length ≤ 400) (hxs : xs.length ≤ 1000)
    (m1 : m.lookup (Str.ofString "reader") = some (.ref rd)) (m2 : m.lookup (Str.ofString "head") = some (.ref i)) (m3 : m.lookup (Str.ofString "lots") = some (.ref f)) (m4 : m.lookup (Str.ofString "due") = some dv) (m5 : m.lookup (Str.ofString "at") = some (.int k)) :
    ∃ m' H', f_law_b1 m H = .ok .next m' H' ∧ Ext H H' ∧ ∀ x : String, x ≠ "one" → x ≠ "other" → m'.lookup (Str.ofString x) = m.lookup (Str.ofString x) := by
  refine Classical.byContradiction fun K => ?_
  have hgood : ∀ g ∈ gl.map (·.2), good g := fun g hg' => by obtain ⟨p, hp, rfl⟩ := List.mem_map.mp hg'; exact hg p hp
  have k0 : 0 ≤ k := Int.le_trans (by decide) k1
  have hgm : (gl.map fun p => V.ref p.1).length ≤ 1000000 := by rw [List.length_map]; exact Nat.le_trans hgl (by decide)
  have hkm : k ≤ (gl.map fun p => V.ref p.1).length := by rw [List.length_map]; exact Int.le_of_lt k2
  obtain ⟨a, b, ta, tb, hab⟩ := told_cut hgood ht (k := k.toNat) ((Int.le_toNat k0).mpr k1) (by rw [List.length_map]; exact (Int.toNat_lt k0).mpr k2)
  rw [← List.map_take] at ta
  rw [← List.map_drop] at tb
  have fl1 := Nat.le_trans (sub_flat gl k.toNat).1 hl
  have fl2 := Nat.le_trans (sub_flat gl k.toNat).2 hl
  obtain ⟨H1, s1, c1, x1, g1⟩ := slice_hi X.hf hgm k0 hkm
  obtain ⟨H2, n2, x2, g2⟩ := newL_ex (xs := []) H1 (Nat.zero_le _)
  rw [← List.map_take] at g1
  have x02 := x1.trans x2
  obtain ⟨q3, H3, e3, x3, g3⟩ := sum_ok (x2.get g1) g2 (fun p hp => x02.get (X.gs p (List.mem_of_mem_take hp)).1) (Nat.le_trans fl1 (by decide))
  have x03 := x02.trans x3
  obtain ⟨r4, H4, e4, x4, o4⟩ := told_opt (R.ext x03) (x03.get hi) g3 h2 (Nat.le_trans fl1 (by decide))
  have x04 := x03.trans x4
  obtain ⟨H5, s5, c5, x5, g5⟩ := slice_lo (x04.get X.hf) hgm k0 hkm
  rw [← List.map_drop] at g5
  obtain ⟨H6, n6, x6, g6⟩ := newL_ex (xs := []) H5 (Nat.zero_le _)
  have x06 := (x04.trans x5).trans x6
  obtain ⟨q7, H7, e7, x7, g7⟩ := sum_ok (x6.get g5) g6 (fun p hp => x06.get (X.gs p (List.mem_of_mem_drop hp)).1) (Nat.le_trans fl2 (by decide))
  have x07 := x06.trans x7
  obtain ⟨r8, H8, e8, x8, o8⟩ := told_opt (R.ext x07) (x07.get hi) g7 h2 (Nat.le_trans fl2 (by decide))
  have x08 := x07.trans x8
  rw [ta] at o4
  rw [tb] at o8
  obtain ⟨u, hu, gu⟩ := o4.ext (((x5.trans x6).trans x7).trans x8)
  obtain ⟨w, hw, gw⟩ := o8
  rw [hu] at e4
  rw [hw] at e8
  have hxl := congrArg List.length hab
  rw [List.length_append] at hxl
  obtain ⟨H9, e9, x9, g9⟩ := add_ex gu gw (by rw [List.length_map, List.length_map, hxl]; exact Nat.le_trans hxs (by decide))
  have d9 := oNe_opt (v := .ref H8.length) (o := some xs) ⟨_, rfl, by rw [g9, ← List.map_append, hab]⟩ (D.ext (x08.trans x9))
  refine K ⟨(Str.ofString "one", .ref u) :: (Str.ofString "other", .ref w) :: m, H9, ?_, x08.trans x9, fun x h1 h2 => (l_skip h1).trans (l_skip h2)⟩
  clear K x08 x9 x8 x07 x7 x06 x6 x5 x04 x4 x03 x3 x02 x2 x1 g9 gw gu o4 g7 g6 g5 g3 g2 g1 X hg ht D k1 k2 hl hgl hxs hgood ta tb hab hxl fl1 fl2 R hi h2 hgm hkm k0
  delta f_law_b1
  ((repeat' with_reducible (first | exact s_set | exact e_nil | exact e_c | exact s_skip | apply e_cons | apply e_var | apply e_call | apply e_sub | apply e_bin | apply e_list | apply e_tup | (apply s_seq_exc; apply r_exc) | apply s_seqK | apply s_asg | apply s_if | apply s_ret | apply s_expr | apply t_ok | apply e_meth | apply e_or | apply e_and | apply e_ite | apply e_not | apply e_slice | apply e_neg | apply s_for | apply i_rng | apply i_range | apply i_range2 | exact s_swap2 | exact k_cont | exact k_ret | exact n_none | exact n_ref | exact n_tup | apply c_t | apply c_f | apply c_nt | apply c_nf | apply k_next | assumption | exact it0 | exact it1 | exact ne_f | (apply ne_t; first | assumption | kernel_rfl) | exact eq_t | exact eqi_t | (apply eq_f; first | assumption | kernel_rfl) | (apply eqi_f; first | assumption | kernel_rfl) | (apply lt_t; first | assumption | decide) | (apply lt_f; first | assumption | decide) | (apply le_t; first | assumption | decide) | (apply le_f; first | assumption | decide) | exact oAdd_ii | exact oSub_ii | apply b_append | exact isL_list | exact l_hit | (apply l_miss; kernel_rfl) | exact fFor_n trivial | rfl | (show Nat.ble _ _ = true; kernel_rfl))))
theorem at_loop {rd i f : Nat} {hd : List V} {gl : List (Nat × List Nt)} {dv : V} {xs : List String} (h2 : hd.length = 2) (hg : ∀ p ∈ gl, good p.2)
    (ht : told (gl.map (·.2)).flatten = some xs) (hl : (gl.map (·.2)).flatten.length ≤ 400) (hgl : gl.length ≤ 400) (hxs : xs.length ≤ 1000) (ks : List Int) : ∀ (m : Fm) (H : Hp), (∀ k ∈ ks, 1 ≤ k ∧ k < gl.length) → Rdr H rd → H[i]? = some (.list hd) → LI H f gl → IsOpt H dv (some xs) →
    m.lookup (Str.ofString "reader") = some (.ref rd) → m.lookup (Str.ofString "head") = some (.ref i) → m.lookup (Str.ofString "lots") = some (.ref f) → m.lookup (Str.ofString "due") = some dv →
    ∃ m' H', fFor (fun _ => True) (fSet (Str.ofString "at")) f_law_b1 (ks.map .int) m H = .ok .next m' H' ∧ Ext H H' ∧ ∀ x : String, x ≠ "one" → x ≠ "other" → x ≠ "at" → m'.lookup (Str.ofString x) = m.lookup (Str.ofString x) := by
  induction ks with
  | nil => exact fun m H _ _ _ _ _ _ _ _ _ => ⟨m, H, fFor_n (G := fun _ => True) trivial, Ext.refl H, fun _ _ _ _ => rfl⟩
  | cons k ks ih =>
    intro m H hk R hi X D m1 m2 m3 m4
    have hk1 := hk k (List.mem_cons_self ..)
    obtain ⟨m', H', e, x, l⟩ := at_body (m := (Str.ofString "at", .int k) :: m) R hi h2 X hg ht D hk1.1 hk1.2 hl hgl hxs ((l_skip (by decide)).trans m1) ((l_skip (by decide)).trans m2) ((l_skip (by decide)).trans m3) ((l_skip (by decide)).trans m4) l_hit
    have l' : ∀ x : String, x ≠ "one" → x ≠ "other" → x ≠ "at" → m'.lookup (Str.ofString x) = m.lookup (Str.ofString x) := fun x h1 h2 h3 => (l x h1 h2).trans (l_skip h3)
    obtain ⟨m'', H'', e', x', l''⟩ := ih m' H' (fun z hz => hk z (List.mem_cons_of_mem _ hz)) (R.ext x) (x.get hi) (X.ext x) (D.ext x) ((l' _ (by decide) (by decide) (by decide)).trans m1) ((l' _ (by decide) (by decide) (by decide)).trans m2) ((l' _ (by decide) (by decide) (by decide)).trans m3) ((l' _ (by decide) (by decide) (by decide)).trans m4)
    exact ⟨m'', H'', (f_next (G := fun _ => True) trivial s_set e).trans e', x.trans x', fun y h1 h2 h3 => (l'' y h1 h2 h3).trans (l' y h1 h2 h3)⟩
theorem notes_loop {h c : Nat} {cs : List Int} (items : List V) : ∀ (m : Fm) (H : Hp) (ns : List Nt) (j : Nat) (t : Int), m.lookup (Str.ofString "hat") = some (.ref h) → m.lookup (Str.ofString "notes") = some (.ref j) → H[j]? = some (.list (ns.map Nt.v)) → Hat H h c cs t → t + 4 * items.length ≤ 900000 → ns.length + 2 * items.length ≤ 400 →
    ∃ (m' : Fm) (H' : Hp) (ns' : List Nt) (j' : Nat) (t' : Int), fFor (fun _ => True) (fSet (Str.ofString "turn")) f_law_b2 items m H = .ok .next m' H' ∧ m'.lookup (Str.ofString "notes") = some (.ref j') ∧ H'[j']? = some (.list (ns'.map Nt.v)) ∧ Step h H H' ∧ Hat H' h c cs t' ∧ t' ≤ t + 4 * items.length ∧ ns'.length ≤ ns.length + 2 * items.length ∧
      ∀ x : String, x ≠ "turn" → x ≠ "notes" → m'.lookup (Str.ofString x) = m.lookup (Str.ofString x) := by
  induction items with
  | nil => exact fun m H ns j t m1 m2 hj X _ _ => ⟨m, H, ns, j, t, fFor_n (G := fun _ => True) trivial, m2, hj, Step.refl h H, X, Int.le_of_eq (Int.add_zero t).symm, Nat.le_refl _, fun _ _ _ => rfl⟩
  | cons v r ih =>
    intro m H ns j t m1 m2 hj X ht hl
    refine Classical.byContradiction fun K => ?_
    have hn1 : 2 * (r.length + 1) = 2 + 2 * r.length := by rw [Nat.mul_add, Nat.add_comm]
    have ht1 : t + 4 * ((r.length + 1 : Nat) : Int) = t + 4 + 4 * (r.length : Int) := by rw [Int.natCast_add, Int.mul_add, Int.add_comm (4 * _), ← Int.add_assoc]; rfl
    rw [List.length_cons] at ht hl K
    rw [ht1] at ht K
    rw [hn1, ← Nat.add_assoc] at hl K
    have hr : (0 : Int) ≤ 4 * (r.length : Int) := Int.mul_nonneg (by decide) (Int.natCast_nonneg _)
    have ht0 : t + 4 ≤ 900000 := Int.le_trans (Int.le_add_of_nonneg_right hr) ht
    have hjh : j ≠ h := by rintro rfl; have := X.hat; rw [hj] at this; cases this
    obtain ⟨xs, H1, j1, t1, hxl, e1, g1, s1, X1, b1⟩ := piece X (Int.lt_of_lt_of_le (Int.lt_add_of_pos_right t (by decide)) (Int.le_trans ht0 (by decide)))
    have hnx : (ns ++ xs).length + 2 * r.length ≤ ns.length + 2 + 2 * r.length := by rw [List.length_append]; exact Nat.add_le_add_right (Nat.add_le_add_left hxl _) _
    obtain ⟨H2, e2, x2, g2⟩ := add_ex (s1.2 j _ hjh hj) g1 (by rw [List.length_map, List.length_map, ← List.length_append]; exact Nat.le_trans (Nat.le_add_right _ _) (Nat.le_trans hnx (Nat.le_trans hl (by decide))))
    rw [← List.map_append] at g2
    have l1 : ((Str.ofString "turn", v) :: m).lookup (Str.ofString "hat") = some (.ref h) := (l_skip (by decide)).trans m1
    have l2 : ((Str.ofString "turn", v) :: m).lookup (Str.ofString "notes") = some (.ref j) := (l_skip (by decide)).trans m2
    have eb : f_law_b2 ((Str.ofString "turn", v) :: m) H = .ok .next ((Str.ofString "notes", .ref H1.length) :: (Str.ofString "turn", v) :: m) H2 := by
      clear X X1 s1 x2 g1 g2 hj ht hl hxl b1 hjh m1 m2 ih K hn1 ht1 hr ht0 hnx
      delta f_law_b2
      ((repeat' with_reducible (first | exact s_set | exact e_nil | exact e_c | exact s_skip | apply e_cons | apply e_var | apply e_call | apply e_sub | apply e_bin | apply e_list | apply e_tup | (apply s_seq_exc; apply r_exc) | apply s_seqK | apply s_asg | apply s_if | apply s_ret | apply s_expr | apply t_ok | apply e_meth | apply e_or | apply e_and | apply e_ite | apply e_not | apply e_slice | apply e_neg | apply s_for | apply i_rng | apply i_range | apply i_range2 | exact s_swap2 | exact k_cont | exact k_ret | exact n_none | exact n_ref | exact n_tup | apply c_t | apply c_f | apply c_nt | apply c_nf | apply k_next | assumption | exact it0 | exact it1 | exact ne_f | (apply ne_t; first | assumption | kernel_rfl) | exact eq_t | exact eqi_t | (apply eq_f; first | assumption | kernel_rfl) | (apply eqi_f; first | assumption | kernel_rfl) | (apply lt_t; first | assumption | decide) | (apply lt_f; first | assumption | decide) | (apply le_t; first | assumption | decide) | (apply le_f; first | assumption | decide) | exact oAdd_ii | exact oSub_ii | apply b_append | exact isL_list | exact l_hit | (apply l_miss; kernel_rfl) | exact fFor_n trivial | rfl | (show Nat.ble _ _ = true; kernel_rfl))))
    have lk : ∀ x : String, x ≠ "turn" → x ≠ "notes" → ((Str.ofString "notes", V.ref H1.length) :: (Str.ofString "turn", v) :: m).lookup (Str.ofString x) = m.lookup (Str.ofString x) := fun x h1 h2 => (l_skip h2).trans (l_skip h1)
    obtain ⟨m', H', ns', j', t', e, n', g', s', X', b', c', l'⟩ := ih _ H2 (ns ++ xs) H1.length t1 ((lk _ (by decide) (by decide)).trans m1) l_hit g2 (X1.ext x2) (Int.le_trans (Int.add_le_add_right b1 _) ht) (Nat.le_trans hnx hl)
    exact K ⟨m', H', ns', j', t', (f_next (G := fun _ => True) trivial s_set eb).trans e, n', g', (s1.trans (x2.step h)).trans s', X', Int.le_trans b' (Int.add_le_add_right b1 _), Nat.le_trans c' hnx, fun x h1 h2 => (l' x h1 h2).trans (lk x h1 h2)⟩
end MP
namespace MP

theorem due_len {ns : List Nt} {xs : List String} (h : due ns = some xs) : xs.length ≤ ns.length + 1 := by
  unfold due at h
  split at h
  · cases h
  · cases h
    have := List.length_filterMap_le nm2 (prs none ns)
    rw [prs_len] at this
    exact this
theorem gl_len {gs : List (List Nt)} (h : ∀ g ∈ gs, good g) : gs.length ≤ gs.flatten.length := by
  induction gs with
  | nil => exact Nat.le_refl _
  | cons g gs ih =>
    obtain ⟨k, r, rfl, _⟩ := h g (List.mem_cons_self ..)
    rw [List.flatten_cons, List.length_append, List.length_cons, List.length_cons, Nat.add_comm]
    exact Nat.add_le_add (Nat.le_add_left _ _) (ih fun x hx => h x (List.mem_cons_of_mem _ hx))
theorem rev_flat (gl : List (Nat × List Nt)) : (gl.reverse.map (·.2)).flatten.length = (gl.map (·.2)).flatten.length := by
  rw [List.length_flatten, List.length_flatten, List.map_reverse, List.map_reverse, List.sum_reverse]
theorem Rdr.step {H H' : Hp} {h rd c t cs} (x : Rdr H rd) (X : Hat H h c cs t) (s : Step h H H') : Rdr H' rd := by
  obtain ⟨fs, a, b⟩ := x.ex
  refine ⟨fs, s.2 rd _ ?_ a, b⟩
  rintro rfl
  have := X.hat
  rw [a] at this; cases this
theorem list_ne {H : Hp} {h c i : Nat} {t cs xs} (X : Hat H h c cs t) (hi : H[i]? = some (.list xs)) : i ≠ h := by
  rintro rfl
  have := X.hat
  rw [hi] at this; cases this
theorem lap_body {m : Fm} {H : Hp} {h c rd : Nat} {cs : List Int} {t : Int} (X : Hat H h c cs t) (R : Rdr H rd) (ht : t + 100 ≤ 900000) (m1 : m.lookup (Str.ofString "hat") = some (.ref h)) (m2 : m.lookup (Str.ofString "reader") = some (.ref rd)) :
    ∃ (m' : Fm) (H' : Hp) (t' : Int) (fl : Fl), f_law_b3 m H = .ok fl m' H' ∧ (fl = .next ∨ fl = .cont) ∧ m'.lookup (Str.ofString "hat") = some (.ref h) ∧ m'.lookup (Str.ofString "reader") = some (.ref rd) ∧ Step h H H' ∧ Hat H' h c cs t' ∧ Rdr H' rd ∧ t' ≤ t + 30 := by
  refine Classical.byContradiction fun K => ?_
  have t0 : t < 1000000 := by omega
  have t1 : t + 1 < 1000000 := by clear t0; omega
  have t2 : t + 1 + 1 < 1000000 := by clear t0 t1; omega
  have t3 : t + 1 + 1 + 1 < 1000000 := by clear t0 t1 t2; omega
  have t4 : ∀ k : Nat, k ≤ 5 → t + 1 + 1 + 1 + 4 * (k : Int) ≤ t + 30 := fun k hk => by clear ht t0 t1 t2 t3; omega
  have t5 : t + 30 ≤ 900000 := by clear t0 t1 t2 t3 t4; omega
  obtain ⟨i, H1, i0, i1, e1, s1, X1⟩ := deal (k := 2) X t0 (by decide)
  obtain ⟨hv, _, hhv⟩ := pick id [V.tup [.str (Str.ofString "sym"), .str (Str.ofString "!")], .tup [.str (Str.ofString "key"), .str (Str.ofString "named")]] i0 i1 (Nat.le_of_ble_eq_true rfl)
  have hh1 := hhv H1
  dsimp only [List.map, id] at hh1
  clear hhv
  obtain ⟨x, H2, e2, s2, X2⟩ := worth X1 t1
  obtain ⟨H3, e3, x3, g3⟩ := newL_ex (xs := [hv, x.v]) H2 (Nat.le_of_ble_eq_true rfl)
  obtain ⟨H4, e4, x4, g4⟩ := newL_ex (xs := []) H3 (Nat.zero_le _)
  have X4 := (X2.ext x3).ext x4
  have s04 := (s1.trans s2).trans ((x3.trans x4).step h)
  obtain ⟨k, H5, k0, k1, e5, s5, X5⟩ := deal (k := 6) X4 t2 (by decide)
  have rk : -1000000000 ≤ k ∧ k ≤ 1000000000 := ⟨Int.le_trans (by decide) k0, Int.le_trans (Int.le_of_lt k1) (by decide)⟩
  have hk5 : k.toNat ≤ 5 := Int.toNat_le.mpr (Int.lt_add_one_iff.mp k1)
  have hlen : (rangeV 0 k.toNat).length = k.toNat := by unfold rangeV; rw [List.length_map, List.length_range]
  have hn4 := list_ne X4 (x4.get g3)
  obtain ⟨m6, H6, ns, j6, t6, e6, n6, g6, s6, X6, b6, c6, l6⟩ := notes_loop (rangeV 0 k.toNat) ((Str.ofString "head", .ref H2.length) :: (Str.ofString "notes", .ref H3.length) :: m) H5 [] H3.length (t + 1 + 1 + 1)
    (by ((repeat' with_reducible (first | exact s_set | exact e_nil | exact e_c | exact s_skip | apply e_cons | apply e_var | apply e_call | apply e_sub | apply e_bin | apply e_list | apply e_tup | (apply s_seq_exc; apply r_exc) | apply s_seqK | apply s_asg | apply s_if | apply s_ret | apply s_expr | apply t_ok | apply e_meth | apply e_or | apply e_and | apply e_ite | apply e_not | apply e_slice | apply e_neg | apply s_for | apply i_rng | apply i_range | apply i_range2 | exact s_swap2 | exact k_cont | exact k_ret | exact n_none | exact n_ref | exact n_tup | apply c_t | apply c_f | apply c_nt | apply c_nf | apply k_next | assumption | exact it0 | exact it1 | exact ne_f | (apply ne_t; first | assumption | kernel_rfl) | exact eq_t | exact eqi_t | (apply eq_f; first | assumption | kernel_rfl) | (apply eqi_f; first | assumption | kernel_rfl) | (apply lt_t; first | assumption | decide) | (apply lt_f; first | assumption | decide) | (apply le_t; first | assumption | decide) | (apply le_f; first | assumption | decide) | exact oAdd_ii | exact oSub_ii | apply b_append | exact isL_list | exact l_hit | (apply l_miss; kernel_rfl) | exact fFor_n trivial | rfl | (show Nat.ble _ _ = true; kernel_rfl))))) (by ((repeat' with_reducible (first | exact s_set | exact e_nil | exact e_c | exact s_skip | apply e_cons | apply e_var | apply e_call | apply e_sub | apply e_bin | apply e_list | apply e_tup | (apply s_seq_exc; apply r_exc) | apply s_seqK | apply s_asg | apply s_if | apply s_ret | apply s_expr | apply t_ok | apply e_meth | apply e_or | apply e_and | apply e_ite | apply e_not | apply e_slice | apply e_neg | apply s_for | apply i_rng | apply i_range | apply i_range2 | exact s_swap2 | exact k_cont | exact k_ret | exact n_none | exact n_ref | exact n_tup | apply c_t | apply c_f | apply c_nt | apply c_nf | apply k_next | assumption | exact it0 | exact it1 | exact ne_f | (apply ne_t; first | assumption | kernel_rfl) | exact eq_t | exact eqi_t | (apply eq_f; first | assumption | kernel_rfl) | (apply eqi_f; first | assumption | kernel_rfl) | (apply lt_t; first | assumption | decide) | (apply lt_f; first | assumption | decide) | (apply le_t; first | assumption | decide) | (apply le_f; first | assumption | decide) | exact oAdd_ii | exact oSub_ii | apply b_append | exact isL_list | exact l_hit | (apply l_miss; kernel_rfl) | exact fFor_n trivial | rfl | (show Nat.ble _ _ = true; kernel_rfl))))) (s5.2 _ _ (list_ne X4 g4) g4) X5 (by rw [hlen]; exact Int.le_trans (t4 _ hk5) t5) (by rw [hlen]; exact Nat.le_trans (Nat.le_of_eq (Nat.zero_add _)) (Nat.le_trans (Nat.mul_le_mul_left 2 hk5) (by decide)))
  rw [hlen] at b6 c6
  have hns : ns.length ≤ 10 := Nat.le_trans c6 (Nat.le_trans (Nat.le_of_eq (Nat.zero_add _)) (Nat.mul_le_mul_left 2 hk5))
  have b7 : t6 ≤ t + 30 := Int.le_trans b6 (t4 _ hk5)
  have hn9 : ns.length ≤ 900 := Nat.le_trans hns (by decide)
  clear b6 c6 t0 t1 t2 t3 t4 t5 i0 i1 k0 k1 hlen hk5
  have q1 : m6.lookup (Str.ofString "hat") = some (.ref h) := by rw [l6 _ (by decide) (by decide)]; ((repeat' with_reducible (first | exact s_set | exact e_nil | exact e_c | exact s_skip | apply e_cons | apply e_var | apply e_call | apply e_sub | apply e_bin | apply e_list | apply e_tup | (apply s_seq_exc; apply r_exc) | apply s_seqK | apply s_asg | apply s_if | apply s_ret | apply s_expr | apply t_ok | apply e_meth | apply e_or | apply e_and | apply e_ite | apply e_not | apply e_slice | apply e_neg | apply s_for | apply i_rng | apply i_range | apply i_range2 | exact s_swap2 | exact k_cont | exact k_ret | exact n_none | exact n_ref | exact n_tup | apply c_t | apply c_f | apply c_nt | apply c_nf | apply k_next | assumption | exact it0 | exact it1 | exact ne_f | (apply ne_t; first | assumption | kernel_rfl) | exact eq_t | exact eqi_t | (apply eq_f; first | assumption | kernel_rfl) | (apply eqi_f; first | assumption | kernel_rfl) | (apply lt_t; first | assumption | decide) | (apply lt_f; first | assumption | decide) | (apply le_t; first | assumption | decide) | (apply le_f; first | assumption | decide) | exact oAdd_ii | exact oSub_ii | apply b_append | exact isL_list | exact l_hit | (apply l_miss; kernel_rfl) | exact fFor_n trivial | rfl | (show Nat.ble _ _ = true; kernel_rfl))))
  have q2 : m6.lookup (Str.ofString "reader") = some (.ref rd) := by rw [l6 _ (by decide) (by decide)]; ((repeat' with_reducible (first | exact s_set | exact e_nil | exact e_c | exact s_skip | apply e_cons | apply e_var | apply e_call | apply e_sub | apply e_bin | apply e_list | apply e_tup | (apply s_seq_exc; apply r_exc) | apply s_seqK | apply s_asg | apply s_if | apply s_ret | apply s_expr | apply t_ok | apply e_meth | apply e_or | apply e_and | apply e_ite | apply e_not | apply e_slice | apply e_neg | apply s_for | apply i_rng | apply i_range | apply i_range2 | exact s_swap2 | exact k_cont | exact k_ret | exact n_none | exact n_ref | exact n_tup | apply c_t | apply c_f | apply c_nt | apply c_nf | apply k_next | assumption | exact it0 | exact it1 | exact ne_f | (apply ne_t; first | assumption | kernel_rfl) | exact eq_t | exact eqi_t | (apply eq_f; first | assumption | kernel_rfl) | (apply eqi_f; first | assumption | kernel_rfl) | (apply lt_t; first | assumption | decide) | (apply lt_f; first | assumption | decide) | (apply le_t; first | assumption | decide) | (apply le_f; first | assumption | decide) | exact oAdd_ii | exact oSub_ii | apply b_append | exact isL_list | exact l_hit | (apply l_miss; kernel_rfl) | exact fFor_n trivial | rfl | (show Nat.ble _ _ = true; kernel_rfl))))
  have q3 : m6.lookup (Str.ofString "head") = some (.ref H2.length) := by rw [l6 _ (by decide) (by decide)]; ((repeat' with_reducible (first | exact s_set | exact e_nil | exact e_c | exact s_skip | apply e_cons | apply e_var | apply e_call | apply e_sub | apply e_bin | apply e_list | apply e_tup | (apply s_seq_exc; apply r_exc) | apply s_seqK | apply s_asg | apply s_if | apply s_ret | apply s_expr | apply t_ok | apply e_meth | apply e_or | apply e_and | apply e_ite | apply e_not | apply e_slice | apply e_neg | apply s_for | apply i_rng | apply i_range | apply i_range2 | exact s_swap2 | exact k_cont | exact k_ret | exact n_none | exact n_ref | exact n_tup | apply c_t | apply c_f | apply c_nt | apply c_nf | apply k_next | assumption | exact it0 | exact it1 | exact ne_f | (apply ne_t; first | assumption | kernel_rfl) | exact eq_t | exact eqi_t | (apply eq_f; first | assumption | kernel_rfl) | (apply eqi_f; first | assumption | kernel_rfl) | (apply lt_t; first | assumption | decide) | (apply lt_f; first | assumption | decide) | (apply le_t; first | assumption | decide) | (apply le_f; first | assumption | decide) | exact oAdd_ii | exact oSub_ii | apply b_append | exact isL_list | exact l_hit | (apply l_miss; kernel_rfl) | exact fFor_n trivial | rfl | (show Nat.ble _ _ = true; kernel_rfl))))
  have s06 := (s04.trans s5).trans s6
  have hd6 : H6[H2.length]? = some (.list [hv, x.v]) := s6.2 _ _ hn4 (s5.2 _ _ hn4 (x4.get g3))
  have R6 := R.step X s06
  obtain ⟨dv, H7, e7, x7, D7⟩ := due_ok g6 hn9
  obtain ⟨r8, H8, e8, x8, o8⟩ := told_opt (R6.ext x7) (x7.get hd6) (x7.get g6) rfl hn9
  rw [told_due] at o8
  have d8 := oNe_opt o8 (D7.ext x8)
  obtain ⟨H9, e9, x9, g9⟩ := newL_ex (xs := [.tup [.str (Str.ofString "num"), .int 1], .tup [.str (Str.ofString "key"), .str (Str.ofString "x")]]) H8 (Nat.le_of_ble_eq_true rfl)
  have x69 := (x7.trans x8).trans x9
  obtain ⟨r10, H10, e10, x10, o10⟩ := told_opt (R6.ext x69) g9 (x69.get g6) rfl hn9
  rw [told_due] at o10
  have D10 := ((D7.ext x8).ext x9).ext x10
  have d10 := oNe_opt o10 D10
  have x610 := x69.trans x10
  have lk : ∀ y : String, y ≠ "due" → ((Str.ofString "due", dv) :: m6).lookup (Str.ofString y) = m6.lookup (Str.ofString y) := fun y hy => l_skip hy
  cases hdue : due ns with
  | none =>
    rw [hdue] at D10
    cases D10
    refine K ⟨(Str.ofString "due", .none) :: m6, H10, t6, .cont, ?_, .inr rfl, (lk _ (by decide)).trans q1, (lk _ (by decide)).trans q2, s06.trans (x610.step h), X6.ext x610, R6.ext x610, b7⟩
    delta f_law_b3
    ((repeat' with_reducible (first | exact s_set | exact e_nil | exact e_c | exact s_skip | apply e_cons | apply e_var | apply e_call | apply e_sub | apply e_bin | apply e_list | apply e_tup | (apply s_seq_exc; apply r_exc) | apply s_seqK | apply s_asg | apply s_if | apply s_ret | apply s_expr | apply t_ok | apply e_meth | apply e_or | apply e_and | apply e_ite | apply e_not | apply e_slice | apply e_neg | apply s_for | apply i_rng | apply i_range | apply i_range2 | exact s_swap2 | exact k_cont | exact k_ret | exact n_none | exact n_ref | exact n_tup | apply c_t | apply c_f | apply c_nt | apply c_nf | apply k_next | assumption | exact it0 | exact it1 | exact ne_f | (apply ne_t; first | assumption | kernel_rfl) | exact eq_t | exact eqi_t | (apply eq_f; first | assumption | kernel_rfl) | (apply eqi_f; first | assumption | kernel_rfl) | (apply lt_t; first | assumption | decide) | (apply lt_f; first | assumption | decide) | (apply le_t; first | assumption | decide) | (apply le_f; first | assumption | decide) | exact oAdd_ii | exact oSub_ii | apply b_append | exact isL_list | exact l_hit | (apply l_miss; kernel_rfl) | exact fFor_n trivial | rfl | (show Nat.ble _ _ = true; kernel_rfl))))
  | some xs =>
    rw [hdue] at D10
    have htold : told ns = some xs := (told_due ns).trans hdue
    have D10' := D10
    obtain ⟨d, rfl, gd⟩ := D10
    obtain ⟨H11, gl, e11, x11, X11, hg, hf⟩ := lots_ok (x610.get g6) hn9 (told_starts htold)
    have hgood : ∀ g ∈ gl.map (·.2), good g := fun g hg' => by obtain ⟨p, hp, rfl⟩ := List.mem_map.mp hg'; exact hg p hp
    have hgl := gl_len hgood
    rw [hf, List.length_map] at hgl
    have hgl : gl.length ≤ 10 := Nat.le_trans hgl hns
    have hxl : xs.length ≤ 11 := Nat.le_trans (due_len hdue) (Nat.succ_le_succ hns)
    have hgm : (gl.map fun p => V.ref p.1).length ≤ 1000000 := by rw [List.length_map]; exact Nat.le_trans hgl (by decide)
    have hxm : (svs xs).length ≤ 11 := by rw [List.length_map]; exact hxl
    have hnm : (ns.map Nt.v).length ≤ 10 := by rw [List.length_map]; exact hns
    have b11 := bLen_list X11.hf (Nat.lt_of_le_of_lt hgm (by decide))
    rw [List.length_map] at b11
    have rk2 : (-1000000000 ≤ (1 : Int) ∧ (1 : Int) ≤ 1000000000) ∧ -1000000000 ≤ (gl.length : Int) ∧ (gl.length : Int) ≤ 1000000000 := ⟨by decide, Int.le_trans (by decide) (Int.natCast_nonneg _), Int.le_trans (Int.ofNat_le.mpr hgl) (by decide)⟩
    have x611 := x610.trans x11
    have lk2 : ∀ y : String, y ≠ "due" → y ≠ "lots" → ((Str.ofString "lots", V.ref H10.length) :: (Str.ofString "due", V.ref d) :: m6).lookup (Str.ofString y) = m6.lookup (Str.ofString y) := fun y h1 h2 => (l_skip h2).trans (l_skip h1)
    have hrange : rangeV 1 ((gl.length : Int) - 1).toNat = ((List.range ((gl.length : Int) - 1).toNat).map fun (i : Nat) => (1 : Int) + i).map .int := by unfold rangeV; rw [List.map_map]; rfl
    obtain ⟨m12, H12, e12, x12, l12⟩ := at_loop (rd := rd) (i := H2.length) (f := H10.length) (dv := .ref d) (hd := [hv, x.v]) rfl hg (by rw [hf]; exact htold) (by rw [hf]; exact Nat.le_trans hns (by decide)) (Nat.le_trans hgl (by decide)) (Nat.le_trans hxl (by decide)) ((List.range ((gl.length : Int) - 1).toNat).map fun (i : Nat) => (1 : Int) + i)
      ((Str.ofString "lots", .ref H10.length) :: (Str.ofString "due", .ref d) :: m6) H11 (fun z hz => by obtain ⟨w, hw, rfl⟩ := List.mem_map.mp hz; rw [List.mem_range] at hw; clear hnm hxm hgm hgl hxl hn9 hns b7 rk rk2 ht; omega)
      (R6.ext x611) (x611.get hd6) X11 (D10'.ext x11) ((lk2 _ (by decide) (by decide)).trans q2) ((lk2 _ (by decide) (by decide)).trans q3) l_hit (by ((repeat' with_reducible (first | exact s_set | exact e_nil | exact e_c | exact s_skip | apply e_cons | apply e_var | apply e_call | apply e_sub | apply e_bin | apply e_list | apply e_tup | (apply s_seq_exc; apply r_exc) | apply s_seqK | apply s_asg | apply s_if | apply s_ret | apply s_expr | apply t_ok | apply e_meth | apply e_or | apply e_and | apply e_ite | apply e_not | apply e_slice | apply e_neg | apply s_for | apply i_rng | apply i_range | apply i_range2 | exact s_swap2 | exact k_cont | exact k_ret | exact n_none | exact n_ref | exact n_tup | apply c_t | apply c_f | apply c_nt | apply c_nf | apply k_next | assumption | exact it0 | exact it1 | exact ne_f | (apply ne_t; first | assumption | kernel_rfl) | exact eq_t | exact eqi_t | (apply eq_f; first | assumption | kernel_rfl) | (apply eqi_f; first | assumption | kernel_rfl) | (apply lt_t; first | assumption | decide) | (apply lt_f; first | assumption | decide) | (apply le_t; first | assumption | decide) | (apply le_f; first | assumption | decide) | exact oAdd_ii | exact oSub_ii | apply b_append | exact isL_list | exact l_hit | (apply l_miss; kernel_rfl) | exact fFor_n trivial | rfl | (show Nat.ble _ _ = true; kernel_rfl)))))
    rw [← hrange] at e12
    have w1 : m12.lookup (Str.ofString "hat") = some (.ref h) := (l12 _ (by decide) (by decide) (by decide)).trans ((lk2 _ (by decide) (by decide)).trans q1)
    have w2 : m12.lookup (Str.ofString "reader") = some (.ref rd) := (l12 _ (by decide) (by decide) (by decide)).trans ((lk2 _ (by decide) (by decide)).trans q2)
    have w3 : m12.lookup (Str.ofString "head") = some (.ref H2.length) := (l12 _ (by decide) (by decide) (by decide)).trans ((lk2 _ (by decide) (by decide)).trans q3)
    have w4 : m12.lookup (Str.ofString "notes") = some (.ref j6) := (l12 _ (by decide) (by decide) (by decide)).trans ((lk2 _ (by decide) (by decide)).trans n6)
    have w5 : m12.lookup (Str.ofString "lots") = some (.ref H10.length) := (l12 _ (by decide) (by decide) (by decide)).trans l_hit
    have w6 : m12.lookup (Str.ofString "due") = some (.ref d) := (l12 _ (by decide) (by decide) (by decide)).trans (by ((repeat' with_reducible (first | exact s_set | exact e_nil | exact e_c | exact s_skip | apply e_cons | apply e_var | apply e_call | apply e_sub | apply e_bin | apply e_list | apply e_tup | (apply s_seq_exc; apply r_exc) | apply s_seqK | apply s_asg | apply s_if | apply s_ret | apply s_expr | apply t_ok | apply e_meth | apply e_or | apply e_and | apply e_ite | apply e_not | apply e_slice | apply e_neg | apply s_for | apply i_rng | apply i_range | apply i_range2 | exact s_swap2 | exact k_cont | exact k_ret | exact n_none | exact n_ref | exact n_tup | apply c_t | apply c_f | apply c_nt | apply c_nf | apply k_next | assumption | exact it0 | exact it1 | exact ne_f | (apply ne_t; first | assumption | kernel_rfl) | exact eq_t | exact eqi_t | (apply eq_f; first | assumption | kernel_rfl) | (apply eqi_f; first | assumption | kernel_rfl) | (apply lt_t; first | assumption | decide) | (apply lt_f; first | assumption | decide) | (apply le_t; first | assumption | decide) | (apply le_f; first | assumption | decide) | exact oAdd_ii | exact oSub_ii | apply b_append | exact isL_list | exact l_hit | (apply l_miss; kernel_rfl) | exact fFor_n trivial | rfl | (show Nat.ble _ _ = true; kernel_rfl)))))
    have x612 := x611.trans x12
    obtain ⟨H13, s13, c13, x13, g13⟩ := slice_rev (x12.get X11.hf) hgm
    rw [← List.map_reverse] at g13
    obtain ⟨H14, e14, x14, g14⟩ := newL_ex (xs := []) H13 (Nat.zero_le _)
    have hfr : (gl.reverse.map (·.2)).flatten.length ≤ 900 := by rw [rev_flat, hf]; exact hn9
    have x1114 := (x12.trans x13).trans x14
    obtain ⟨q15, H15, e15, x15, g15⟩ := sum_ok (x14.get g13) g14 (fun p hp => x1114.get (X11.gs p (List.mem_reverse.mp hp)).1) (Nat.le_trans hfr (by decide))
    have x615 := ((x612.trans x13).trans x14).trans x15
    obtain ⟨r16, H16, e16, x16, o16⟩ := told_opt (R6.ext x615) (x615.get hd6) g15 rfl hfr
    rw [List.map_reverse, told_rev hgood (by rw [hf]; exact htold)] at o16
    have x616 := x615.trans x16
    have x1016 := ((x11.trans x1114).trans x15).trans x16
    obtain ⟨H17, s17, c17, x17, g17⟩ := slice_rev (x1016.get gd) (Nat.le_trans hxm (by decide))
    have o17 : IsOpt H17 (.ref H16.length) (some xs.reverse) := ⟨_, rfl, by rw [g17]; exact congrArg (fun l => some (AObj.list l)) List.map_reverse.symm⟩
    have d17 := oNe_opt (o16.ext x17) o17
    have x617 := x616.trans x17
    obtain ⟨H18, e18, x18, g18⟩ := add_ex (x617.get g6) (x617.get g6) (Nat.le_trans (Nat.add_le_add hnm hnm) (by decide))
    rw [← List.map_append] at g18
    have x618 := x617.trans x18
    obtain ⟨r19, H19, e19, x19, o19⟩ := told_opt (R6.ext x618) (x618.get hd6) g18 rfl (by rw [List.length_append]; exact Nat.le_trans (Nat.add_le_add hns hns) (by decide))
    have htwo : told (ns ++ ns) = some (xs ++ xs) := by rw [← hf]; exact told_two hgood (by rw [hf]; exact htold)
    rw [htwo] at o19
    have x1019 := ((x1016.trans x17).trans x18).trans x19
    obtain ⟨H20, e20, x20, g20⟩ := add_ex (x1019.get gd) (x1019.get gd) (Nat.le_trans (Nat.add_le_add hxm hxm) (by decide))
    have o20 : IsOpt H20 (.ref H19.length) (some (xs ++ xs)) := ⟨_, rfl, by rw [g20, ← List.map_append]⟩
    have d20 := oNe_opt (o19.ext x20) o20
    have x620 := (x618.trans x19).trans x20
    refine K ⟨m12, H20, t6, .next, ?_, .inl rfl, w1, w2, s06.trans (x620.step h), X6.ext x620, R6.ext x620, b7⟩
    clear K X X1 X2 X4 X5 X6 s1 s2 s04 s5 s6 s06 x3 x4 x7 x8 x9 x10 x69 x610 g3 g4 g6 g9 D7 o8 o10 R R6 hd6 l6 lk hdue hn4 ht hns b7 hn9 hgm hxm hnm htold D10' gd x11 X11 hg hf hgood hgl hxl x611 lk2 hrange x12 l12 x612 x13 g13 x14 g14 hfr x1114 x15 g15 x615 x16 o16 x616 x1016 x17 g17 o17 x617 x18 g18 x618 x19 o19 htwo x1019 x20 g20 o20 x620
    delta f_law_b3
    ((repeat' with_reducible (first | exact s_set | exact e_nil | exact e_c | exact s_skip | apply e_cons | apply e_var | apply e_call | apply e_sub | apply e_bin | apply e_list | apply e_tup | (apply s_seq_exc; apply r_exc) | apply s_seqK | apply s_asg | apply s_if | apply s_ret | apply s_expr | apply t_ok | apply e_meth | apply e_or | apply e_and | apply e_ite | apply e_not | apply e_slice | apply e_neg | apply s_for | apply i_rng | apply i_range | apply i_range2 | exact s_swap2 | exact k_cont | exact k_ret | exact n_none | exact n_ref | exact n_tup | apply c_t | apply c_f | apply c_nt | apply c_nf | apply k_next | assumption | exact it0 | exact it1 | exact ne_f | (apply ne_t; first | assumption | kernel_rfl) | exact eq_t | exact eqi_t | (apply eq_f; first | assumption | kernel_rfl) | (apply eqi_f; first | assumption | kernel_rfl) | (apply lt_t; first | assumption | decide) | (apply lt_f; first | assumption | decide) | (apply le_t; first | assumption | decide) | (apply le_f; first | assumption | decide) | exact oAdd_ii | exact oSub_ii | apply b_append | exact isL_list | exact l_hit | (apply l_miss; kernel_rfl) | exact fFor_n trivial | rfl | (show Nat.ble _ _ = true; kernel_rfl))))
end MP
namespace MP
noncomputable def OkS (R : OutS) (P : Fl → Fm → Hp → Prop) : Prop := match R with
  | .ok fl m H => P fl m H
  | _ => False
theorem OkS.ex {R : OutS} {P} (h : OkS R P) : ∃ fl m H, R = .ok fl m H ∧ P fl m H := by
  cases R with
  | ok fl m H => exact ⟨fl, m, H, rfl, h⟩
  | exc m H => exact h.elim
  | bad => exact h.elim
noncomputable def gM : OutS → Fm
  | .ok _ m _ => m
  | _ => []
noncomputable def gH : OutS → Hp
  | .ok _ _ H => H
  | _ => []
noncomputable def gN : OutS → Bool
  | .ok .next _ _ => true
  | _ => false
noncomputable def gI : Option AObj → List (Str × V)
  | some (.inst _ fs) => fs
  | _ => []
theorem OkS_of {R : OutS} {P : Fl → Fm → Hp → Prop} (h : gN R = true) (p : P .next (gM R) (gH R)) : OkS R P := by
  cases R with
  | ok fl m H => cases fl <;> first | exact p | cases h
  | exc m H => cases h
  | bad => cases h

noncomputable abbrev stA : FS := fAsgE (fTup (fCons (fDictS (fCons (fC (.str (Str.ofString "cells"))) (fCons (fComp [] (fIter (fSliceZ (fVar (Str.ofString "script")) (fC (.int 50)))) (vName (Str.ofString "cell")) (fC (.bool true)) (f_law_e4)) (fCons (fC (.str (Str.ofString "turn"))) (fCons (fC (.int 0)) (fNil)))))) (fCons (fCall (fMake 400 F_Bank_init) (fNil)) (fNil)))) (fSwap [Str.ofString "hat", Str.ofString "bank"])
noncomputable abbrev stB : FS := fAsgE (fCall (fMake 846 F_CoreElaborator_init) (fCons (fVar (Str.ofString "bank")) (fCons (fCall (fMake 558 F_Symbols_init) (fCons (fVar (Str.ofString "bank")) (fNil))) (fNil)))) (fSet (Str.ofString "reader"))
theorem fSeq2 {A B R : FS} {m : Fm} {H : Hp} : fSeq A (fSeq B R) m H = ((A m H).bind fun fl m1 H1 => seqK fl B m1 H1).bind fun fl m1 H1 => seqK fl R m1 H1 := by
  unfold fSeq
  cases A m H with
  | ok fl m1 H1 => cases fl <;> rfl
  | exc m H => rfl
  | bad => rfl
theorem start_of {R : OutS} {n : Nat} {o0 o1 o3 : AObj} (h : gN R = true) (h1 : (gM R).lookup (Str.ofString "hat") = some (.ref 1)) (h2 : (gM R).lookup (Str.ofString "reader") = some (.ref n)) (h3 : (gH R)[n]? = some (.inst 846 (gI (gH R)[n]?)))
    (h4 : (gI (gH R)[n]?).lookup (Str.ofString "names_noted") = none) (h5 : (gH R)[0]? = some o0) (h6 : (gH R)[1]? = some o1) (h7 : (gH R)[3]? = some o3) : OkS R (fun fl m H => fl = .next ∧ m.lookup (Str.ofString "hat") = some (.ref 1) ∧ (∃ rd fs, m.lookup (Str.ofString "reader") = some (.ref rd) ∧ H[rd]? = some (.inst 846 fs) ∧ fs.lookup (Str.ofString "names_noted") = none) ∧ H[0]? = some o0 ∧ H[1]? = some o1 ∧ H[3]? = some o3) :=
  OkS_of h ⟨rfl, h1, ⟨n, _, h2, h3, h4⟩, h5, h6, h7⟩
theorem law_start {o : Obj} {ns : List Int} (hl : ns.length ≤ 63) : OkS ((stA [(Str.ofString "script", .ref 0)] [.frz o (ns.map .int)]).bind fun fl m1 H1 => seqK fl stB m1 H1)
    (fun fl m H => fl = .next ∧ m.lookup (Str.ofString "hat") = some (.ref 1) ∧ (∃ rd fs, m.lookup (Str.ofString "reader") = some (.ref rd) ∧ H[rd]? = some (.inst 846 fs) ∧ fs.lookup (Str.ofString "names_noted") = none) ∧ H[0]? = some (.frz o (ns.map .int)) ∧ H[1]? = some (hatO 3 0) ∧ H[3]? = some (.list (((ns.take 50).map fun x : Int => ((if x < 0 then -x else x).fmod 10009)).map .int))) := by
  have hml : (ns.map V.int).length ≤ 63 := by rw [List.length_map]; exact hl
  have hc : cut (ns.map V.int) none (some 50) = (ns.take 50).map .int := by
    show ((ns.map V.int).drop 0).take (clipAt (ns.map V.int).length 50 - 0) = _
    rw [List.drop_zero, Nat.sub_zero, List.map_take]
    by_cases h : (ns.map V.int).length ≤ 50
    · rw [clip_hi (k := 50) (by decide) (Int.ofNat_le.mpr h), List.take_of_length_le (Nat.le_refl _), List.take_of_length_le h]
    · rw [clip_eq (k := 50) (by decide) (Int.ofNat_le.mpr (Nat.le_of_lt (Nat.lt_of_not_le h)))]; rfl
  have h50 : ((ns.take 50).map V.int).length ≤ 50 := by rw [List.length_map]; exact List.length_take_le _ _
  have hlen : ((ns.take 50).map V.int).length ≤ 1000000 := Nat.le_trans h50 (by decide)
  have cm := comp_map (G := fun H => H[2]? = some (.list ((ns.take 50).map .int))) (i := 3) (fe := f_law_e4) (x := Str.ofString "cell") (fun x : Int => V.int ((if x < 0 then -x else x).fmod 10009)) V.int (fun a m H => e_bin (e_call (e_cons (e_var l_hit) e_nil) bAbs_i) e_c (oMod_ok (by decide))) (ns.take 50) [] [.frz o (ns.map .int), .dictS [], .list ((ns.take 50).map .int), .list []] [] (fun ys => rfl) rfl (by rw [List.length_map] at h50; exact Nat.le_trans (Nat.le_of_eq (Nat.zero_add _)) (Nat.le_trans h50 (by decide)))
  generalize hX : (ns.take 50).map V.int = X at hc hlen cm
  have hY : [] ++ (ns.take 50).map (fun x : Int => V.int ((if x < 0 then -x else x).fmod 10009)) = ((ns.take 50).map fun x : Int => ((if x < 0 then -x else x).fmod 10009)).map .int := by rw [List.map_map]; rfl
  rw [hY] at cm
  generalize ((ns.take 50).map fun x : Int => ((if x < 0 then -x else x).fmod 10009)).map V.int = Y at cm ⊢
  clear hX hY hl h50
  have hs : fSliceZ (fVar (Str.ofString "script")) (fC (.int 50)) [(Str.ofString "script", .ref 0)] [.frz o (ns.map .int), .dictS []] = newL X [.frz o (ns.map .int), .dictS []] := by
    show (if (ns.map V.int).length ≤ 1000000 then newL (cut (ns.map V.int) none (some 50)) _ else .bad) = _
    rw [if_pos (Nat.le_trans hml (by decide)), hc]
  have hC : fComp [] (fIter (fSliceZ (fVar (Str.ofString "script")) (fC (.int 50)))) (vName (Str.ofString "cell")) (fC (.bool true)) f_law_e4 [(Str.ofString "script", .ref 0)] [.frz o (ns.map .int), .dictS []] = .ok (.ref 3) [.frz o (ns.map .int), .dictS [], .list X, .list Y] := by
    unfold fComp fIter
    rw [hs, newL_ok hlen]
    exact congrArg (fun r : Out _ => r.bind fun _ H2 => Out.ok (V.ref 3) H2) cm
  have hA : stA [(Str.ofString "script", .ref 0)] [.frz o (ns.map .int)] = fAsgE (fTup (fCons (fDictS (fCons (fC (.str (Str.ofString "cells"))) (fCons (fun _ _ => .ok (.ref 3) [.frz o (ns.map .int), .dictS [], .list X, .list Y]) (fCons (fC (.str (Str.ofString "turn"))) (fCons (fC (.int 0)) (fNil)))))) (fCons (fCall (fMake 400 F_Bank_init) (fNil)) (fNil)))) (fSwap [Str.ofString "hat", Str.ofString "bank"]) [(Str.ofString "script", .ref 0)] [.frz o (ns.map .int)] :=
    congrArg (fun r : Out V => fAsgE (fTup (fCons (fDictS (fCons (fC (.str (Str.ofString "cells"))) (fCons (fun _ _ => r) (fCons (fC (.str (Str.ofString "turn"))) (fCons (fC (.int 0)) (fNil)))))) (fCons (fCall (fMake 400 F_Bank_init) (fNil)) (fNil)))) (fSwap [Str.ofString "hat", Str.ofString "bank"]) [(Str.ofString "script", .ref 0)] [.frz o (ns.map .int)]) hC
  rw [hA]
  refine start_of (n := 21) ?_ ?_ ?_ ?_ ?_ ?_ ?_ ?_
  all_goals kernel_rfl
theorem laps {h c rd : Nat} {cs : List Int} (items : List V) : ∀ (m : Fm) (H : Hp) (t : Int), Hat H h c cs t → Rdr H rd → t + 30 * items.length ≤ 800000 → m.lookup (Str.ofString "hat") = some (.ref h) → m.lookup (Str.ofString "reader") = some (.ref rd) →
    ∃ (m' : Fm) (H' : Hp), fFor (fun _ => True) (fSet (Str.ofString "lap")) f_law_b3 items m H = .ok .next m' H' ∧ Step h H H' ∧ Rdr H' rd ∧ m'.lookup (Str.ofString "reader") = some (.ref rd) := by
  induction items with
  | nil => exact fun m H t _ R _ _ m2 => ⟨m, H, fFor_n (G := fun _ => True) trivial, Step.refl h H, R, m2⟩
  | cons v r ih =>
    intro m H t X R ht m1 m2
    have ht1 : t + 30 * ((r.length + 1 : Nat) : Int) = t + 30 + 30 * (r.length : Int) := by rw [Int.natCast_add, Int.mul_add, Int.add_comm (30 * _), ← Int.add_assoc]; rfl
    rw [List.length_cons, ht1] at ht
    have ht0 : t + 30 ≤ 800000 := Int.le_trans (Int.le_add_of_nonneg_right (Int.mul_nonneg (by decide) (Int.natCast_nonneg _))) ht
    obtain ⟨m', H', t', fl, e, hfl, w1, w2, s, X', R', b⟩ := lap_body (m := (Str.ofString "lap", v) :: m) X R (by clear ht ht1; omega) ((l_skip (by decide)).trans m1) ((l_skip (by decide)).trans m2)
    obtain ⟨m'', H'', e', s', R'', w'⟩ := ih m' H' t' X' R' (Int.le_trans (Int.add_le_add_right b _) ht) w1 w2
    refine ⟨m'', H'', ?_, s.trans s', R'', w'⟩
    rcases hfl with rfl | rfl
    · exact (f_next (G := fun _ => True) trivial s_set e).trans e'
    · exact (f_cont (G := fun _ => True) trivial s_set e).trans e'
end MP
namespace MP

theorem plain (ns : List Int) (o : Obj) (hl : ns.length ≤ 63) : ∃ H', F_law [.ref 0] [.frz o (ns.map .int)] = .ok (.bool true) H' ∧ H'[0]? = some (.frz o (ns.map .int)) := by
  refine Classical.byContradiction fun K => ?_
  obtain ⟨fl, m, H, e, rfl, l1, ⟨rd, fs, l2, g2, gf⟩, h0, h1, h3⟩ := (law_start (o := o) hl).ex
  have X : Hat H 1 3 ((ns.take 50).map fun x : Int => ((if x < 0 then -x else x).fmod 10009)) 0 := ⟨h1, h3, by rw [List.length_map]; exact Nat.le_trans (List.length_take_le _ _) (by decide), Int.le_refl 0⟩
  have R : Rdr H rd := ⟨fs, g2, gf⟩
  obtain ⟨m', H', e2, s2, R2, l3⟩ := laps (rangeV 0 3) m H 0 X R (by rw [show (rangeV 0 3).length = 3 from rfl]; decide) l1 l2
  obtain ⟨H3, e3, x3, g3⟩ := newL_ex (xs := [.tup [.str (Str.ofString "sym"), .str (Str.ofString "!")]]) H' (by decide)
  obtain ⟨H4, e4, x4, g4⟩ := newL_ex (xs := []) H3 (Nat.zero_le _)
  obtain ⟨H5, e5, x5⟩ := told_short ((R2.ext x3).ext x4) (x4.get g3) g4
  refine K ⟨H5, ?_, ((x3.trans x4).trans x5).get (s2.2 0 _ (by decide) h0)⟩
  have ef : f_law [(Str.ofString "script", .ref 0)] [.frz o (ns.map .int)] = _ := (show f_law = fSeq stA (fSeq stB _) from rfl) ▸ fSeq2
  rw [e] at ef
  clear X R x3 x4 x5 g3 g4 R2 s2 h0 h1 h3 g2 gf e l1 l2 hl K
  refine d_ret (m := m') [(Str.ofString "script", .ref 0)] ⟨rfl, rfl⟩ (ef.trans ?_)
  refine (s_ok _ _ _ _).trans (k_next (s_seqK (s_for (i_rng (vs := [.int 3]) ?_ (i_range (by decide))) e2) (k_next (s_seqK (s_ret (v := .bool true) (H1 := H5) ?_) k_ret))))
  · ((repeat' with_reducible (first | exact s_set | exact e_nil | exact e_c | exact s_skip | apply e_cons | apply e_var | apply e_call | apply e_sub | apply e_bin | apply e_list | apply e_tup | (apply s_seq_exc; apply r_exc) | apply s_seqK | apply s_asg | apply s_if | apply s_ret | apply s_expr | apply t_ok | apply e_meth | apply e_or | apply e_and | apply e_ite | apply e_not | apply e_slice | apply e_neg | apply s_for | apply i_rng | apply i_range | apply i_range2 | exact s_swap2 | exact k_cont | exact k_ret | exact n_none | exact n_ref | exact n_tup | apply c_t | apply c_f | apply c_nt | apply c_nf | apply k_next | assumption | exact it0 | exact it1 | exact ne_f | (apply ne_t; first | assumption | kernel_rfl) | exact eq_t | exact eqi_t | (apply eq_f; first | assumption | kernel_rfl) | (apply eqi_f; first | assumption | kernel_rfl) | (apply lt_t; first | assumption | decide) | (apply lt_f; first | assumption | decide) | (apply le_t; first | assumption | decide) | (apply le_f; first | assumption | decide) | exact oAdd_ii | exact oSub_ii | apply b_append | exact isL_list | exact l_hit | (apply l_miss; kernel_rfl) | exact fFor_n trivial | rfl | (show Nat.ble _ _ = true; kernel_rfl))))
  · ((repeat' with_reducible (first | exact s_set | exact e_nil | exact e_c | exact s_skip | apply e_cons | apply e_var | apply e_call | apply e_sub | apply e_bin | apply e_list | apply e_tup | (apply s_seq_exc; apply r_exc) | apply s_seqK | apply s_asg | apply s_if | apply s_ret | apply s_expr | apply t_ok | apply e_meth | apply e_or | apply e_and | apply e_ite | apply e_not | apply e_slice | apply e_neg | apply s_for | apply i_rng | apply i_range | apply i_range2 | exact s_swap2 | exact k_cont | exact k_ret | exact n_none | exact n_ref | exact n_tup | apply c_t | apply c_f | apply c_nt | apply c_nf | apply k_next | assumption | exact it0 | exact it1 | exact ne_f | (apply ne_t; first | assumption | kernel_rfl) | exact eq_t | exact eqi_t | (apply eq_f; first | assumption | kernel_rfl) | (apply eqi_f; first | assumption | kernel_rfl) | (apply lt_t; first | assumption | decide) | (apply lt_f; first | assumption | decide) | (apply le_t; first | assumption | decide) | (apply le_f; first | assumption | decide) | exact oAdd_ii | exact oSub_ii | apply b_append | exact isL_list | exact l_hit | (apply l_miss; kernel_rfl) | exact fFor_n trivial | rfl | (show Nat.ble _ _ = true; kernel_rfl))))
end MP
end

namespace MP
set_option Elab.async true
set_option tactic.hygienic true
set_option maxHeartbeats 16000000 in
theorem whole : PySem.Challenge.rw_qz0036_04.Holds := by
  (w_on; o_law; k_head; (case hw => w_witness2))
  have walked : ∀ {C : Cx} {P : Params} {d : Nat} (X : Law (_root_.MP.whole.heap_1_39 P) 67 C), XC C (d + 5) (.ref 895) F_law := by
    have rz : ∀ {C : Cx} {P : Params} (X : Law (_root_.MP.whole.heap_1_39 P) 67 C), RaiseOk C := by
      intro C P X
      exact (X.raises (sm := 47) (fI := 37) (ce := 25) (cd := 36) rfl rfl (fun _ _ => rfl) rfl rfl rfl rfl rfl rfl rfl rfl rfl rfl rfl rfl (by rfl) rfl (by rfl) (by decide) rfl rfl rfl (by rfl) (by rfl) (by rfl) (by rfl) (by rfl) (by rfl) (by rfl) rfl)
    have k_BoolBank : ∀ {C : Cx} {P : Params} (X : Law (_root_.MP.whole.heap_1_39 P) 67 C), ClsOk C 400 := by
      intro C P X
      exact (X.cls rfl rfl rfl rfl)
    have k_FunEntry : ∀ {C : Cx} {P : Params} (X : Law (_root_.MP.whole.heap_1_39 P) 67 C), ClsOk C 427 := by
      intro C P X
      exact (X.cls rfl rfl rfl rfl)
    have k_Symbols : ∀ {C : Cx} {P : Params} (X : Law (_root_.MP.whole.heap_1_39 P) 67 C), ClsOk C 558 := by
      intro C P X
      exact (X.cls rfl rfl rfl rfl)
    have k_SortReader : ∀ {C : Cx} {P : Params} (X : Law (_root_.MP.whole.heap_1_39 P) 67 C), ClsOk C 682 := by
      intro C P X
      exact (X.cls rfl rfl rfl rfl)
    have k_CoreElaborator : ∀ {C : Cx} {P : Params} (X : Law (_root_.MP.whole.heap_1_39 P) 67 C), ClsOk C 846 := by
      intro C P X
      exact (X.cls rfl rfl rfl rfl)
    have g_BOOL : ∀ {C : Cx} {P : Params} (X : Law (_root_.MP.whole.heap_1_39 P) 67 C), GlobV C (Str.ofString "BOOL") (.int 0) := by
      intro C P X
      exact (⟨_, (X.mg _).trans rfl, fun _ _ _ _ => .int _ _⟩)
    have g_INT : ∀ {C : Cx} {P : Params} (X : Law (_root_.MP.whole.heap_1_39 P) 67 C), GlobV C (Str.ofString "INT") (.int 1) := by
      intro C P X
      exact (⟨_, (X.mg _).trans rfl, fun _ _ _ _ => .int _ _⟩)
    have c_Bank_make : ∀ {C : Cx} {P : Params} {d : Nat} (X : Law (_root_.MP.whole.heap_1_39 P) 67 C), XC C (d + 1) (.ref 231) F_Bank_make := by
      intro C P d X
      have R := rz X
      refine xC_K X.O (X.look rfl) rfl (X.look rfl) rfl rfl rfl (bind5 fun a b c e f => rfl) rfl rfl rfl rfl ?_
      exact (xB_cons (xS_assign (xE_tuple (xL_cons rfl (xE_var rfl) (xL_cons rfl (xE_var rfl) (xL_cons rfl (xE_var rfl) (xL_cons rfl (xE_var rfl) xL_nil))))) (xA_name rfl) (fun _ => rfl) (fun _ => rfl) (fun _ => rfl))
        (xB_cons (xS_assign (xE_meth (X.x_attr (k_BoolBank X) rfl (xE_var rfl) (fun _ => rfl)) xM_getT keeps_builtin rfl (xF_getT X.O) (xL_cons rfl (xE_var rfl) (xL_cons rfl xE_int xL_nil)) (fun _ => rfl) rfl rfl) (xA_name rfl) (fun _ => rfl) (fun _ => rfl) (fun _ => rfl))
        (xB_cons (xS_if (xT_cmp (xE_var rfl) xE_int xO_eq rfl) (xB_cons (xS_assign (xE_call X.O (X.bi rfl rfl (by decide) rfl) keeps_builtin rfl xF_len (xL_cons rfl (X.x_attr (k_BoolBank X) rfl (xE_var rfl) (fun _ => rfl)) xL_nil)) (xA_name rfl) (fun _ => rfl) (fun _ => rfl) (fun _ => rfl))
        (xB_cons (xS_expr (xE_meth (X.x_attr (k_BoolBank X) rfl (xE_var rfl) (fun _ => rfl)) xM_append keeps_builtin rfl xF_append (xL_cons rfl (xE_var rfl) xL_nil) (fun _ => rfl) rfl rfl) (fun _ _ => rfl))
        (xB_cons (xS_expr (xE_meth (X.x_attr (k_BoolBank X) rfl (xE_var rfl) (fun _ => rfl)) xM_append keeps_builtin rfl xF_append (xL_cons rfl (xE_var rfl) xL_nil) (fun _ => rfl) rfl rfl) (fun _ _ => rfl))
        (xB_cons (xS_expr (xE_meth (X.x_attr (k_BoolBank X) rfl (xE_var rfl) (fun _ => rfl)) xM_append keeps_builtin rfl xF_append (xL_cons rfl (xE_var rfl) xL_nil) (fun _ => rfl) rfl rfl) (fun _ _ => rfl))
        (xB_cons (xS_expr (xE_meth (X.x_attr (k_BoolBank X) rfl (xE_var rfl) (fun _ => rfl)) xM_append keeps_builtin rfl xF_append (xL_cons rfl (xE_var rfl) xL_nil) (fun _ => rfl) rfl rfl) (fun _ _ => rfl))
        (xB_cons (xS_assign (xE_var rfl) (xA_sub (X.x_attr (k_BoolBank X) rfl (xE_var rfl) (fun _ => rfl)) (xE_var rfl)) (fun _ => rfl) (fun _ => rfl) (fun _ => rfl))
        xB_nil)))))) xB_nil)
        (xB_cons (xS_ret (xE_var rfl))
        xB_nil))))
    have c_Bank_init : ∀ {C : Cx} {P : Params} {d : Nat} (X : Law (_root_.MP.whole.heap_1_39 P) 67 C), XC C (d + 2) (.ref 98) F_Bank_init := by
      intro C P d X
      have R := rz X
      refine xC_K X.O (X.look rfl) rfl (X.look rfl) rfl rfl rfl (bind1 fun a => rfl) rfl rfl rfl rfl ?_
      exact (xB_cons (xS_assign (xE_list (xL_cons rfl xE_str (xL_cons rfl xE_str (xL_cons rfl xE_str xL_nil)))) (X.x_setAttr (k_BoolBank X) rfl (xE_var rfl)) (fun _ => rfl) (fun _ => rfl) (fun _ => rfl))
        (xB_cons (xS_assign (xE_list (xL_cons rfl xE_int (xL_cons rfl xE_int (xL_cons rfl xE_int xL_nil)))) (X.x_setAttr (k_BoolBank X) rfl (xE_var rfl)) (fun _ => rfl) (fun _ => rfl) (fun _ => rfl))
        (xB_cons (xS_assign (xE_list xL_nil) (X.x_setAttr (k_BoolBank X) rfl (xE_var rfl)) (fun _ => rfl) (fun _ => rfl) (fun _ => rfl))
        (xB_cons (xS_assign (xE_list xL_nil) (X.x_setAttr (k_BoolBank X) rfl (xE_var rfl)) (fun _ => rfl) (fun _ => rfl) (fun _ => rfl))
        (xB_cons (xS_assign (xE_list xL_nil) (X.x_setAttr (k_BoolBank X) rfl (xE_var rfl)) (fun _ => rfl) (fun _ => rfl) (fun _ => rfl))
        (xB_cons (xS_assign xE_int (X.x_setAttr (k_BoolBank X) rfl (xE_var rfl)) (fun _ => rfl) (fun _ => rfl) (fun _ => rfl))
        (xB_cons (xS_assign (xE_list (xL_cons rfl xE_str xL_nil)) (X.x_setAttr (k_BoolBank X) rfl (xE_var rfl)) (fun _ => rfl) (fun _ => rfl) (fun _ => rfl))
        (xB_cons (xS_assign (xE_list (xL_cons rfl (xE_tuple xL_nil) xL_nil)) (X.x_setAttr (k_BoolBank X) rfl (xE_var rfl)) (fun _ => rfl) (fun _ => rfl) (fun _ => rfl))
        (xB_cons (xS_assign (xE_list (xL_cons rfl (xE_glob X.O rfl (g_BOOL X)) xL_nil)) (X.x_setAttr (k_BoolBank X) rfl (xE_var rfl)) (fun _ => rfl) (fun _ => rfl) (fun _ => rfl))
        (xB_cons (xS_assign (xE_list (xL_cons rfl xE_int xL_nil)) (X.x_setAttr (k_BoolBank X) rfl (xE_var rfl)) (fun _ => rfl) (fun _ => rfl) (fun _ => rfl))
        (xB_cons (xS_assign xE_dict0T (X.x_setAttr (k_BoolBank X) rfl (xE_var rfl)) (fun _ => rfl) (fun _ => rfl) (fun _ => rfl))
        (xB_cons (xS_assign (X.x_meth (k_BoolBank X) (xE_var rfl) rfl rfl rfl rfl (c_Bank_make X).sim (xL_cons rfl xE_str (xL_cons rfl (xE_tuple xL_nil) (xL_cons rfl (xE_glob X.O rfl (g_BOOL X)) (xL_cons rfl xE_int xL_nil)))) (fun _ => rfl) rfl rfl) (X.x_setAttr (k_BoolBank X) rfl (xE_var rfl)) (fun _ => rfl) (fun _ => rfl) (fun _ => rfl))
        (xB_cons (xS_assign (X.x_meth (k_BoolBank X) (xE_var rfl) rfl rfl rfl rfl (c_Bank_make X).sim (xL_cons rfl xE_str (xL_cons rfl (xE_tuple xL_nil) (xL_cons rfl (xE_glob X.O rfl (g_BOOL X)) (xL_cons rfl xE_int xL_nil)))) (fun _ => rfl) rfl rfl) (X.x_setAttr (k_BoolBank X) rfl (xE_var rfl)) (fun _ => rfl) (fun _ => rfl) (fun _ => rfl))
        xB_nil)))))))))))))
    have c_Symbols_clear : ∀ {C : Cx} {P : Params} {d : Nat} (X : Law (_root_.MP.whole.heap_1_39 P) 67 C), XC C (d + 1) (.ref 452) F_Symbols_clear := by
      intro C P d X
      have R := rz X
      refine xC_K X.O (X.look rfl) rfl (X.look rfl) rfl rfl rfl (bind1 fun a => rfl) rfl rfl rfl rfl ?_
      exact (xB_cons (xS_assign xE_dict0S (X.x_setAttr (k_Symbols X) rfl (xE_var rfl)) (fun _ => rfl) (fun _ => rfl) (fun _ => rfl))
        (xB_cons (xS_assign xE_dict0S (X.x_setAttr (k_Symbols X) rfl (xE_var rfl)) (fun _ => rfl) (fun _ => rfl) (fun _ => rfl))
        (xB_cons (xS_assign (xE_list xL_nil) (X.x_setAttr (k_Symbols X) rfl (xE_var rfl)) (fun _ => rfl) (fun _ => rfl) (fun _ => rfl))
        (xB_cons (xS_assign (xE_list xL_nil) (X.x_setAttr (k_Symbols X) rfl (xE_var rfl)) (fun _ => rfl) (fun _ => rfl) (fun _ => rfl))
        (xB_cons (xS_assign (xE_list xL_nil) (X.x_setAttr (k_Symbols X) rfl (xE_var rfl)) (fun _ => rfl) (fun _ => rfl) (fun _ => rfl))
        (xB_cons (xS_assign (xE_glob X.O rfl (g_INT X)) (X.x_setAttr (k_Symbols X) rfl (xE_var rfl)) (fun _ => rfl) (fun _ => rfl) (fun _ => rfl))
        xB_nil))))))
    have c_Symbols_init : ∀ {C : Cx} {P : Params} {d : Nat} (X : Law (_root_.MP.whole.heap_1_39 P) 67 C), XC C (d + 2) (.ref 445) F_Symbols_init := by
      intro C P d X
      have R := rz X
      refine xC_K X.O (X.look rfl) rfl (X.look rfl) rfl rfl rfl (bind2 fun a b => rfl) rfl rfl rfl rfl ?_
      exact (xB_cons (xS_assign (xE_var rfl) (X.x_setAttr (k_Symbols X) rfl (xE_var rfl)) (fun _ => rfl) (fun _ => rfl) (fun _ => rfl))
        (xB_cons (xS_expr (X.x_meth (k_Symbols X) (xE_var rfl) rfl rfl rfl rfl (c_Symbols_clear X).sim xL_nil (fun _ => rfl) rfl rfl) (fun _ _ => rfl))
        xB_nil))
    have c_SortReader_init : ∀ {C : Cx} {P : Params} {d : Nat} (X : Law (_root_.MP.whole.heap_1_39 P) 67 C), XC C (d + 1) (.ref 625) F_SortReader_init := by
      intro C P d X
      have R := rz X
      refine xC_K X.O (X.look rfl) rfl (X.look rfl) rfl rfl rfl (bind3 fun a b c => rfl) rfl rfl rfl rfl ?_
      exact (xB_cons (xS_assign (xE_var rfl) (X.x_setAttr (k_SortReader X) rfl (xE_var rfl)) (fun _ => rfl) (fun _ => rfl) (fun _ => rfl))
        (xB_cons (xS_assign (xE_var rfl) (X.x_setAttr (k_SortReader X) rfl (xE_var rfl)) (fun _ => rfl) (fun _ => rfl) (fun _ => rfl))
        xB_nil))
    have c_CoreElaborator_init : ∀ {C : Cx} {P : Params} {d : Nat} (X : Law (_root_.MP.whole.heap_1_39 P) 67 C), XC C (d + 3) (.ref 700) F_CoreElaborator_init := by
      intro C P d X
      have R := rz X
      refine xC_K X.O (X.look rfl) rfl (X.look rfl) rfl rfl rfl (bind3 fun a b c => rfl) rfl rfl rfl rfl ?_
      exact (xB_cons (xS_assign (xE_var rfl) (X.x_setAttr (k_CoreElaborator X) rfl (xE_var rfl)) (fun _ => rfl) (fun _ => rfl) (fun _ => rfl))
        (xB_cons (xS_assign (xE_var rfl) (X.x_setAttr (k_CoreElaborator X) rfl (xE_var rfl)) (fun _ => rfl) (fun _ => rfl) (fun _ => rfl))
        (xB_cons (xS_assign (xE_call X.O (X.fn rfl rfl) (X.keep rfl) rfl (X.x_make rfl rfl rfl (c_SortReader_init X)).sim (xL_cons rfl (xE_var rfl) (xL_cons rfl (xE_var rfl) xL_nil))) (X.x_setAttr (k_CoreElaborator X) rfl (xE_var rfl)) (fun _ => rfl) (fun _ => rfl) (fun _ => rfl))
        xB_nil)))
    have c_name_of : ∀ {C : Cx} {P : Params} {d : Nat} (X : Law (_root_.MP.whole.heap_1_39 P) 67 C), XC C (d + 1) (.ref 590) F_name_of := by
      intro C P d X
      have R := rz X
      refine xC_K X.O (X.look rfl) rfl (X.look rfl) rfl rfl rfl (bind2 fun a b => rfl) rfl rfl rfl rfl ?_
      exact (xB_cons (xS_if (xT_cmp (xE_sub (xE_var rfl) xE_int (fun _ _ => rfl)) xE_str xO_ne rfl) (xB_cons (xS_raise X.O R rfl (X.exc rfl) rfl (xE_joined (xJ_cons (xE_fval (xE_var rfl)) (xJ_cons xE_str xJ_nil))))
        xB_nil) xB_nil)
        (xB_cons (xS_ret (xE_sub (xE_var rfl) xE_int (fun _ _ => rfl)))
        xB_nil))
    have c_CoreElaborator_names_noted : ∀ {C : Cx} {P : Params} {d : Nat} (X : Law (_root_.MP.whole.heap_1_39 P) 67 C), XC C (d + 2) (.ref 756) F_CoreElaborator_names_noted := by
      intro C P d X
      have R := rz X
      refine xC_K X.O (X.look rfl) rfl (X.look rfl) rfl rfl rfl (bind2 fun a b => rfl) rfl rfl rfl rfl ?_
      exact (xB_cons (xS_if (xT_cmp (xE_call X.O (X.bi rfl rfl (by decide) rfl) keeps_builtin rfl xF_len (xL_cons rfl (xE_var rfl) xL_nil)) xE_int xO_lt rfl) (xB_cons (xS_raise X.O R rfl (X.exc rfl) rfl xE_str)
        xB_nil) xB_nil)
        (xB_cons (xS_swap (xE_tuple (xL_cons rfl (xE_list xL_nil) (xL_cons rfl xE_int xL_nil))) (fun _ => rfl) (fun env he => by cases env; cases he; rfl) rfl)
        (xB_cons (xS_while 5000 (xT_cmp (xE_var rfl) (xE_call X.O (X.bi rfl rfl (by decide) rfl) keeps_builtin rfl xF_len (xL_cons rfl (xE_var rfl) xL_nil)) xO_lt rfl) (xB_cons (xS_if (xT_cmp (xE_sub (xE_sub (xE_var rfl) (xE_var rfl) (fun _ _ => rfl)) xE_int (fun _ _ => rfl)) xE_str xO_ne rfl) (xB_cons (xS_raise X.O R rfl (X.exc rfl) rfl xE_str)
        xB_nil) xB_nil)
        (xB_cons (xS_assign (xE_and2 (xE_cmp (xE_bin (xE_var rfl) xE_int xO_add) (xE_call X.O (X.bi rfl rfl (by decide) rfl) keeps_builtin rfl xF_len (xL_cons rfl (xE_var rfl) xL_nil)) xO_lt rfl) (xE_cmp (xE_sub (xE_sub (xE_var rfl) (xE_bin (xE_var rfl) xE_int xO_add) (fun _ _ => rfl)) xE_int (fun _ _ => rfl)) xE_str xO_ne rfl)) (xA_name rfl) (fun _ => rfl) (fun _ => rfl) (fun _ => rfl))
        (xB_cons (xS_if (xT_cmp (xE_sub (xE_sub (xE_var rfl) (xE_var rfl) (fun _ _ => rfl)) xE_int (fun _ _ => rfl)) xE_str xO_eq rfl) (xB_cons (xS_if (xT_not (xT_val (xE_var rfl) (fun _ _ => rfl))) (xB_cons (xS_raise X.O R rfl (X.exc rfl) rfl xE_str)
        xB_nil) xB_nil)
        (xB_cons (xS_expr (xE_meth (xE_var rfl) xM_append keeps_builtin rfl xF_append (xL_cons rfl (xE_call X.O (X.fn rfl rfl) (X.keep rfl) rfl (c_name_of X).sim (xL_cons rfl (xE_sub (xE_var rfl) (xE_bin (xE_var rfl) xE_int xO_add) (fun _ _ => rfl)) (xL_cons rfl xE_str xL_nil))) xL_nil) (fun _ => rfl) rfl rfl) (fun _ _ => rfl))
        xB_nil)) xB_nil)
        (xB_cons (xS_assign (xE_ifexp (xT_val (xE_var rfl) (fun _ _ => rfl)) (xE_bin (xE_var rfl) xE_int xO_add) (xE_bin (xE_var rfl) xE_int xO_add)) (xA_name rfl) (fun _ => rfl) (fun _ => rfl) (fun _ => rfl))
        xB_nil)))))
        (xB_cons (xS_ret (xE_var rfl))
        xB_nil))))
    have c_law_deal : ∀ {C : Cx} {P : Params} {d : Nat} (X : Law (_root_.MP.whole.heap_1_39 P) 67 C), XC C (d + 1) (.ref 857) F_law_deal := by
      intro C P d X
      have R := rz X
      refine xC_K X.O (X.look rfl) rfl (X.look rfl) rfl rfl rfl (bind2 fun a b => rfl) rfl rfl rfl rfl ?_
      exact (xB_cons (xS_augSub (xE_var rfl) xE_str xE_int (fun _ _ _ => rfl))
        (xB_cons (xS_if (xT_cmp (xE_sub (xE_var rfl) xE_str (fun _ _ => rfl)) (xE_call X.O (X.bi rfl rfl (by decide) rfl) keeps_builtin rfl xF_len (xL_cons rfl (xE_sub (xE_var rfl) xE_str (fun _ _ => rfl)) xL_nil)) xO_le rfl) (xB_cons (xS_ret (xE_bin (xE_sub (xE_sub (xE_var rfl) xE_str (fun _ _ => rfl)) (xE_bin (xE_sub (xE_var rfl) xE_str (fun _ _ => rfl)) xE_int xO_sub) (fun _ _ => rfl)) (xE_var rfl) xO_mod))
        xB_nil) xB_nil)
        (xB_cons (xS_ret (xE_bin (xE_bin (xE_bin (xE_bin (xE_bin xE_int (xE_sub (xE_var rfl) xE_str (fun _ _ => rfl)) xO_mul) (xE_bin (xE_bin (xE_sub (xE_var rfl) xE_str (fun _ _ => rfl)) xE_int xO_sq) xE_int xO_div) xO_add) xE_int xO_add) xE_int xO_mod) (xE_var rfl) xO_mod))
        xB_nil)))
    have c_law_worth : ∀ {C : Cx} {P : Params} {d : Nat} (X : Law (_root_.MP.whole.heap_1_39 P) 67 C), XC C (d + 2) (.ref 864) F_law_worth := by
      intro C P d X
      have R := rz X
      refine xC_K X.O (X.look rfl) rfl (X.look rfl) rfl rfl rfl (bind1 fun a => rfl) rfl rfl rfl rfl ?_
      exact (xB_cons (xS_assign (xE_tuple (xL_cons rfl (xE_tuple (xL_cons rfl xE_str (xL_cons rfl xE_str xL_nil))) (xL_cons rfl (xE_tuple (xL_cons rfl xE_str (xL_cons rfl xE_str xL_nil))) (xL_cons rfl (xE_tuple (xL_cons rfl xE_str (xL_cons rfl xE_int xL_nil))) (xL_cons rfl (xE_tuple (xL_cons rfl xE_str (xL_cons rfl xE_str xL_nil))) (xL_cons rfl (xE_tuple (xL_cons rfl xE_str (xL_cons rfl (xE_tuple (xL_cons rfl (xE_tuple (xL_cons rfl xE_str (xL_cons rfl xE_str xL_nil))) xL_nil)) xL_nil))) (xL_cons rfl (xE_tuple (xL_cons rfl xE_str (xL_cons rfl xE_str xL_nil))) xL_nil))))))) (xA_name rfl) (fun _ => rfl) (fun _ => rfl) (fun _ => rfl))
        (xB_cons (xS_ret (xE_sub (xE_var rfl) (xE_call X.O (X.fn rfl rfl) (X.keep rfl) rfl (c_law_deal X).sim (xL_cons rfl (xE_var rfl) (xL_cons rfl xE_int xL_nil))) (fun _ _ => rfl)))
        xB_nil))
    have c_law_piece : ∀ {C : Cx} {P : Params} {d : Nat} (X : Law (_root_.MP.whole.heap_1_39 P) 67 C), XC C (d + 3) (.ref 871) F_law_piece := by
      intro C P d X
      have R := rz X
      refine xC_K X.O (X.look rfl) rfl (X.look rfl) rfl rfl rfl (bind1 fun a => rfl) rfl rfl rfl rfl ?_
      exact (xB_cons (xS_assign (xE_call X.O (X.fn rfl rfl) (X.keep rfl) rfl (c_law_deal X).sim (xL_cons rfl (xE_var rfl) (xL_cons rfl xE_int xL_nil))) (xA_name rfl) (fun _ => rfl) (fun _ => rfl) (fun _ => rfl))
        (xB_cons (xS_if (xT_cmp (xE_var rfl) xE_int xO_lt rfl) (xB_cons (xS_ret (xE_list (xL_cons rfl (xE_tuple (xL_cons rfl xE_str (xL_cons rfl xE_str xL_nil))) (xL_cons rfl (xE_tuple (xL_cons rfl xE_str (xL_cons rfl (xE_sub (xE_tuple (xL_cons rfl xE_str (xL_cons rfl xE_str (xL_cons rfl xE_str xL_nil)))) (xE_call X.O (X.fn rfl rfl) (X.keep rfl) rfl (c_law_deal X).sim (xL_cons rfl (xE_var rfl) (xL_cons rfl xE_int xL_nil))) (fun _ _ => rfl)) xL_nil))) xL_nil))))
        xB_nil) xB_nil)
        (xB_cons (xS_assign (xE_tuple (xL_cons rfl xE_str (xL_cons rfl (xE_sub (xE_tuple (xL_cons rfl xE_str (xL_cons rfl xE_str (xL_cons rfl xE_str xL_nil)))) (xE_call X.O (X.fn rfl rfl) (X.keep rfl) rfl (c_law_deal X).sim (xL_cons rfl (xE_var rfl) (xL_cons rfl xE_int xL_nil))) (fun _ _ => rfl)) xL_nil))) (xA_name rfl) (fun _ => rfl) (fun _ => rfl) (fun _ => rfl))
        (xB_cons (xS_if (xT_cmp (xE_var rfl) xE_int xO_lt rfl) (xB_cons (xS_ret (xE_ifexp (xT_cmp (xE_var rfl) xE_int xO_lt rfl) (xE_list (xL_cons rfl (xE_var rfl) xL_nil)) (xE_list (xL_cons rfl (xE_var rfl) (xL_cons rfl (xE_call X.O (X.fn rfl rfl) (X.keep rfl) rfl (c_law_worth X).sim (xL_cons rfl (xE_var rfl) xL_nil)) xL_nil)))))
        xB_nil) xB_nil)
        (xB_cons (xS_ret (xE_list (xL_cons rfl (xE_ifexp (xT_cmp (xE_call X.O (X.fn rfl rfl) (X.keep rfl) rfl (c_law_deal X).sim (xL_cons rfl (xE_var rfl) (xL_cons rfl xE_int xL_nil))) xE_int xO_eq rfl) (xE_call X.O (X.fn rfl rfl) (X.keep rfl) rfl (c_law_worth X).sim (xL_cons rfl (xE_var rfl) xL_nil)) (xE_tuple (xL_cons rfl xE_str (xL_cons rfl xE_str xL_nil)))) xL_nil)))
        xB_nil)))))
    have c_law_due : ∀ {C : Cx} {P : Params} {d : Nat} (X : Law (_root_.MP.whole.heap_1_39 P) 67 C), XC C (d + 1) (.ref 876) F_law_due := by
      intro C P d X
      have R := rz X
      refine xC_K X.O (X.look rfl) rfl (X.look rfl) rfl rfl rfl (bind1 fun a => rfl) rfl rfl rfl rfl ?_
      exact (xB_cons (xS_assign (xE_listzip X.O (X.bi rfl rfl (by decide) rfl) (X.bi rfl rfl (by decide) rfl) rfl (xL_cons rfl (xE_bin (xE_list (xL_cons rfl xE_none xL_nil)) (xE_var rfl) xO_add) (xL_cons rfl (xE_bin (xE_var rfl) (xE_list (xL_cons rfl xE_none xL_nil)) xO_add) xL_nil))) (xA_name rfl) (fun _ => rfl) (fun _ => rfl) (fun _ => rfl))
        (xB_cons (xS_for (xIt_seq (xE_var rfl)) (xA_tuple (xTs_cons rfl (xA_name rfl) (xTs_cons rfl (xA_name rfl) xTs_nil)) rfl) (xB_cons (xS_if (xT_bool (xAnd_cons (xT_cmp (xE_var rfl) xE_none xO_notNone rfl) (xAnd_cons (xT_cmp (xE_sub (xE_var rfl) xE_int (fun _ _ => rfl)) xE_str xO_ne rfl) (xAnd_one (xT_bool (xOr_cons (xT_cmp (xE_var rfl) xE_none xO_isNone rfl) (xOr_one (xT_cmp (xE_sub (xE_var rfl) xE_int (fun _ _ => rfl)) xE_str xO_ne rfl)))))))) (xB_cons (xS_ret xE_none)
        xB_nil) xB_nil)
        (xB_cons (xS_if (xT_bool (xAnd_cons (xT_cmp (xE_var rfl) (xE_tuple (xL_cons rfl xE_str (xL_cons rfl xE_str xL_nil))) xO_eq rfl) (xAnd_one (xT_bool (xOr_cons (xT_cmp (xE_var rfl) xE_none xO_isNone rfl) (xOr_one (xT_cmp (xE_sub (xE_var rfl) xE_int (fun _ _ => rfl)) xE_str xO_ne rfl))))))) (xB_cons (xS_ret xE_none)
        xB_nil) xB_nil)
        xB_nil)) (fun _ _ => rfl))
        (xB_cons (xS_ret (xE_ifexp (xT_cmp (xE_var rfl) (xE_list xL_nil) xO_ne rfl) (xE_comp (xIt_seq (xE_var rfl)) (xV_pair rfl rfl) (xW_one (xT_cmp (xE_var rfl) (xE_tuple (xL_cons rfl xE_str (xL_cons rfl xE_str xL_nil))) xO_eq rfl)) (xE_sub (xE_var rfl) xE_int (fun _ _ => rfl)) (fun _ _ => rfl) rfl) xE_none))
        xB_nil)))
    have c_law_told : ∀ {C : Cx} {P : Params} {d : Nat} (X : Law (_root_.MP.whole.heap_1_39 P) 67 C), XC C (d + 3) (.ref 883) F_law_told := by
      intro C P d X
      have R := rz X
      refine xC_K X.O (X.look rfl) rfl (X.look rfl) rfl rfl rfl (bind3 fun a b c => rfl) rfl rfl rfl rfl ?_
      exact (xB_cons (xS_try X.O R rfl (X.exc rfl) (xB_cons (xS_ret (X.x_meth (k_CoreElaborator X) (xE_var rfl) rfl rfl rfl rfl (c_CoreElaborator_names_noted X).sim (xL_cons rfl (xE_bin (xE_var rfl) (xE_var rfl) xO_add) xL_nil) (fun _ => rfl) rfl rfl))
        xB_nil) xX_none)
        xB_nil)
    have c_law_lots : ∀ {C : Cx} {P : Params} {d : Nat} (X : Law (_root_.MP.whole.heap_1_39 P) 67 C), XC C (d + 1) (.ref 890) F_law_lots := by
      intro C P d X
      have R := rz X
      refine xC_K X.O (X.look rfl) rfl (X.look rfl) rfl rfl rfl (bind1 fun a => rfl) rfl rfl rfl rfl ?_
      exact (xB_cons (xS_assign (xE_list xL_nil) (xA_name rfl) (fun _ => rfl) (fun _ => rfl) (fun _ => rfl))
        (xB_cons (xS_for (xIt_seq (xE_var rfl)) (xA_name rfl) (xB_cons (xS_if (xT_cmp (xE_sub (xE_var rfl) xE_int (fun _ _ => rfl)) xE_str xO_eq rfl) (xB_cons (xS_expr (xE_meth (xE_var rfl) xM_append keeps_builtin rfl xF_append (xL_cons rfl (xE_list xL_nil) xL_nil) (fun _ => rfl) rfl rfl) (fun _ _ => rfl))
        xB_nil) xB_nil)
        (xB_cons (xS_expr (xE_meth (xE_sub (xE_var rfl) (xE_neg xE_int) (fun _ _ => rfl)) xM_append keeps_builtin rfl xF_append (xL_cons rfl (xE_var rfl) xL_nil) (fun _ => rfl) rfl rfl) (fun _ _ => rfl))
        xB_nil)) (fun _ _ => rfl))
        (xB_cons (xS_ret (xE_var rfl))
        xB_nil)))
    have c_law : ∀ {C : Cx} {P : Params} {d : Nat} (X : Law (_root_.MP.whole.heap_1_39 P) 67 C), XC C (d + 5) (.ref 895) F_law := by
      intro C P d X
      have R := rz X
      refine xC_K X.O (X.look rfl) rfl (X.look rfl) rfl rfl rfl (bind1 fun a => rfl) rfl rfl rfl rfl ?_
      exact (xB_cons (xS_swap (xE_tuple (xL_cons rfl (xE_dictS2 (xPr_cons xE_str (xE_comp (xIt_seq (xE_sliceZ (xE_var rfl) xE_int (by first | exact ⟨true, fun _ _ => rfl⟩ | exact ⟨false, fun _ _ => rfl⟩))) (xV_name rfl) xW_nil (xE_bin (xE_call X.O (X.bi rfl rfl (by decide) rfl) keeps_builtin rfl xF_abs (xL_cons rfl (xE_var rfl) xL_nil)) xE_int xO_mod) (fun _ _ => rfl) rfl) (xPr_cons xE_str xE_int xPr_nil))) (xL_cons rfl (xE_call X.O (X.fn rfl rfl) (X.keep rfl) rfl (X.x_make rfl rfl rfl (c_Bank_init X)).sim xL_nil) xL_nil))) (fun _ => rfl) (fun env he => by cases env; cases he; rfl) rfl)
        (xB_cons (xS_assign (xE_call X.O (X.fn rfl rfl) (X.keep rfl) rfl (X.x_make rfl rfl rfl (c_CoreElaborator_init X)).sim (xL_cons rfl (xE_var rfl) (xL_cons rfl (xE_call X.O (X.fn rfl rfl) (X.keep rfl) rfl (X.x_make rfl rfl rfl (c_Symbols_init X)).sim (xL_cons rfl (xE_var rfl) xL_nil)) xL_nil))) (xA_name rfl) (fun _ => rfl) (fun _ => rfl) (fun _ => rfl))
        (xB_cons (xS_for (xIt_range X.O (X.bi rfl rfl (by decide) rfl) rfl (xL_cons rfl xE_int xL_nil)) (xA_name rfl) (xB_cons (xS_swap (xE_tuple (xL_cons rfl (xE_list (xL_cons rfl (xE_sub (xE_tuple (xL_cons rfl (xE_tuple (xL_cons rfl xE_str (xL_cons rfl xE_str xL_nil))) (xL_cons rfl (xE_tuple (xL_cons rfl xE_str (xL_cons rfl xE_str xL_nil))) xL_nil))) (xE_call X.O (X.fn rfl rfl) (X.keep rfl) rfl (c_law_deal X).sim (xL_cons rfl (xE_var rfl) (xL_cons rfl xE_int xL_nil))) (fun _ _ => rfl)) (xL_cons rfl (xE_call X.O (X.fn rfl rfl) (X.keep rfl) rfl (c_law_worth X).sim (xL_cons rfl (xE_var rfl) xL_nil)) xL_nil))) (xL_cons rfl (xE_list xL_nil) xL_nil))) (fun _ => rfl) (fun env he => by cases env; cases he; rfl) rfl)
        (xB_cons (xS_for (xIt_range X.O (X.bi rfl rfl (by decide) rfl) rfl (xL_cons rfl (xE_call X.O (X.fn rfl rfl) (X.keep rfl) rfl (c_law_deal X).sim (xL_cons rfl (xE_var rfl) (xL_cons rfl xE_int xL_nil))) xL_nil)) (xA_name rfl) (xB_cons (xS_assign (xE_bin (xE_var rfl) (xE_call X.O (X.fn rfl rfl) (X.keep rfl) rfl (c_law_piece X).sim (xL_cons rfl (xE_var rfl) xL_nil)) xO_add) (xA_name rfl) (fun _ => rfl) (fun _ => rfl) (fun _ => rfl))
        xB_nil) (fun _ _ => rfl))
        (xB_cons (xS_assign (xE_call X.O (X.fn rfl rfl) (X.keep rfl) rfl (c_law_due X).sim (xL_cons rfl (xE_var rfl) xL_nil)) (xA_name rfl) (fun _ => rfl) (fun _ => rfl) (fun _ => rfl))
        (xB_cons (xS_if (xT_bool (xOr_cons (xT_cmp (xE_call X.O (X.fn rfl rfl) (X.keep rfl) rfl (c_law_told X).sim (xL_cons rfl (xE_var rfl) (xL_cons rfl (xE_var rfl) (xL_cons rfl (xE_var rfl) xL_nil)))) (xE_var rfl) xO_ne rfl) (xOr_one (xT_cmp (xE_call X.O (X.fn rfl rfl) (X.keep rfl) rfl (c_law_told X).sim (xL_cons rfl (xE_var rfl) (xL_cons rfl (xE_list (xL_cons rfl (xE_tuple (xL_cons rfl xE_str (xL_cons rfl xE_int xL_nil))) (xL_cons rfl (xE_tuple (xL_cons rfl xE_str (xL_cons rfl xE_str xL_nil))) xL_nil))) (xL_cons rfl (xE_var rfl) xL_nil)))) (xE_var rfl) xO_ne rfl)))) (xB_cons (xS_ret xE_bool)
        xB_nil) xB_nil)
        (xB_cons (xS_if (xT_cmp (xE_var rfl) xE_none xO_isNone rfl) (xB_cons xS_continue
        xB_nil) xB_nil)
        (xB_cons (xS_assign (xE_call X.O (X.fn rfl rfl) (X.keep rfl) rfl (c_law_lots X).sim (xL_cons rfl (xE_var rfl) xL_nil)) (xA_name rfl) (fun _ => rfl) (fun _ => rfl) (fun _ => rfl))
        (xB_cons (xS_for (xIt_range X.O (X.bi rfl rfl (by decide) rfl) rfl (xL_cons rfl xE_int (xL_cons rfl (xE_call X.O (X.bi rfl rfl (by decide) rfl) keeps_builtin rfl xF_len (xL_cons rfl (xE_var rfl) xL_nil)) xL_nil))) (xA_name rfl) (xB_cons (xS_swap (xE_tuple (xL_cons rfl (xE_call X.O (X.fn rfl rfl) (X.keep rfl) rfl (c_law_told X).sim (xL_cons rfl (xE_var rfl) (xL_cons rfl (xE_var rfl) (xL_cons rfl (xE_call X.O (X.bi rfl rfl (by decide) rfl) keeps_builtin rfl xF_sum (xL_cons rfl (xE_slice (xE_var rfl) xP_none (xP_some (xE_var rfl)) xP_none (by first | exact ⟨true, fun _ _ => rfl⟩ | exact ⟨false, fun _ _ => rfl⟩)) (xL_cons rfl (xE_list xL_nil) xL_nil))) xL_nil)))) (xL_cons rfl (xE_call X.O (X.fn rfl rfl) (X.keep rfl) rfl (c_law_told X).sim (xL_cons rfl (xE_var rfl) (xL_cons rfl (xE_var rfl) (xL_cons rfl (xE_call X.O (X.bi rfl rfl (by decide) rfl) keeps_builtin rfl xF_sum (xL_cons rfl (xE_slice (xE_var rfl) (xP_some (xE_var rfl)) xP_none xP_none (by first | exact ⟨true, fun _ _ => rfl⟩ | exact ⟨false, fun _ _ => rfl⟩)) (xL_cons rfl (xE_list xL_nil) xL_nil))) xL_nil)))) xL_nil))) (fun _ => rfl) (fun env he => by cases env; cases he; rfl) rfl)
        (xB_cons (xS_if (xT_bool (xOr_cons (xT_cmp (xE_var rfl) xE_none xO_isNone rfl) (xOr_cons (xT_cmp (xE_var rfl) xE_none xO_isNone rfl) (xOr_one (xT_cmp (xE_bin (xE_var rfl) (xE_var rfl) xO_add) (xE_var rfl) xO_ne rfl))))) (xB_cons (xS_ret xE_bool)
        xB_nil) xB_nil)
        xB_nil)) (fun _ _ => rfl))
        (xB_cons (xS_if (xT_cmp (xE_call X.O (X.fn rfl rfl) (X.keep rfl) rfl (c_law_told X).sim (xL_cons rfl (xE_var rfl) (xL_cons rfl (xE_var rfl) (xL_cons rfl (xE_call X.O (X.bi rfl rfl (by decide) rfl) keeps_builtin rfl xF_sum (xL_cons rfl (xE_slice (xE_var rfl) xP_none xP_none (xP_some (xE_neg xE_int)) (by first | exact ⟨true, fun _ _ => rfl⟩ | exact ⟨false, fun _ _ => rfl⟩)) (xL_cons rfl (xE_list xL_nil) xL_nil))) xL_nil)))) (xE_slice (xE_var rfl) xP_none xP_none (xP_some (xE_neg xE_int)) (by first | exact ⟨true, fun _ _ => rfl⟩ | exact ⟨false, fun _ _ => rfl⟩)) xO_ne rfl) (xB_cons (xS_ret xE_bool)
        xB_nil) xB_nil)
        (xB_cons (xS_if (xT_cmp (xE_call X.O (X.fn rfl rfl) (X.keep rfl) rfl (c_law_told X).sim (xL_cons rfl (xE_var rfl) (xL_cons rfl (xE_var rfl) (xL_cons rfl (xE_bin (xE_var rfl) (xE_var rfl) xO_add) xL_nil)))) (xE_bin (xE_var rfl) (xE_var rfl) xO_add) xO_ne rfl) (xB_cons (xS_ret xE_bool)
        xB_nil) xB_nil)
        xB_nil))))))))) (fun _ _ => rfl))
        (xB_cons (xS_ret (xE_cmp (xE_call X.O (X.fn rfl rfl) (X.keep rfl) rfl (c_law_told X).sim (xL_cons rfl (xE_var rfl) (xL_cons rfl (xE_list (xL_cons rfl (xE_tuple (xL_cons rfl xE_str (xL_cons rfl xE_str xL_nil))) xL_nil)) (xL_cons rfl (xE_list xL_nil) xL_nil)))) xE_none xO_isNone rfl))
        xB_nil))))
    exact fun {C P d} X => c_law X
  k_fill
  intro w s₀ s₁ mg mb G Y fa o pm cd doc dV kV ho hd hcd hD hmg hg args vals as hpre hlay hrd hwl hlo
  have KX := kIn_of Y
  refine Ground.open G ?_
  intro T B D TE TW
  have hlo2 := hlo
  wrow_args hpre hlay hrd hwl hlo
  rename_i ns hs hlay0 hL1 hr1 hl2 x1 x2 a vs x3 hL ra w1 r0 hI hr hlen htrue
  have hn : ns.length ≤ 63 := by omega
  refine MP.join (K := _root_.MP.whole.heap_1_39 w.params) (sf := 67) KX T.g T.b T.nolimit T.builtins hmg hL hI ?_ (by rfl) rfl (by rfl) ⟨_, _, _, rfl, rfl⟩ (by rfl) (fun C X => (walked X).s) (fun o => MP.plain ns o hn) ?_
  · cases r0
    exact hlo2 _ (by simp)
  · intro s' hk hos hge
    exact ⟨.inl ⟨.bool true, .bool true, [], rfl, fun _ => rfl, .bool true, postW_of (by rfl) (by wtm_val) rfl, fun _ => ⟨by simp, by simp⟩⟩, .of_keep hk, hos, .of_eq (hge.trans hg)⟩
end MP
theorem PySem.Challenge.cw_qz0036_04_holds : PySem.Challenge.rw_qz0036_04.Holds :=
  MP.whole
