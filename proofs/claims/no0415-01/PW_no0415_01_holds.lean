import PyProof.Rows.All
import Wide.All
import OpenK.AllK
import Wide.FinOn
import KE.LcTurns
import KE.KLcTest
import KE.KSortTup
import Lean
import PySem.Challenge.RW_no0415_01
set_option Elab.async false
set_option linter.all false
section
open PySem.W.S
name_quick tw17923250122405211457 for findZ by findZ_eq
name_quick tw10977605838385248507 for findZ by findZ_eq
name_quick tw8075568018651887793 for findZ by findZ_eq
name_quick tw1524618649015135228 for findZ by findZ_eq
name_quick tw7370013457144220937 for findZ by findZ_eq
name_quick tw2826521108475653482 for findZ by findZ_eq
name_quick tw8145943149838271958 for findZ by findZ_eq
name_quick tw12152520270820667787 for findZ by findZ_eq
name_quick tw14979626087600564940 for findZ by findZ_eq
name_quick tw15049439026588031006 for findZ by findZ_eq
name_quick tw1309107185065388718 for findZ by findZ_eq
name_quick tw5150936880511922699 for findZ by findZ_eq
name_quick tw13479600455187215721 for findZ by findZ_eq
name_quick tw1065505535016073661 for findZ by findZ_eq
name_quick tw6889808747069210229 for findZ by findZ_eq
name_quick tw15587867472590373358 for findZ by findZ_eq
name_quick tw15344925407182087593 for findZ by findZ_eq
name_quick tw13102660428377437172 for findZ by findZ_eq
name_quick tw16289391198768371057 for findZ by findZ_eq
name_quick tw10250732866820691176 for findZ by findZ_eq
name_quick tw6988704321522420823 for findZ by findZ_eq
name_quick tw17815586953681464072 for findZ by findZ_eq
name_quick tw17999629351026575895 for findZ by findZ_eq
name_quick tw383478444716035976 for findZ by findZ_eq
name_quick tw14289078867681016318 for findZ by findZ_eq
name_quick tw10042830170769951172 for findZ by findZ_eq
name_quick tw14112274594779413971 for findZ by findZ_eq
name_quick tw13640514254501968386 for findZ by findZ_eq
name_quick tw17846936440860909165 for findZ by findZ_eq
name_quick tw6242409422312979302 for findZ by findZ_eq
name_quick tw10706342367453228570 for findZ by findZ_eq
name_quick tw8595292554425487202 for findZ by findZ_eq
name_quick tw8658103293671471659 for findZ by findZ_eq
name_quick tw2719445374943340272 for findZ by findZ_eq
name_quick tw4558998842232669794 for findZ by findZ_eq
name_quick tw6832808476680081064 for findZ by findZ_eq
name_quick tw5923252988546675246 for findZ by findZ_eq
name_quick tw6466090261432230078 for findZ by findZ_eq
name_quick tw17045043414572947948 for findZ by findZ_eq
name_quick tw11036193050239951465 for findZ by findZ_eq
name_quick tw6214688769961185500 for findZ by findZ_eq
name_quick tw18188234029961486008 for findZ by findZ_eq
name_quick tw3470799630455053000 for findZ by findZ_eq
name_quick tw3865406201487662470 for findZ by findZ_eq
name_quick tw13951257522405164796 for findZ by findZ_eq
name_quick tw2364824441312284604 for findZ by findZ_eq
name_quick tw8385612375773290118 for findZ by findZ_eq
name_quick tw2951486255847992690 for findZ by findZ_eq
name_quick tw13236226663087606529 for findZ by findZ_eq
name_quick tw1771862750571323454 for findZ by findZ_eq
name_quick tw8999186272805695465 for findZ by findZ_eq
name_quick tw3953757239420563355 for findZ by findZ_eq
name_quick tw3386650904741475044 for findZ by findZ_eq
name_quick tw3695515675974049574 for findZ by findZ_eq
name_quick tw17172517015917474193 for findZ by findZ_eq
name_quick tw6090905460779295987 for findZ by findZ_eq
name_quick tw7344376507651311505 for findZ by findZ_eq
name_quick tw10138199336372458610 for findZ by findZ_eq
name_quick tw503676674663206642 for findZ by findZ_eq
name_quick tw15207642765257501584 for findZ by findZ_eq
name_quick tw13746126617404028095 for findZ by findZ_eq
name_quick tw13251646731365433171 for findZ by findZ_eq
name_quick tw4405960384096086239 for findZ by findZ_eq
name_quick tw13809362725867891129 for findZ by findZ_eq
name_quick tw15423634916342008072 for findZ by findZ_eq
name_quick tw7286323032743288035 for findZ by findZ_eq
name_quick tw12945968074294007009 for findZ by findZ_eq
name_quick tw9676229304581654039 for findZ by findZ_eq
name_quick tw12821735335276811757 for findZ by findZ_eq
name_quick tw12832477231654346042 for findZ by findZ_eq
name_quick tw15315713394281565010 for findZ by findZ_eq
name_quick tw11328821685186248670 for findZ by findZ_eq
name_quick tw2193789692954389824 for findZ by findZ_eq
name_quick tw15560853006256673968 for findZ by findZ_eq
name_quick tw8732485361984058174 for findZ by findZ_eq
name_quick tw6123655918767846522 for findZ by findZ_eq
name_quick tw6250672158363226905 for findZ by findZ_eq
name_quick tw6426273055680023932 for findZ by findZ_eq
name_quick tw10057510723706494237 for findZ by findZ_eq
name_quick tw10819683100428557426 for findZ by findZ_eq
name_quick tw10308316962582663543 for findZ by findZ_eq
name_quick tw6967401301877209104 for findZ by findZ_eq
name_quick tw14323765505736481980 for findZ by findZ_eq
name_quick tw313226197891681235 for findZ by findZ_eq
name_quick tw2759451637364818457 for findZ by findZ_eq
name_quick tw10030586065758793078 for findZ by findZ_eq
name_quick tw3436264866546951355 for findZ by findZ_eq
name_quick tw12182807814244774211 for findZ by findZ_eq
name_quick tw7503421922109321716 for findZ by findZ_eq
name_quick tw7094674258960923220 for findZ by findZ_eq
name_quick tw17520869792638436183 for findZ by findZ_eq
name_quick tw14168537005229113720 for findZ by findZ_eq
name_quick tw9720828393056574044 for findZ by findZ_eq
name_quick tw3698559305507148144 for findZ by findZ_eq
name_quick tw9082586571710850966 for findZ by findZ_eq
name_quick tw14186486079044719983 for findZ by findZ_eq
name_quick tw8224813933742928703 for findZ by findZ_eq
name_quick tw6148621092414575339 for findZ by findZ_eq
name_quick tw4287028408620065468 for findZ by findZ_eq
name_quick tw196644378293983589 for findZ by findZ_eq
name_quick tw1869930749605803152 for findZ by findZ_eq
name_quick tw1763209079605825380 for findZ by findZ_eq
name_quick tw17001327861769816259 for findZ by findZ_eq
name_quick tw4109823476700235019 for findZ by findZ_eq
name_quick tw15773981995205291829 for findZ by findZ_eq
name_quick tw7585139358526817783 for findZ by findZ_eq
name_quick tw17026713947507217902 for findZ by findZ_eq
name_quick tw15034313371233782410 for findZ by findZ_eq
name_quick tw9413167413068371254 for findZ by findZ_eq
name_quick tw7469732015759309437 for findZ by findZ_eq
name_quick tw11838138170533393997 for findZ by findZ_eq
name_quick tw16417370028952169744 for findZ by findZ_eq
name_quick tw15806122291839087668 for findZ by findZ_eq
name_quick tw16349804527192203551 for findZ by findZ_eq
name_quick tw9407582987413476825 for findZ by findZ_eq
name_quick tw1615719349143574890 for findZ by findZ_eq
name_quick tw15902184279288820625 for findZ by findZ_eq
name_quick tw11682084944484805031 for findZ by findZ_eq
name_quick tw5646442142991981755 for findZ by findZ_eq
name_quick tw2460228577881660442 for findZ by findZ_eq
name_quick tw11636919720809706868 for findZ by findZ_eq
name_quick tw15261043813070345055 for findZ by findZ_eq
name_quick tw2948108419219029167 for findZ by findZ_eq
name_quick tw13335737130258781183 for findZ by findZ_eq
name_quick tw716658179208862652 for findZ by findZ_eq
name_quick tw11796506867022685745 for findZ by findZ_eq
name_quick tw9300948228871686676 for findZ by findZ_eq
name_quick tw8047484207015712433 for findZ by findZ_eq
name_quick tw17341736924252097559 for findZ by findZ_eq
name_quick tw2627984346626558326 for findZ by findZ_eq
name_quick tw5349121933718820234 for findZ by findZ_eq
name_quick tw17964007177503468958 for findZ by findZ_eq
name_quick tw3619232141914619222 for findZ by findZ_eq
name_quick tw13254397897704925713 for findZ by findZ_eq
name_quick tw282004115355043989 for findZ by findZ_eq
name_quick tw16350708796919097252 for findZ by findZ_eq
name_quick tw15263041282635125899 for findZ by findZ_eq
name_quick tw4658958612460137192 for findZ by findZ_eq
name_quick tw117213463901210413 for findZ by findZ_eq
name_quick tw10938465397075749097 for findZ by findZ_eq
name_quick tw9206804518496725263 for findZ by findZ_eq
name_quick tw6144853644547557980 for findZ by findZ_eq
name_quick tw12022618010286034681 for findZ by findZ_eq
name_quick tw2922074901204462755 for findZ by findZ_eq
name_quick tw14223099787259518943 for findZ by findZ_eq
name_quick tw8537084889766193716 for findZ by findZ_eq
name_quick tw18011898689540126615 for findZ by findZ_eq
name_quick tw1962928258387122110 for findZ by findZ_eq
name_quick tw9491899386500264472 for findZ by findZ_eq
name_quick tw13145125596335152023 for findZ by findZ_eq
name_quick tw7581816359482902497 for findZ by findZ_eq
name_quick tw6213141578215901147 for findZ by findZ_eq
name_quick tw17888162413812561239 for findZ by findZ_eq
name_quick tw8555734327229750603 for findZ by findZ_eq
name_quick tw13678640442995254988 for findZ by findZ_eq
name_quick tw6012508502120743258 for findZ by findZ_eq
name_quick tw4933834842325187142 for findZ by findZ_eq
name_quick tw14981143343336467331 for findZ by findZ_eq
name_quick tw4978915544186085027 for findZ by findZ_eq
name_quick tw10885399304501877467 for findZ by findZ_eq
name_quick tw4613930686462287906 for findZ by findZ_eq
name_quick tw17164873540382356111 for findZ by findZ_eq
name_quick tw4527066259768149269 for findZ by findZ_eq
name_quick tw11964429278604863157 for findZ by findZ_eq
name_quick tw4407734736301137906 for findZ by findZ_eq
name_quick tw5697894365363955025 for findZ by findZ_eq
name_quick tw12647630874787467225 for findZ by findZ_eq
name_quick tw1574873078441994576 for findZ by findZ_eq
name_quick tw9529234661008812162 for findZ by findZ_eq
name_quick tw17804436615005485693 for findZ by findZ_eq
name_quick tw17954736447514056666 for findZ by findZ_eq
name_quick tw17325535178939296128 for findZ by findZ_eq
name_quick tw16432479971616331241 for findZ by findZ_eq
name_quick tw3577408171920636059 for findZ by findZ_eq
name_quick tw2408619945344806742 for findZ by findZ_eq
name_quick tw5854881644878751223 for findZ by findZ_eq
name_quick tw17071476683966804577 for findZ by findZ_eq
name_quick tw14766643958189025262 for findZ by findZ_eq
name_quick tw6519424955469430661 for findZ by findZ_eq
name_quick tw10317580896714288900 for findZ by findZ_eq
name_quick tw4434333111790514575 for findZ by findZ_eq
name_quick tw15560500314895047343 for findZ by findZ_eq
name_quick tw2447775223705975068 for findZ by findZ_eq
name_quick tw7392212959928792091 for findZ by findZ_eq
name_quick tw12172078356533094185 for findZ by findZ_eq
name_quick tw7802139600951554647 for findZ by findZ_eq
name_quick tw6122645084068987007 for findZ by findZ_eq
name_quick tw5396446701170858492 for findZ by findZ_eq
name_quick tw8642067239939848140 for findZ by findZ_eq
name_quick tw4936483359421988267 for findZ by findZ_eq
name_quick tw16180582048198870337 for findZ by findZ_eq
name_quick tw10323183001455561277 for findZ by findZ_eq
name_quick tw14224011070414065920 for findZ by findZ_eq
name_quick tw5135500740108067664 for findZ by findZ_eq
name_quick tw16942504070071679284 for findZ by findZ_eq
name_quick tw16328912562034613984 for findZ by findZ_eq
name_quick tw15450981722951097364 for findZ by findZ_eq
name_quick tw11707371222683016368 for findZ by findZ_eq
name_quick tw11186114360453789277 for findZ by findZ_eq
name_quick tw18123110421147349612 for findZ by findZ_eq
name_quick tw10181792811725400092 for findZ by findZ_eq
name_quick tw9787463984185863102 for findZ by findZ_eq
name_quick tw4075660801711882420 for findZ by findZ_eq
name_quick tw13559156169165276386 for findZ by findZ_eq
name_quick tw7035115661146626270 for findZ by findZ_eq
name_quick tw12734952128020822468 for findZ by findZ_eq
name_quick tw2039238271031011813 for findZ by findZ_eq
name_quick tw3880421473898291048 for findZ by findZ_eq
name_quick tw724751600484774222 for findZ by findZ_eq
name_quick tw9376109419431680627 for findZ by findZ_eq
name_quick tw16644606511662114574 for findZ by findZ_eq
name_quick tw9763268239775435451 for findZ by findZ_eq
name_quick tw8800560270773162519 for findZ by findZ_eq
name_quick tw7401281599722004195 for findZ by findZ_eq
name_quick tw13759679279233594173 for findZ by findZ_eq
name_quick tw4679858250743294509 for findZ by findZ_eq
name_quick tw325292655437039998 for findZ by findZ_eq
name_quick tw15195428891847259777 for findZ by findZ_eq
name_quick tw16966814322356759819 for findZ by findZ_eq
name_quick tw4224760802259116069 for findZ by findZ_eq
name_quick tw15663404670287596823 for findZ by findZ_eq
name_quick tw11310463157757771331 for findZ by findZ_eq
name_quick tw11277716924127702174 for findZ by findZ_eq
name_quick tw17111948838632640456 for findZ by findZ_eq
name_quick tw11333186260410459676 for findZ by findZ_eq
name_quick tw8987815912523675519 for findZ by findZ_eq
name_quick tw5701610774189311196 for findZ by findZ_eq
name_quick tw7670514497116975361 for findZ by findZ_eq
name_quick tw6127375697748050860 for findZ by findZ_eq
name_quick tw7788680626742099145 for findZ by findZ_eq
name_quick tw16049961110935095269 for findZ by findZ_eq
name_quick tw14537914154153760125 for findZ by findZ_eq
name_quick tw8719427161674164953 for findZ by findZ_eq
name_quick tw8376441433122354887 for findZ by findZ_eq
name_quick tw1829445100760108279 for findZ by findZ_eq
name_quick tw6380047634161181297 for findZ by findZ_eq
name_quick tw17975652961387846372 for findZ by findZ_eq
name_quick tw6550987210724342151 for findZ by findZ_eq
name_quick tw12659028871203227004 for findZ by findZ_eq
name_quick tw15980859228951719591 for findZ by findZ_eq
name_quick tw10205541121877940668 for findZ by findZ_eq
name_quick tw9305782018832362445 for findZ by findZ_eq
name_quick tw14214133299417103183 for findZ by findZ_eq
name_quick tw9467589175468403638 for findZ by findZ_eq
name_quick tw3152983702415266003 for findZ by findZ_eq
name_quick tw18056578402003937789 for findZ by findZ_eq
name_quick tw17476080006546285661 for findZ by findZ_eq
name_quick tw1702518465993881591 for findZ by findZ_eq
name_quick tw16374537267813192141 for findZ by findZ_eq
name_quick tw3442601649717412197 for findZ by findZ_eq
name_quick tw17828083071136270317 for findZ by findZ_eq
name_quick tw17803129079492736432 for findZ by findZ_eq
name_quick tw14285029430470858289 for findZ by findZ_eq
name_quick tw12290603225136948437 for findZ by findZ_eq
name_quick tw3282434896037501709 for findZ by findZ_eq
name_quick tw14907048974825807369 for findZ by findZ_eq
name_quick tw148260917463534702 for findZ by findZ_eq
name_quick tw17554001833073541016 for findZ by findZ_eq
name_quick tw1189734492583310 for findZ by findZ_eq
name_quick tw13551572312386263098 for findZ by findZ_eq
name_quick tw18220123701641295943 for findZ by findZ_eq
name_quick tw17730428716208468724 for findZ by findZ_eq
name_quick tw16018607276475445134 for findZ by findZ_eq
name_quick tw151948405760981731 for findZ by findZ_eq
name_quick tw11420187438672877268 for findZ by findZ_eq
name_quick tw6679490504615227074 for findZ by findZ_eq
name_quick tw1414301608579184545 for findZ by findZ_eq
name_quick tw14934708107589980039 for findZ by findZ_eq
name_quick tw13581749221687468397 for findZ by findZ_eq
name_quick tw8424611434330503625 for findZ by findZ_eq
name_quick tw5248340912204065574 for findZ by findZ_eq
name_quick tw14023627001141898710 for findZ by findZ_eq
name_quick tw16437185098154296904 for findZ by findZ_eq
name_quick tw10352308551163946355 for findZ by findZ_eq
name_quick tw7405434945208526273 for findZ by findZ_eq
name_quick tw4921902886906138986 for findZ by findZ_eq
name_quick tw14209830616999942402 for findZ by findZ_eq
name_quick tw14097648870716263351 for findZ by findZ_eq
name_quick tw10007627690174824804 for findZ by findZ_eq
name_quick tw2506853364499732696 for findZ by findZ_eq
name_quick tw7275051467321613617 for findZ by findZ_eq
name_quick tw930746551332336609 for findZ by findZ_eq
name_quick tw8989982439271903415 for findZ by findZ_eq
name_quick tw15880737140895825463 for findZ by findZ_eq
name_quick tw1320183511955256522 for findZ by findZ_eq
name_quick tw11729385059970357855 for findZ by findZ_eq
name_quick tw2422670821966735624 for findZ by findZ_eq
name_quick tw4525517667737911620 for findZ by findZ_eq
name_quick tw1708024556718086227 for findZ by findZ_eq
name_quick tw1210750091971509897 for findZ by findZ_eq
name_quick tw2660918139993853925 for findZ by findZ_eq
name_quick tw7987952416473584550 for findZ by findZ_eq
name_quick tw2001226814458364393 for findZ by findZ_eq
name_quick tw18263319221461684349 for findZ by findZ_eq
name_quick tw17517737089405305841 for findZ by findZ_eq
name_quick tw16752143609539240740 for findZ by findZ_eq
name_quick tw16648231224745350325 for findZ by findZ_eq
name_quick tw7250012664060256230 for findZ by findZ_eq
name_quick tw13526986893379352335 for findZ by findZ_eq
name_quick tw17552769576498331613 for findZ by findZ_eq
name_quick tw8017206721242287953 for findZ by findZ_eq
name_quick tw5149714755402479525 for findZ by findZ_eq
name_quick tw14952990662201256454 for findZ by findZ_eq
name_quick tw39160002569200845 for findZ by findZ_eq
name_quick tw2905824091091238844 for findZ by findZ_eq
name_quick tw18410474027866654770 for findZ by findZ_eq
name_quick tw17899373020297197333 for findZ by findZ_eq
name_quick tw15323854079317868165 for findZ by findZ_eq
name_quick tw15157221202141545114 for findZ by findZ_eq
name_quick tw8047920394858072898 for findZ by findZ_eq
name_quick tw608726401823008365 for findZ by findZ_eq
name_quick tw4575980220486274672 for findZ by findZ_eq
name_quick tw11445135464325071761 for findZ by findZ_eq
name_quick tw15919542637913265678 for findZ by findZ_eq
name_quick tw9821368406582625841 for findZ by findZ_eq
name_quick tw3093977132361051618 for findZ by findZ_eq
name_quick tw13141144453892091621 for findZ by findZ_eq
name_quick tw11790162104776037713 for findZ by findZ_eq
name_quick tw4172830789200971933 for findZ by findZ_eq
name_quick tw12393455550290869266 for findZ by findZ_eq
name_quick tw8902219603052485911 for findZ by findZ_eq
name_quick tw7198390536060210744 for findZ by findZ_eq
name_quick tw17827458813498177553 for findZ by findZ_eq
name_quick tw17394056326795013819 for findZ by findZ_eq
name_quick tw16039550372008468697 for findZ by findZ_eq
name_quick tw15542503528162795033 for findZ by findZ_eq
name_quick tw13580328829973926956 for findZ by findZ_eq
name_quick tw13471461260053382970 for findZ by findZ_eq
name_quick tw10939839348159177617 for findZ by findZ_eq
name_quick tw1041845030581493396 for findZ by findZ_eq
name_quick tw11462045893675790159 for findZ by findZ_eq
name_quick tw8796240567053077481 for findZ by findZ_eq
name_quick tw5450187663091677483 for findZ by findZ_eq
name_quick tw4681523508651956083 for findZ by findZ_eq
name_quick tw15736541856241217950 for findZ by findZ_eq
name_quick tw13903129631018457399 for findZ by findZ_eq
name_quick tw13252181687094117063 for findZ by findZ_eq
name_quick tw11013792430000457035 for findZ by findZ_eq
name_quick tw13789449189825218787 for findZ by findZ_eq
name_quick tw17993156020533580102 for findZ by findZ_eq
name_quick tw17434858337260393937 for findZ by findZ_eq
name_quick tw17244072584429378644 for findZ by findZ_eq
name_quick tw618205885557783147 for findZ by findZ_eq
name_quick tw12177649209318274912 for findZ by findZ_eq
name_quick tw7299951869573292228 for findZ by findZ_eq
name_quick tw17719373434677690450 for findZ by findZ_eq
name_quick tw13725850141900786883 for findZ by findZ_eq
name_quick tw15900120412870309639 for findZ by findZ_eq
name_quick tw13314330512976039754 for findZ by findZ_eq
name_quick tw5228443966233409354 for findZ by findZ_eq
name_quick tw17503288770812694035 for findZ by findZ_eq
name_quick tw10996506086634736982 for findZ by findZ_eq
name_quick tw8430678208038309684 for findZ by findZ_eq
name_quick tw7397068168572129948 for findZ by findZ_eq
name_quick tw6834602518627153040 for findZ by findZ_eq
name_quick tw18163462532019968843 for findZ by findZ_eq
name_quick tw12835720964997663042 for findZ by findZ_eq
name_quick tw11788150170368784547 for findZ by findZ_eq
name_quick tw6434138532213402376 for findZ by findZ_eq
name_quick tw6714822604882049554 for findZ by findZ_eq
name_quick tw4071324889030633612 for findZ by findZ_eq
name_quick tw470574548607681690 for findZ by findZ_eq
name_quick tw15168306246750427876 for findZ by findZ_eq
name_quick tw6683783046931543321 for findZ by findZ_eq
name_quick tw4042386549635913901 for findZ by findZ_eq
name_quick tw1267870562809915468 for findZ by findZ_eq
name_quick tw3427515755752030745 for findZ by findZ_eq
name_quick tw13512673800721320934 for findZ by findZ_eq
name_quick tw7733015712792483723 for findZ by findZ_eq
name_quick tw4552823106982906706 for findZ by findZ_eq
name_quick tw7112787868492120936 for findZ by findZ_eq
name_quick tw3504847659760329788 for findZ by findZ_eq
name_quick tw7573151900890175926 for findZ by findZ_eq
name_quick tw505943868828395459 for findZ by findZ_eq
name_quick tw18211773271919218964 for findZ by findZ_eq
name_quick tw12973657651903071711 for findZ by findZ_eq
name_quick tw10058976618658966374 for findZ by findZ_eq
name_quick tw921073385446354868 for findZ by findZ_eq
name_quick tw10833955939284561965 for findZ by findZ_eq
name_quick tw16593013826814733010 for findZ by findZ_eq
name_quick tw5076957145309523181 for findZ by findZ_eq
name_quick tw9501820088010722379 for findZ by findZ_eq
name_quick tw17672482021469178181 for findZ by findZ_eq
name_quick tw18260038339965228139 for findZ by findZ_eq
name_quick tw14971970265804392439 for findZ by findZ_eq
name_quick tw13776390136698705113 for findZ by findZ_eq
name_quick tw10650810973499830745 for findZ by findZ_eq
name_quick tw12233582284571471492 for findZ by findZ_eq
name_quick tw7323676302269181137 for findZ by findZ_eq
name_quick tw2862820112641550484 for findZ by findZ_eq
name_quick tw10528696920762540405 for findZ by findZ_eq
name_quick tw8860024209350480642 for findZ by findZ_eq
name_quick tw7483462131439158144 for findZ by findZ_eq
name_quick tw1735497430108182060 for findZ by findZ_eq
name_quick tw16531745337717519161 for findZ by findZ_eq
name_quick tw8579058602437062094 for findZ by findZ_eq
name_quick tw16413963553889246368 for findZ by findZ_eq
name_quick tw13912434898499826684 for findZ by findZ_eq
name_quick tw1102190903223815498 for findZ by findZ_eq
name_quick tw14185684948912167051 for findZ by findZ_eq
name_quick tw1377046205977697930 for findZ by findZ_eq
name_quick tw17768419659990539469 for findZ by findZ_eq
name_quick tw10073347824450446311 for findZ by findZ_eq
name_quick tw17000458434675057986 for findZ by findZ_eq
name_quick tw14884601019740666482 for findZ by findZ_eq
name_quick tw14427280190107063356 for findZ by findZ_eq
name_quick tw9673203406766833760 for findZ by findZ_eq
name_quick tw8253183596043897158 for findZ by findZ_eq
name_quick tw2958062672499776758 for findZ by findZ_eq
name_quick tw2315820567201803617 for findZ by findZ_eq
name_quick tw11892598404827812706 for findZ by findZ_eq
name_quick tw1139862187096482527 for findZ by findZ_eq
name_quick tw12371321757623732685 for findZ by findZ_eq
name_quick tw18350638575300117064 for findZ by findZ_eq
name_quick tw17139780236743587250 for findZ by findZ_eq
name_quick tw16643379632663270332 for findZ by findZ_eq
name_quick tw3560238982266916124 for findZ by findZ_eq
name_quick tw1402947280878808549 for findZ by findZ_eq
name_quick tw13902233598862641821 for findZ by findZ_eq
name_quick tw7276740287692124622 for findZ by findZ_eq
name_quick tw16645262185327669138 for findZ by findZ_eq
name_quick tw7057405563618977329 for findZ by findZ_eq
name_quick tw17138261911001417010 for findZ by findZ_eq
name_quick tw15823609455315575823 for findZ by findZ_eq
name_quick tw8098380416015320538 for findZ by findZ_eq
name_quick tw3355348695024010778 for findZ by findZ_eq
name_quick tw2968979199505139716 for findZ by findZ_eq
name_quick tw2134368852220247820 for findZ by findZ_eq
name_quick tw17497748084772794779 for findZ by findZ_eq
name_quick tw13200701876752130231 for findZ by findZ_eq
name_quick tw9691624938235723451 for findZ by findZ_eq
name_quick tw17774800907425398282 for findZ by findZ_eq
name_quick tw15079194523842364033 for findZ by findZ_eq
name_quick tw17988542015724977305 for findZ by findZ_eq
name_quick tw856264945809894966 for findZ by findZ_eq
name_quick tw8727135674562949291 for findZ by findZ_eq
name_quick tw7581352650102555174 for findZ by findZ_eq
name_quick tw3362959441861295915 for findZ by findZ_eq
name_quick tw16741492637210864865 for findZ by findZ_eq
name_quick tw8094513448594659151 for findZ by findZ_eq
name_quick tw16487347958798203451 for findZ by findZ_eq
name_quick tw1772237422875290029 for findZ by findZ_eq
name_quick tw16366562015402752707 for findZ by findZ_eq
name_quick tw1204117194425446250 for findZ by findZ_eq
name_quick tw11853533878840232495 for findZ by findZ_eq
name_quick tw9577309144901391297 for findZ by findZ_eq
name_quick tw5952267759425050802 for findZ by findZ_eq
name_quick tw4090926877573551719 for findZ by findZ_eq
name_quick tw17069979004554194336 for findZ by findZ_eq
name_quick tw14714103240675001986 for findZ by findZ_eq
name_quick tw14126943448341045398 for findZ by findZ_eq
name_quick tw10948738476641704880 for findZ by findZ_eq
name_quick tw10010936943081839664 for findZ by findZ_eq
name_quick tw912392155897948271 for findZ by findZ_eq
name_quick tw3267979357774110234 for findZ by findZ_eq
name_quick tw2736616831223182526 for findZ by findZ_eq
name_quick tw17015423121036801654 for findZ by findZ_eq
name_quick tw13642483538084851733 for findZ by findZ_eq
name_quick tw5706481520468235054 for findZ by findZ_eq
name_quick tw16846860572762119324 for findZ by findZ_eq
name_quick tw11939915149646268982 for findZ by findZ_eq
name_quick tw6589095468515690095 for findZ by findZ_eq
name_quick tw16873187988247708562 for findZ by findZ_eq
name_quick tw15490439104401381959 for findZ by findZ_eq
name_quick tw12488000419048109807 for findZ by findZ_eq
name_quick tw10919533547850550483 for findZ by findZ_eq
name_quick tw5268983451555188008 for findZ by findZ_eq
name_quick tw563124612126607214 for findZ by findZ_eq
name_quick tw4824431525194463578 for findZ by findZ_eq
name_quick tw16874561944515371726 for findZ by findZ_eq
name_quick tw11957962974430299695 for findZ by findZ_eq
name_quick tw7299303143086499733 for findZ by findZ_eq
name_quick tw7098571738820278039 for findZ by findZ_eq
name_quick tw6004533443673955352 for findZ by findZ_eq
name_quick tw4748654258956052638 for findZ by findZ_eq
name_quick tw4039474712603431140 for findZ by findZ_eq
name_quick tw3768068617246420682 for findZ by findZ_eq
name_quick tw17913803186225011329 for findZ by findZ_eq
name_quick tw16697116713213952808 for findZ by findZ_eq
name_quick tw1419416864934026935 for findZ by findZ_eq
end
namespace Mine
open PySem
theorem hide {G : Prop} (h : ∀ G0 : Prop, (G → G0) → G0) : G := h G fun x => x
section
variable {a c d k R : Nat}
end
open PySem PySem.W PyProof.Rows
section
variable {prog : Program} {w : World} {A : Around} {E : Value → Shared → Prop} {s : Shared} {K : Frag} {r C L a : Addr} {h₀ : Heap} {m : Str → Option Value} {ox : Obj} {es : List DictEntry} {n : Nat} {x name cn : Str} {v ccd : Value} {cs : Scope} {cl : List (Str × Addr)} {xp pos : Pos}
theorem attr_L {Q : Value → Shared → Prop} {at' : Option Value} (F : Fr h₀ L s.heap m) (X₀ : K.In h₀) (hv : m x = some (.ref r)) (I : InstAt s.heap r ox C (some (dictOf es n))) (hg : plainGet K C name = true) (hh : hasDictIn K C = true)
    (ha : findIn K (.ref C) name = some at') (hn : noGet K at' = true) (hl : getL name es = some (some v)) (hw : handedIn v = true) (h : Q v { s with toks := s.toks + 1 })
    (hk : cs.kind = .function) (hx : (envX cn cs L a ccd cl).kindOf x = some .local) (hd : (x == ("__debug__" : Str)) = false)
    (he : eval (.Attribute (.Name x xp) name pos) (envX cn cs L a ccd cl) = (do
      let o ← eval (.Name x xp) (envX cn cs L a ccd cl)
      standAt pos.atName
      let q ← holding [o] (getAttr o name true)
      letTemporaryGo (.Name x xp) o q
      pure q)) :
    wpAny (model prog w) A (eval (.Attribute (.Name x xp) name pos) (envX cn cs L a ccd cl)) Q E s :=
  Attribute_Name_ (nameX_L F hv (get_own F X₀ I hg hh ha hn hl hw h) hk hx hd) he
end
open PySem PySem.W PyProof.Rows
local macro_rules | `(tactic| omega) => `(tactic| lia)
set_option hygiene false in
local macro_rules | `(tactic| obtain $p:rcasesPatMed := $e) => `(tactic| (refine Mine.hide ?_; intro G0 hG0; rcases $e:term with $p:rcasesPatMed <;> (refine hG0 ?_; clear hG0 G0)))
set_option hygiene false in
local macro_rules | `(tactic| obtain $p:rcasesPatMed : $t := $e) => `(tactic| (refine Mine.hide ?_; intro G0 hG0; rcases ($e : $t) with $p:rcasesPatMed <;> (refine hG0 ?_; clear hG0 G0)))
set_option hygiene false in
local macro_rules | `(tactic| obtain rfl : $t := $e) => `(tactic| (rcases ($e : $t) with rfl))
set_option maxRecDepth 100000
/-! bytes: <, >, >=, <= of any two -/
theorem slot_lt : Slot "bytes" (cmpInfo .Lt).2.1 "bytes.__lt__" :=
  .of (owner := "bytes") (n := "__lt__") (by rw [typeLookup_type, builtinLookup_eq_fast]; kernel_rfl) (by decide +kernel) (by decide +kernel) (by decide +kernel)
    (by first | exact .inl (by decide +kernel) | exact .inr (by decide +kernel)) (by rw [isSubtype_type]; kernel_rfl)
theorem slot_gt : Slot "bytes" (cmpInfo .Gt).2.1 "bytes.__gt__" :=
  .of (owner := "bytes") (n := "__gt__") (by rw [typeLookup_type, builtinLookup_eq_fast]; kernel_rfl) (by decide +kernel) (by decide +kernel) (by decide +kernel)
    (by first | exact .inl (by decide +kernel) | exact .inr (by decide +kernel)) (by rw [isSubtype_type]; kernel_rfl)
theorem slot_ge : Slot "bytes" (cmpInfo .GtE).2.1 "bytes.__ge__" :=
  .of (owner := "bytes") (n := "__ge__") (by rw [typeLookup_type, builtinLookup_eq_fast]; kernel_rfl) (by decide +kernel) (by decide +kernel) (by decide +kernel)
    (by first | exact .inl (by decide +kernel) | exact .inr (by decide +kernel)) (by rw [isSubtype_type]; kernel_rfl)
theorem entry_lt : entryFor table "bytes.__lt__" = some Builtin.«bytes.__lt__» := entryFor_of_tree (by kernel_rfl)
theorem entry_gt : entryFor table "bytes.__gt__" = some Builtin.«bytes.__gt__» := entryFor_of_tree (by kernel_rfl)
theorem entry_ge : entryFor table "bytes.__ge__" = some Builtin.«bytes.__ge__» := entryFor_of_tree (by kernel_rfl)
theorem args_lt (a b : Value) : argsOk "bytes.__lt__" ⟨[a, b], []⟩ := by
  unfold argsOk; rw [signature?_of (id := "bytes.__lt__") (n := ['_', '_', 't', 'l', '_', '_']) (o := ['s', 'e', 't', 'y', 'b']) (by kernel_rfl) FB.owner_bytes]; kernel_rfl
theorem args_gt (a b : Value) : argsOk "bytes.__gt__" ⟨[a, b], []⟩ := by
  unfold argsOk; rw [signature?_of (id := "bytes.__gt__") (n := ['_', '_', 't', 'g', '_', '_']) (o := ['s', 'e', 't', 'y', 'b']) (by kernel_rfl) FB.owner_bytes]; kernel_rfl
theorem args_ge (a b : Value) : argsOk "bytes.__ge__" ⟨[a, b], []⟩ := by
  unfold argsOk; rw [signature?_of (id := "bytes.__ge__") (n := ['_', '_', 'e', 'g', '_', '_']) (o := ['s', 'e', 't', 'y', 'b']) (by kernel_rfl) FB.owner_bytes]; kernel_rfl
def ltB (a b : Array UInt8) : Bool := Builtin.Bytes.order a.toList b.toList == .lt
theorem order_swap : ∀ a b : List UInt8, (Builtin.Bytes.order a b == .gt) = (Builtin.Bytes.order b a == .lt)
  | [], [] => rfl
  | [], _ :: _ => rfl
  | _ :: _, [] => rfl
  | x :: a, y :: b => by
    simp only [Builtin.Bytes.order]
    by_cases h1 : x < y
    · have h2 : ¬ y < x := fun h => absurd (UInt8.lt_trans h1 h) (UInt8.lt_irrefl _)
      simp [h1, h2]
    · by_cases h2 : y < x
      · simp [h1, h2]
      · simp [h1, h2, order_swap a b]
theorem gives_lt (b c : Array UInt8) (t u : Tok) : Gives (Builtin.«bytes.__lt__» ⟨[.bytes b t, .bytes c u], []⟩) (.val (.bool (ltB b c))) := by
  refine .of_wp fun M A E s Q hq => ?_
  show wpAny M A (isInstance (.bytes c u) (.type "bytes") >>= fun r => _) _ E s
  refine wpAny_bind (wpAny_isInstance (typeIs_bytes s c u) F.sub_bytes_bytes ?_)
  exact wpAny_pure ⟨_, rfl, hq⟩
theorem gives_gt (b c : Array UInt8) (t u : Tok) : Gives (Builtin.«bytes.__gt__» ⟨[.bytes b t, .bytes c u], []⟩) (.val (.bool (ltB c b))) := by
  refine .of_wp fun M A E s Q hq => ?_
  show wpAny M A (isInstance (.bytes c u) (.type "bytes") >>= fun r => _) _ E s
  refine wpAny_bind (wpAny_isInstance (typeIs_bytes s c u) F.sub_bytes_bytes ?_)
  exact wpAny_pure ⟨_, rfl, by unfold ltB at hq; rw [← order_swap] at hq; exact hq⟩
theorem gives_ge (b c : Array UInt8) (t u : Tok) : Gives (Builtin.«bytes.__ge__» ⟨[.bytes b t, .bytes c u], []⟩) (.val (.bool (!ltB b c))) := by
  refine .of_wp fun M A E s Q hq => ?_
  show wpAny M A (isInstance (.bytes c u) (.type "bytes") >>= fun r => _) _ E s
  refine wpAny_bind (wpAny_isInstance (typeIs_bytes s c u) F.sub_bytes_bytes ?_)
  exact wpAny_pure ⟨_, rfl, hq⟩
section
variable {prog : Program} {w : World} {A : Around} {E : Value → Shared → Prop} {s : Shared} {b c : Array UInt8} {t u : Tok}
theorem lt_bytes {Q : Value → Shared → Prop} (h : Q (.bool (ltB b c)) s) : wpAny (model prog w) A (compareOp .Lt (.bytes b t) (.bytes c u)) Q E s :=
  compareOp_gives (op := .Lt) (typeIs_bytes s b t) (typeIs_bytes s c u) slot_lt entry_lt (args_lt _ _) (gives_lt b c t u) (fun e => nomatch e) h
theorem gt_bytes {Q : Value → Shared → Prop} (h : Q (.bool (ltB c b)) s) : wpAny (model prog w) A (compareOp .Gt (.bytes b t) (.bytes c u)) Q E s :=
  compareOp_gives (op := .Gt) (typeIs_bytes s b t) (typeIs_bytes s c u) slot_gt entry_gt (args_gt _ _) (gives_gt b c t u) (fun e => nomatch e) h
theorem ge_bytes {Q : Value → Shared → Prop} (h : Q (.bool (!ltB b c)) s) : wpAny (model prog w) A (compareOp .GtE (.bytes b t) (.bytes c u)) Q E s :=
  compareOp_gives (op := .GtE) (typeIs_bytes s b t) (typeIs_bytes s c u) slot_ge entry_ge (args_ge _ _) (gives_ge b c t u) (fun e => nomatch e) h
end
open PySem PySem.W PyProof.Rows
set_option maxRecDepth 100000
section
variable {prog : Program} {w : World} {A : Around} {E : Value → Shared → Prop} {s : Shared}
theorem bytes_special : typeLookup (.type "bytes") "__bytes__" = pure (some (.builtin "bytes.__bytes__")) := by rw [typeLookup_type, builtinLookup_eq_fast]; kernel_rfl
theorem bb_new {b : Array UInt8} {t : Tok} {Q : Value → Shared → Prop} (hQ : Q (.bytes b t) s) :
    codeAny (model prog w) A (.call (.builtin "bytes.__new__") ⟨[.type "bytes", .bytes b t], []⟩) (wants Q E) s := by
  refine codeAny_of_tree ?_
  show wpAny _ A.in1 (do checkBuiltinCall "bytes.__new__" ⟨[.type "bytes", .bytes b t], []⟩; again (.builtin "bytes.__new__" ⟨[.type "bytes", .bytes b t], []⟩)) _ _ s
  refine wpAny_bind (wpAny_of_eq (F.bm_newCall _) (wpAny_pure ⟨plainId_quiet F.bm_plain _, codeAny_builtin F.bm_entry ?_⟩))
  rw [Around.under_plainId F.bm_plain _]
  unfold Builtin.«bytes.__new__»
  refine wpAny_bind (wpAny_of_eq (a := true) rfl ?_)
  refine bm_if_false rfl ?_
  refine wpAny_bind (wpAny_of_eq F.bm_sub ?_)
  refine bm_if_false rfl ?_
  refine wpAny_bind (wpAny_of_eq (F.bm_bind _) ?_)
  refine wpAny_bind (wpAny_of_eq (a := ()) rfl ?_)
  refine wpAny_bind (wpAny_of_eq (a := ()) rfl ?_)
  refine bm_if_false rfl ?_
  refine wpAny_bind (wpAny_specialOf (typeIs_bytes s b t) bytes_special ?_)
  dsimp only
  refine wpAny_bind (wpAny_rule ?_)
  refine wpAny_bind (wpAny_typeOf (typeIs_bytes s b t) ?_)
  refine bm_if_true rfl ?_
  first
    | exact wpAny_pure hQ
    | exact wpAny_pure ⟨_, rfl, hQ⟩
theorem call_bytes_bytes {b : Array UInt8} {t : Tok} {Q : Value → Shared → Prop} (hQ : Q (.bytes b t) s) : wpAny (model prog w) A (call (.type "bytes") [.bytes b t]) Q E s := by
  refine callType_codes (Q₁ := fun obj s₁ => s₁.TypeIs obj "bytes" ∧ Q obj s₁) F.bm_called (F.bm_typeCall _) F.entry_object_init
    (bb_new ⟨typeIs_bytes _ _ _, hQ⟩) fun obj s₁ h₁ => ?_
  exact ⟨h₁.1, F.args_object_init_2 obj _, object_init_meets F.bm_called.init.lookup F.bm_called.made (by decide) prog w A.in1 _ s₁ ⟨h₁.1, rfl, h₁.2⟩⟩
end
open PySem PySem.W PyProof.Rows
set_option maxRecDepth 100000
theorem nat_and_shift {x b k : Nat} (hx : x < 2 ^ k) : x &&& (b * 2 ^ k) = 0 := by
  apply Nat.eq_of_testBit_eq
  intro i
  rw [Nat.testBit_and, Nat.zero_testBit, Nat.testBit_mul_two_pow]
  by_cases h : i < k
  · have : ¬ k ≤ i := by omega
    simp [this]
  · have h2 : x.testBit i = false := Nat.testBit_lt_two_pow (Nat.lt_of_lt_of_le hx (Nat.pow_le_pow_right (by decide) (by omega)))
    simp [h2]
theorem bitAnd_nn {x y : Int} (hx : 0 ≤ x) (hy : 0 ≤ y) : Builtin.bitAnd x y = ((x.toNat &&& y.toNat : Nat) : Int) := by
  unfold Builtin.bitAnd
  have h1 : decide (0 ≤ x) = true := by simp; omega
  have h2 : decide (0 ≤ y) = true := by simp; omega
  simp [hx, hy]
theorem or_shift {x b : Int} (k : Nat) (hx : 0 ≤ x) (hx2 : x < 2 ^ k) (hb : 0 ≤ b) : Builtin.bitOr x (b * 2 ^ k) = x + b * 2 ^ k := by
  have hp : (0 : Int) ≤ b * 2 ^ k := Int.mul_nonneg hb (Int.le_of_lt (Int.pow_pos (by decide)))
  rw [bitOr_and, bitAnd_nn hx hp]
  have e : (b * 2 ^ k).toNat = b.toNat * 2 ^ k := by
    obtain ⟨n, rfl⟩ : ∃ n : Nat, b = (n : Int) := ⟨b.toNat, by omega⟩
    have e2 : ((n : Int) * 2 ^ k) = ((n * 2 ^ k : Nat) : Int) := by push_cast; rfl
    rw [e2, Int.toNat_natCast, Int.toNat_natCast]
  have hx3 : x.toNat < 2 ^ k := by
    have : x = (x.toNat : Int) := by omega
    rw [this] at hx2
    exact_mod_cast hx2
  rw [e, nat_and_shift hx3]
  omega
theorem and_255 {x : Int} (hx : 0 ≤ x) : Builtin.bitAnd x 255 = x % 256 := by
  rw [bitAnd_nn hx (by decide)]
  have : (x.toNat &&& 255) = x.toNat % 2 ^ 8 := by
    rw [show (255 : Nat) = 2 ^ 8 - 1 from rfl, Nat.and_two_pow_sub_one_eq_mod]
  show ((x.toNat &&& 255 : Nat) : Int) = _
  rw [this]
  omega
section
variable {prog : Program} {w : World} {A : Around} {E : Value → Shared → Prop} {s : Shared} {a b : Int} {t u : Tok} {Q : Value → Shared → Prop}
theorem shl8 (h0 : 0 ≤ a) (h1 : a < 4294967296) (h : Q (.int (a * 256) s.toks) { s with toks := s.toks + 1 }) : wpAny (model prog w) A (binaryOp .LShift (.int a t) (.int 8 u)) Q E s :=
  lshift_int_small (by decide) (by decide) (by omega) h
theorem shl16 (h0 : 0 ≤ a) (h1 : a < 4294967296) (h : Q (.int (a * 65536) s.toks) { s with toks := s.toks + 1 }) : wpAny (model prog w) A (binaryOp .LShift (.int a t) (.int 16 u)) Q E s :=
  lshift_int_small (by decide) (by decide) (by omega) h
theorem shl24 (h0 : 0 ≤ a) (h1 : a < 4294967296) (h : Q (.int (a * 16777216) s.toks) { s with toks := s.toks + 1 }) : wpAny (model prog w) A (binaryOp .LShift (.int a t) (.int 24 u)) Q E s :=
  lshift_int_small (by decide) (by decide) (by omega) h
theorem shl32 (h0 : 0 ≤ a) (h1 : a < 4294967296) (h : Q (.int (a * 4294967296) s.toks) { s with toks := s.toks + 1 }) : wpAny (model prog w) A (binaryOp .LShift (.int a t) (.int 32 u)) Q E s :=
  lshift_int_small (by decide) (by decide) (by omega) h
theorem or8 (h0 : 0 ≤ a) (h1 : a < 256) (h2 : 0 ≤ b) (h : Q (.int (a + b * 256) s.toks) { s with toks := s.toks + 1 }) : wpAny (model prog w) A (binaryOp .BitOr (.int a t) (.int (b * 256) u)) Q E s :=
  or_int (by have e := or_shift (x := a) (b := b) 8 h0 h1 h2; rw [show ((2 : Int) ^ 8) = 256 from rfl] at e; rw [e]; exact h)
theorem or16 (h0 : 0 ≤ a) (h1 : a < 65536) (h2 : 0 ≤ b) (h : Q (.int (a + b * 65536) s.toks) { s with toks := s.toks + 1 }) : wpAny (model prog w) A (binaryOp .BitOr (.int a t) (.int (b * 65536) u)) Q E s :=
  or_int (by have e := or_shift (x := a) (b := b) 16 h0 h1 h2; rw [show ((2 : Int) ^ 16) = 65536 from rfl] at e; rw [e]; exact h)
theorem or24 (h0 : 0 ≤ a) (h1 : a < 16777216) (h2 : 0 ≤ b) (h : Q (.int (a + b * 16777216) s.toks) { s with toks := s.toks + 1 }) : wpAny (model prog w) A (binaryOp .BitOr (.int a t) (.int (b * 16777216) u)) Q E s :=
  or_int (by have e := or_shift (x := a) (b := b) 24 h0 h1 h2; rw [show ((2 : Int) ^ 24) = 16777216 from rfl] at e; rw [e]; exact h)
theorem or32 (h0 : 0 ≤ a) (h1 : a < 4294967296) (h2 : 0 ≤ b) (h : Q (.int (a + b * 4294967296) s.toks) { s with toks := s.toks + 1 }) : wpAny (model prog w) A (binaryOp .BitOr (.int a t) (.int (b * 4294967296) u)) Q E s :=
  or_int (by have e := or_shift (x := a) (b := b) 32 h0 h1 h2; rw [show ((2 : Int) ^ 32) = 4294967296 from rfl] at e; rw [e]; exact h)
theorem shr8 (h : Q (.int (a / 256) s.toks) { s with toks := s.toks + 1 }) : wpAny (model prog w) A (binaryOp .RShift (.int a t) (.int 8 u)) Q E s :=
  rshift_int (by decide) (by rw [show ((2 : Int) ^ (8 : Int).toNat) = 256 from rfl, Int.fdiv_eq_ediv_of_nonneg _ (by decide)]; exact h)
theorem and255 (h0 : 0 ≤ a) (h : Q (.int (a % 256) s.toks) { s with toks := s.toks + 1 }) : wpAny (model prog w) A (binaryOp .BitAnd (.int a t) (.int 255 u)) Q E s :=
  and_int (by rw [and_255 h0]; exact h)
end
theorem bInts_inj {a b : Array UInt8} (h : KBw.bInts a = KBw.bInts b) : a = b := by
  have inj : ∀ l l' : List UInt8, (l.map fun c => ((c.toNat : Nat) : Int)) = (l'.map fun c => ((c.toNat : Nat) : Int)) → l = l' := by
    intro l
    induction l with
    | nil => intro l' h; cases l' with
      | nil => rfl
      | cons x r => simp at h
    | cons x r ih => intro l' h; cases l' with
      | nil => simp at h
      | cons y r' =>
        simp only [List.map_cons, List.cons.injEq] at h
        have : x = y := UInt8.toNat_inj.mp (by omega)
        rw [this, ih r' h.2]
  have := inj a.toList b.toList h
  exact Array.toList_inj.mp this
open PySem PySem.W PyProof.Rows PySem.Spec
set_option maxRecDepth 100000
abbrev Led := List (Addr × Obj)
section
variable {prog : Program} {w : World} {A : Around} {E : Value → Shared → Prop} {s : Shared} {env : Env} {h₀ : Heap} {x : Str} {body : List Stmt} {Q : Flow → Shared → Prop}
def TurnJ (h₀ : Heap) (L : Addr) (J : (Str → Option Value) → Led → Prop) (I : Addr) (o : Obj) (s : Shared) (Q : Flow → Shared → Prop) (f : Flow) (s₂ : Shared) : Prop :=
  match f with
  | .ret v => Q (.ret v) s₂
  | .brk => Q .next s₂
  | _ => ∃ h' tk' m' news' led, s₂ = { s with heap := h', toks := tk' } ∧ Fr h₀ L h' m' ∧ News h₀ L h' led ∧ (I, o) ∈ led ∧ (∀ p ∈ news', p ∈ led) ∧ (∀ p ∈ news', p.1 ≠ I) ∧ J m' news'
theorem iter_rangeJ {r : Addr} {a₀ b₀ c : Int} {t₀ u₀ v₀ : Tok} {n : Nat} {m₀ : Str → Option Value} {news : Led} (J : Nat → (Str → Option Value) → Led → Prop)
    (hh : A.handled = none) (hr : IsRange s.heap r a₀ b₀ c t₀ u₀ v₀) (hsmall : Builtin.Range.small a₀ b₀ c = true) (hn : Builtin.Range.rangeSize a₀ b₀ c = (n : Int)) (F : Fr h₀ env.locals s.heap m₀) (N : News h₀ env.locals s.heap news) (hj : J 0 m₀ news)
    (turn : ∀ (i : Nat) t m₁ news₁ h tk I o, i < n → J i m₁ news₁ → (∀ p ∈ news₁, p.1 ≠ I) → Fr h₀ env.locals h (fun y => if y = x then some (.int (a₀ + i * c) t) else m₁ y) → News h₀ env.locals h ((I, o) :: news₁) →
      wpAny (model prog w) A (execs body env) (TurnJ h₀ env.locals (J (i + 1)) I o { s with heap := h, toks := tk } Q) E { s with heap := h, toks := tk })
    (done : ∀ m₁ news₁ h tk, J n m₁ news₁ → Fr h₀ env.locals h m₁ → News h₀ env.locals h news₁ → Q .next { s with heap := h, toks := tk }) :
    wpAny (model prog w) A (pyIter (.ref r)) (fun it s₂ => LoopAtV prog w A h₀ env x body Q E it s₂) E s := by
  refine wpAny_pyIter_range hr hsmall ?_
  have W := Walks.range (prog := prog) (w := w) hh s.heap.objs.size a₀ c n
  refine ⟨_, _, _, n, _, _, m₀, news, J, rfl, W, ?_, ?_, ?_, (by show IsRangeIter _ _ _ _ _; rw [hn]; simpa using Heap.get?_push_size _ rfl), F.push _, (fun p hp => ⟨Heap.get?_push_of_some _ (N p hp).1, (N p hp).2⟩), hj, ?_, ?_⟩
  · intro hm
    exact absurd F.ns.lt ((List.mem_singleton.mp hm) ▸ Nat.lt_irrefl _)
  · intro b hb
    rw [List.mem_singleton.mp hb]
    exact next_is_new F
  · intro p hp hI
    exact absurd (Heap.lt_size (N p hp).1) ((List.mem_singleton.mp hI) ▸ Nat.lt_irrefl _)
  · intro i v m₁ news₁ s₁ own hx1 hin hx2 hJ hoff hown hget hall hst F₁ N₁
    obtain ⟨hh', tk', rfl⟩ := hx1
    obtain ⟨t, rfl⟩ := hx2
    obtain ⟨oI, ho⟩ : ∃ oI, hh'.get? s.heap.objs.size = some oI := ⟨_, hst⟩
    have hfree : h₀.get? s.heap.objs.size = none := next_is_new F
    have hIo := hall s.heap.objs.size (List.mem_singleton.mpr rfl) hfree _ ho
    have hone : ∀ p ∈ own, p = (s.heap.objs.size, oI) := fun p hp => by
      have e1 := List.mem_singleton.mp (hown p hp)
      have e2 := hget p hp
      refine Prod.ext e1 ?_
      have e3 : hh'.get? p.1 = some p.2 := e2
      rw [e1] at e3
      exact (Option.some.inj (ho.symm.trans e3)).symm
    refine wpAny_mono (turn i t m₁ news₁ hh' tk' _ oI hin hJ (fun p hp q => hoff p hp (List.mem_singleton.mpr q)) F₁ (fun p hp => ?_)) (fun f s₂ p => ?_) fun _ _ e => e
    · rcases List.mem_cons.mp hp with rfl | hp
      · exact N₁ _ (List.mem_append_left _ hIo)
      · exact N₁ _ (List.mem_append_right _ hp)
    · have fin : ∀ {s₂ : Shared}, (∃ h' tk' m' news' led, s₂ = { s with heap := h', toks := tk' } ∧ Fr h₀ env.locals h' m' ∧ News h₀ env.locals h' led ∧ (s.heap.objs.size, oI) ∈ led ∧ (∀ p ∈ news', p ∈ led) ∧ (∀ p ∈ news', p.1 ≠ s.heap.objs.size) ∧ J (i + 1) m' news') →
          LoopStepU h₀ env.locals [s.heap.objs.size] own (J (i + 1)) { s with heap := hh', toks := tk' } .next s₂ := by
        intro s₂ hx3
        obtain ⟨h', tk, m', news', led, e, F', N', hI, hsub, hne, hj'⟩ := hx3
        refine ⟨rfl, h', tk, m', news', e, F', fun p hp => ?_, fun p hp q => hne p hp (List.mem_singleton.mp q), hj'⟩
        rcases List.mem_append.mp hp with hp | hp
        · rw [hone p hp]; exact N' _ hI
        · exact N' _ (hsub p hp)
      cases f with
      | ret v => exact .ret p
      | brk => exact .brk p
      | next => exact .next (fin p)
      | cont => exact .cont (fin p)
  · rintro h' tk m' news' F' N' _ hJ
    exact done m' news' h' tk hJ F' N'
theorem small_up {n : Nat} (h : n ≤ 1000000) : Builtin.Range.small 0 (n : Int) 1 = true := small_one (by decide) (by decide) (by omega) (by omega)
theorem size_up (n : Nat) : Builtin.Range.rangeSize 0 (n : Int) 1 = (n : Int) := by
  unfold Builtin.Range.rangeSize
  simp
  omega
theorem size_down (n : Nat) : Builtin.Range.rangeSize ((n : Int) - 1) (-1) (-1) = (n : Int) := by
  unfold Builtin.Range.rangeSize
  simp
  omega
theorem small_down {n : Nat} (h : n ≤ 1000000) : Builtin.Range.small ((n : Int) - 1) (-1) (-1) = true := by
  unfold Builtin.Range.small
  rw [size_down]
  simp only [Builtin.Range.rangeFitsLong, Bool.and_eq_true, Bool.or_eq_true, decide_eq_true_eq, beq_iff_eq, show ¬ ((-1 : Int) > 0) by decide, if_false]
  omega
end
theorem news_of {h₀ h : Heap} {L : Addr} {a b : Led} (N : News h₀ L h a) (hs : ∀ p ∈ b, p ∈ a) : News h₀ L h b := fun p hp => N p (hs p hp)
section
variable {prog : Program} {w : World} {A : Around} {E : Value → Shared → Prop} {s : Shared} {env : Env} {h₀ : Heap} {x : Str} {body : List Stmt} {Q : Flow → Shared → Prop}
theorem iter_up {r : Addr} {t₀ u₀ v₀ : Tok} {n : Nat} {m₀ : Str → Option Value} {news : Led} (J : Nat → (Str → Option Value) → Led → Prop)
    (hh : A.handled = none) (hr : IsRange s.heap r 0 (n : Int) 1 t₀ u₀ v₀) (hn : n ≤ 1000000) (F : Fr h₀ env.locals s.heap m₀) (N : News h₀ env.locals s.heap news) (hj : J 0 m₀ news)
    (turn : ∀ (i : Nat) t m₁ news₁ h tk I o, i < n → J i m₁ news₁ → (∀ p ∈ news₁, p.1 ≠ I) → Fr h₀ env.locals h (fun y => if y = x then some (.int (i : Int) t) else m₁ y) → News h₀ env.locals h ((I, o) :: news₁) →
      wpAny (model prog w) A (execs body env) (TurnJ h₀ env.locals (J (i + 1)) I o { s with heap := h, toks := tk } Q) E { s with heap := h, toks := tk })
    (done : ∀ m₁ news₁ h tk, J n m₁ news₁ → Fr h₀ env.locals h m₁ → News h₀ env.locals h news₁ → Q .next { s with heap := h, toks := tk }) :
    wpAny (model prog w) A (pyIter (.ref r)) (fun it s₂ => LoopAtV prog w A h₀ env x body Q E it s₂) E s :=
  iter_rangeJ (x := x) J hh hr (small_up hn) (size_up n) F N hj (fun i t m₁ news₁ h tk I o hi hJ hne F₁ N₁ => turn i t m₁ news₁ h tk I o hi hJ hne (by rw [show (0 : Int) + i * 1 = i from by omega] at F₁; exact F₁) N₁) done
theorem iter_down {r : Addr} {t₀ u₀ v₀ : Tok} {n : Nat} {m₀ : Str → Option Value} {news : Led} (J : Nat → (Str → Option Value) → Led → Prop)
    (hh : A.handled = none) (hr : IsRange s.heap r ((n : Int) - 1) (-1) (-1) t₀ u₀ v₀) (hn : n ≤ 1000000) (F : Fr h₀ env.locals s.heap m₀) (N : News h₀ env.locals s.heap news) (hj : J n m₀ news)
    (turn : ∀ (i : Nat) t m₁ news₁ h tk I o, i < n → J (i + 1) m₁ news₁ → (∀ p ∈ news₁, p.1 ≠ I) → Fr h₀ env.locals h (fun y => if y = x then some (.int (i : Int) t) else m₁ y) → News h₀ env.locals h ((I, o) :: news₁) →
      wpAny (model prog w) A (execs body env) (TurnJ h₀ env.locals (J i) I o { s with heap := h, toks := tk } Q) E { s with heap := h, toks := tk })
    (done : ∀ m₁ news₁ h tk, J 0 m₁ news₁ → Fr h₀ env.locals h m₁ → News h₀ env.locals h news₁ → Q .next { s with heap := h, toks := tk }) :
    wpAny (model prog w) A (pyIter (.ref r)) (fun it s₂ => LoopAtV prog w A h₀ env x body Q E it s₂) E s :=
  iter_rangeJ (x := x) (fun i => J (n - i)) hh hr (small_down hn) (size_down n) F N hj (fun i t m₁ news₁ h tk I o hi hJ hne F₁ N₁ => by
    have e : (n : Int) - 1 + i * -1 = ((n - 1 - i : Nat) : Int) := by omega
    rw [e] at F₁
    have e2 : n - i = n - 1 - i + 1 := by omega
    have e3 : n - (i + 1) = n - 1 - i := by omega
    rw [e2] at hJ
    simp only [e3]
    exact turn (n - 1 - i) t m₁ news₁ h tk I o (by omega) hJ hne F₁ N₁) (fun m₁ news₁ h tk hJ => done m₁ news₁ h tk (by simpa using hJ))
theorem set_list {D : Addr} {items : Array Value} {n : Nat} {k : Int} {t : Tok} {v : Value} {L : Addr} {m : Str → Option Value} {news news' : Led} {Q : Unit → Shared → Prop} (F : Fr h₀ L s.heap m) (N : News h₀ L s.heap news)
    (U : Upd D (listOf items n) (listOf (items.setIfInBounds k.toNat v) n) news news') (h0 : 0 ≤ k) (h1 : k < items.size) (hfit : k < 2 ^ 63) (h : ∀ h', Fr h₀ L h' m → News h₀ L h' news' → Q () { s with heap := h' }) :
    wpAny (model prog w) A (setItem (.ref D) (.int k t) v) Q E s := by
  obtain ⟨pre, post, rfl, rfl, a, b⟩ := U.split
  have z := N (D, listOf items n) (List.mem_append.mpr (.inr (.head _)))
  refine ki_setAt z.1 h0 hfit h1 (h _ (F.change (Heap.SameBut.update ..) z.2.1 z.2.2) (ki_turn _ N a b rfl ?_))
  simp
end
open PySem PySem.W PyProof.Rows
set_option maxRecDepth 100000
theorem and_m32 {x : Int} (hx : 0 ≤ x) : Builtin.bitAnd x 4294967295 = x % 4294967296 := by
  rw [bitAnd_nn hx (by decide)]
  have : (x.toNat &&& 4294967295) = x.toNat % 2 ^ 32 := by
    rw [show (4294967295 : Nat) = 2 ^ 32 - 1 from rfl, Nat.and_two_pow_sub_one_eq_mod]
  show ((x.toNat &&& 4294967295 : Nat) : Int) = _
  rw [this]
  omega
theorem or_comm_nn {x y : Int} (hx : 0 ≤ x) (hy : 0 ≤ y) : Builtin.bitOr x y = Builtin.bitOr y x := by
  rw [bitOr_and, bitOr_and, bitAnd_nn hx hy, bitAnd_nn hy hx, Nat.and_comm]; omega
section
variable {prog : Program} {w : World} {A : Around} {E : Value → Shared → Prop} {s : Shared} {a b : Int} {t u : Tok} {Q : Value → Shared → Prop}
theorem shr16 (h : Q (.int (a / 65536) s.toks) { s with toks := s.toks + 1 }) : wpAny (model prog w) A (binaryOp .RShift (.int a t) (.int 16 u)) Q E s :=
  rshift_int (by decide) (by rw [show ((2 : Int) ^ (16 : Int).toNat) = 65536 from rfl, Int.fdiv_eq_ediv_of_nonneg _ (by decide)]; exact h)
theorem shr24 (h : Q (.int (a / 16777216) s.toks) { s with toks := s.toks + 1 }) : wpAny (model prog w) A (binaryOp .RShift (.int a t) (.int 24 u)) Q E s :=
  rshift_int (by decide) (by rw [show ((2 : Int) ^ (24 : Int).toNat) = 16777216 from rfl, Int.fdiv_eq_ediv_of_nonneg _ (by decide)]; exact h)
theorem shr32 (h : Q (.int (a / 4294967296) s.toks) { s with toks := s.toks + 1 }) : wpAny (model prog w) A (binaryOp .RShift (.int a t) (.int 32 u)) Q E s :=
  rshift_int (by decide) (by rw [show ((2 : Int) ^ (32 : Int).toNat) = 4294967296 from rfl, Int.fdiv_eq_ediv_of_nonneg _ (by decide)]; exact h)
theorem andM32 (h0 : 0 ≤ a) (h : Q (.int (a % 4294967296) s.toks) { s with toks := s.toks + 1 }) : wpAny (model prog w) A (binaryOp .BitAnd (.int a t) (.int 4294967295 u)) Q E s :=
  and_int (by rw [and_m32 h0]; exact h)
theorem or8r (h0 : 0 ≤ a) (h1 : a < 256) (h2 : 0 ≤ b) (h : Q (.int (a + b * 256) s.toks) { s with toks := s.toks + 1 }) : wpAny (model prog w) A (binaryOp .BitOr (.int (b * 256) u) (.int a t)) Q E s :=
  or_int (by rw [or_comm_nn (by omega) h0]; have e := or_shift (x := a) (b := b) 8 h0 h1 h2; rw [show ((2 : Int) ^ 8) = 256 from rfl] at e; rw [e]; exact h)
theorem add_bb {x y : Array UInt8} (hz : x.size + y.size ≤ 16777216) (h : ∀ t' k, Q (.bytes (x ++ y) t') { s with toks := k }) : wpAny (model prog w) A (binaryOp .Add (.bytes x t) (.bytes y u)) Q E s := KBy.add_bytes hz h
theorem shl8b (h0 : 0 ≤ a) (h1 : a < 72057594037927936) (h : Q (.int (a * 256) s.toks) { s with toks := s.toks + 1 }) : wpAny (model prog w) A (binaryOp .LShift (.int a t) (.int 8 u)) Q E s :=
  lshift_int_small (by decide) (by decide) (by omega) h
end
open PySem PySem.W PyProof.Rows PySem.Spec
set_option maxRecDepth 100000
section
variable {prog : Program} {w : World} {A : Around} {E : Value → Shared → Prop} {s : Shared} {env : Env} {h₀ : Heap} {x : Str} {body : List Stmt} {Q : Flow → Shared → Prop}
theorem iter_listJ {l : Addr} {items : Array Value} {n : Nat} {m₀ : Str → Option Value} {news : Led} (J : Nat → (Str → Option Value) → Led → Prop)
    (hh : A.handled = none) (F : Fr h₀ env.locals s.heap m₀) (N : News h₀ env.locals s.heap news) (hl : ∀ i m' nw, J i m' nw → (l, listOf items n) ∈ nw) (hj : J 0 m₀ news)
    (turn : ∀ (i : Nat) v m₁ news₁ h tk I o, items[i]? = some v → J i m₁ news₁ → (∀ p ∈ news₁, p.1 ≠ I) → Fr h₀ env.locals h (fun y => if y = x then some v else m₁ y) → News h₀ env.locals h ((I, o) :: news₁) →
      wpAny (model prog w) A (execs body env) (TurnJ h₀ env.locals (J (i + 1)) I o { s with heap := h, toks := tk } Q) E { s with heap := h, toks := tk })
    (done : ∀ m₁ news₁ h tk, J items.size m₁ news₁ → Fr h₀ env.locals h m₁ → News h₀ env.locals h news₁ → Q .next { s with heap := h, toks := tk }) :
    wpAny (model prog w) A (pyIter (.ref l)) (fun it s₂ => LoopAtV prog w A h₀ env x body Q E it s₂) E s := by
  have hm := hl _ _ _ hj
  have hlist := News.isList N hm
  have hlt : l < s.heap.objs.size := Heap.lt_size (N _ hm).1
  refine wpAny_pyIter_list hlist ?_
  have W := Walks.list (prog := prog) (w := w) hh s.heap.objs.size l (Nat.ne_of_lt hlt) items
  refine ⟨_, _, _, _, _, _, m₀, news, J, rfl, W, ?_, ?_, ?_, ⟨⟨_, Heap.get?_push_size _ rfl, rfl, rfl⟩, hlist.push _⟩, F.push _, (fun p hp => ⟨Heap.get?_push_of_some _ (N p hp).1, (N p hp).2⟩), hj, ?_, ?_⟩
  · intro hm'
    rcases List.mem_cons.mp hm' with e | hm'
    · exact absurd F.ns.lt (e ▸ Nat.lt_irrefl _)
    · exact (N _ hm).2.1 (List.mem_singleton.mp hm').symm
  · intro b hb
    rw [List.mem_singleton.mp hb]
    exact next_is_new F
  · intro p hp hI
    exact absurd (Heap.lt_size (N p hp).1) ((List.mem_singleton.mp hI) ▸ Nat.lt_irrefl _)
  · intro i v m₁ news₁ s₁ own hx1 hin hv hJ hoff hown hget hall hst F₁ N₁
    obtain ⟨hh', tk', rfl⟩ := hx1
    obtain ⟨oI, ho⟩ : ∃ oI, hh'.get? s.heap.objs.size = some oI := by
      obtain ⟨⟨o, h1, _⟩, _⟩ := hst
      exact ⟨o, h1⟩
    have hfree : h₀.get? s.heap.objs.size = none := next_is_new F
    have hIo := hall s.heap.objs.size (.head _) hfree _ ho
    have hpl := hl _ _ _ hJ
    have hplg : hh'.get? l = some (listOf items n) := (N₁ _ (List.mem_append_right _ hpl)).1
    have hone : ∀ p ∈ own, p = (s.heap.objs.size, oI) ∨ p = (l, listOf items n) := fun p hp => by
      have e2 : hh'.get? p.1 = some p.2 := hget p hp
      rcases List.mem_cons.mp (hown p hp) with e1 | e1
      · left
        refine Prod.ext e1 ?_
        rw [e1] at e2
        exact (Option.some.inj (ho.symm.trans e2)).symm
      · right
        have e1 := List.mem_singleton.mp e1
        refine Prod.ext e1 ?_
        rw [e1] at e2
        exact (Option.some.inj (hplg.symm.trans e2)).symm
    refine wpAny_mono (turn i v m₁ news₁ hh' tk' _ oI hv hJ (fun p hp q => hoff p hp (List.mem_singleton.mpr q)) F₁ (fun p hp => ?_)) (fun f s₂ p => ?_) fun _ _ e => e
    · rcases List.mem_cons.mp hp with rfl | hp
      · exact N₁ _ (List.mem_append_left _ hIo)
      · exact N₁ _ (List.mem_append_right _ hp)
    · have fin : ∀ {s₂ : Shared}, (∃ h' tk' m' news' led, s₂ = { s with heap := h', toks := tk' } ∧ Fr h₀ env.locals h' m' ∧ News h₀ env.locals h' led ∧ (s.heap.objs.size, oI) ∈ led ∧ (∀ p ∈ news', p ∈ led) ∧ (∀ p ∈ news', p.1 ≠ s.heap.objs.size) ∧ J (i + 1) m' news') →
          LoopStepU h₀ env.locals [s.heap.objs.size] own (J (i + 1)) { s with heap := hh', toks := tk' } .next s₂ := by
        intro s₂ hx2
        obtain ⟨h', tk, m', news', led, e, F', N', hI, hsub, hne, hj'⟩ := hx2
        refine ⟨rfl, h', tk, m', news', e, F', fun p hp => ?_, fun p hp q => hne p hp (List.mem_singleton.mp q), hj'⟩
        rcases List.mem_append.mp hp with hp | hp
        · rcases hone p hp with rfl | rfl
          · exact N' _ hI
          · exact N' _ (hsub _ (hl _ _ _ hj'))
        · exact N' _ (hsub p hp)
      cases f with
      | ret v => exact .ret p
      | brk => exact .brk p
      | next => exact .next (fin p)
      | cont => exact .cont (fin p)
  · rintro h' tk m' news' F' N' _ hJ
    exact done m' news' h' tk hJ F' N'
theorem app_list {D : Addr} {items : Array Value} {n : Nat} {v : Value} {L : Addr} {m : Str → Option Value} {news news' : Led} {Q : Value → Shared → Prop} (F : Fr h₀ L s.heap m) (N : News h₀ L s.heap news)
    (U : Upd D (listOf items n) (listOf (items.push v) (n + 1)) news news') (hz : items.size ≤ 10000) (h : ∀ h', Fr h₀ L h' m → News h₀ L h' news' → Q .none { s with heap := h' }) :
    wpAny (model prog w) A (call (.builtin "list.append") [.ref D, v]) Q E s := by
  obtain ⟨pre, post, rfl, rfl, a, b⟩ := U.split
  have z := N (D, listOf items n) (List.mem_append.mpr (.inr (.head _)))
  have hl : s.heap.IsList D items := PySem.IsL.isList (n := n) z.1
  refine wpAny_call_entry slot_list_append hl.typeIs entry_list_append ?_ (args_list_append _ _)
  show wpAny _ _ (updateSeq D (·.push v) >>= fun _ => ret .none) _ _ s
  refine wpAny_bind ?_
  refine wpAny_updateSeq z.1 rfl (wpAny_pure ⟨.none, rfl, ?_⟩) (by rw [sizeLine_eq]; (try rw [Array.size_push]); omega)
  exact h _ (F.change (Heap.SameBut.update ..) z.2.1 z.2.2) (ki_turn _ N a b rfl (by simp))
end
open PySem PySem.W PyProof.Rows
set_option maxRecDepth 100000 in
set_option maxHeartbeats 8000000 in
open_top hd for PySem.Challenge.rw_no0415_01
end Mine
namespace Mine
set_option rowWalk.seconds 0
theorem topOff : True := by
  w_top off
  exact True.intro
end Mine
set_option rowWalk.seconds 0
namespace Mine
open PySem PySem.W PyProof.Rows
local macro_rules | `(tactic| omega) => `(tactic| lia)
noncomputable abbrev VW := Mine.hd.view_39
structure IK where
  u : Array UInt8
  q : Nat
  k : Nat
def tagL (q k : Nat) : List Int := [(k : Int), ((q % 256 : Nat) : Int), ((q / 256 % 256 : Nat) : Int), ((q / 65536 % 256 : Nat) : Int), ((q / 16777216 % 256 : Nat) : Int), ((q / 4294967296 % 256 : Nat) : Int), ((q / 1099511627776 % 256 : Nat) : Int), ((q / 281474976710656 % 256 : Nat) : Int)]
def IK.ints (e : IK) : List Int := KBw.bInts e.u ++ tagL e.q e.k
def ikb (e : IK) : Array UInt8 := byteArr e.ints
structure IK.Ok (e : IK) : Prop where
  q : e.q < 72057594037927936
  k : e.k < 256
  u : e.u.size ≤ 1000
def IK.tag (e : IK) : Int := (e.q : Int) * 256 + e.k
theorem ints_in (e : IK) (h : e.Ok) : KBa.In e.ints := by
  intro n hn
  rcases List.mem_append.mp hn with h1 | h1
  · exact KBw.ints_in h1
  · have := h.k
    simp only [tagL, List.mem_cons, List.not_mem_nil, or_false] at h1
    omega
theorem bInts_ikb (e : IK) (h : e.Ok) : KBw.bInts (ikb e) = e.ints := KBa.ints_make (ints_in e h)
theorem ints_len (e : IK) : e.ints.length = e.u.size + 8 := by simp [IK.ints, tagL, KBw.bInts]
theorem ints_at (e : IK) (j : Nat) : e.ints.getD (e.u.size + j) 0 = (tagL e.q e.k).getD j 0 := by
  unfold IK.ints
  have : (KBw.bInts e.u).length = e.u.size := by simp [KBw.bInts]
  rw [List.getD_eq_getElem?_getD, List.getD_eq_getElem?_getD, List.getElem?_append_right (by omega), this]
  congr 2; omega
theorem tag_sum (e : IK) (h : e.Ok) : (tagL e.q e.k).getD 0 0 + (tagL e.q e.k).getD 1 0 * 256 + (tagL e.q e.k).getD 2 0 * 65536 + (tagL e.q e.k).getD 3 0 * 16777216 + ((tagL e.q e.k).getD 4 0 + (tagL e.q e.k).getD 5 0 * 256 + (tagL e.q e.k).getD 6 0 * 65536 + (tagL e.q e.k).getD 7 0 * 16777216) * 4294967296 = e.tag := by
  have := h.q
  simp only [tagL, List.getD_cons_zero, List.getD_cons_succ, IK.tag]
  omega
def cmpI (a b : IK) : Int := if ltB a.u b.u then -1 else if ltB b.u a.u then 1 else if b.tag < a.tag then -1 else if a.tag < b.tag then 1 else 0
def OrdIn (rest : Led) (o : Addr) : Prop := ∃ (duo uo dd : Addr) (h : Int) (t : Tok) (n : Nat), (o, instObj 284 duo) ∈ rest ∧ (duo, dictOf [⟨h, .str "user_order" t, .ref uo⟩] n) ∈ rest ∧ (uo, instObj 230 dd) ∈ rest ∧ (dd, dictOf [] 0) ∈ rest
-- how a walk of a def begins
-- the premises that every rule of ours has
section
variable {w : World} {dp un : Nat} {gd : Option (List Code)} {cn : Str} {cs : Scope} {a : Addr} {ccd : Value} {cl : List (Str × Addr)} {outer : List Env} {A₀ : Around} {base h₀ : Heap} {L : Addr} {m mg mb : Str → Option Value} {mean : ExcName → Option Value} {s : Shared} {rest : Led}
  {Q E : Value → Shared → Prop}
end
open PySem PySem.W PyProof.Rows
abbrev Row := IK × Array UInt8
abbrev tupObj (vs : List Value) (n : Nat) : Obj := { cls := .type "tuple", data := .seq vs.toArray n }
structure LP where
  h1 : Int
  h2 : Int
  h3 : Int
  t1 : Tok
  t2 : Tok
  t3 : Tok
abbrev LD (q : LP) (r o : Addr) (p : Int) (t : Tok) : Obj := dictOf [⟨q.h1, .str "rows" q.t1, .ref r⟩, ⟨q.h2, .str "order" q.t2, .ref o⟩, ⟨q.h3, .str "place" q.t3, .int p t⟩] 3
structure LeafIn (rest : Led) (c dx o r : Addr) (vs : Array Value) (n2 : Nat) (R : List Row) : Prop where
  inst : (c, instObj 380 dx) ∈ rest
  lst : (r, listOf vs n2) ∈ rest
  len : vs.size = R.length
  row : ∀ (i : Nat) (k : IK) (v : Array UInt8), R[i]? = some (k, v) → ∃ a t1 t2 n, vs[i]? = some (.ref a) ∧ (a, tupObj [.bytes (ikb k) t1, .bytes v t2] n) ∈ rest
  ok : ∀ x ∈ R, x.1.Ok
  small : R.length ≤ 1000
  ord : OrdIn rest o
theorem OrdIn.mono {rest rest' : Led} {o : Addr} (h : OrdIn rest o) (hs : ∀ p ∈ rest, p ∈ rest') : OrdIn rest' o := by
  obtain ⟨duo, uo, dd, hh, tt, n, m1, m2, m3, m4⟩ := h
  exact ⟨duo, uo, dd, hh, tt, n, hs _ m1, hs _ m2, hs _ m3, hs _ m4⟩
section
variable {prog : Program} {w : World} {A : Around} {E : Value → Shared → Prop} {s : Shared} {h₀ : Heap} {L : Addr} {news : Led}
theorem item_list {value slice : Expr} {l : Addr} {items : Array Value} {n : Nat} {k : Int} {u : Tok} {v : Value} {Q : Value → Shared → Prop} (N : News h₀ L s.heap news) (hm : (l, listOf items n) ∈ news)
    (h0 : 0 ≤ k) (hf : k < 2 ^ 63) (hx : items[k.toNat]? = some v) (h : Q v s) (hs : subscripted slice false (.ref l) (.int k u) = operate [.ref l, .int k u] (getItem (.ref l) (.int k u)) := by with_unfolding_all rfl) :
    wpAny (model prog w) A (subscriptTail value slice (.ref l) (.int k u)) Q E s :=
  have hl := News.isList N hm
  tail_any hl.typeIs slot_list_getitem.lookup (wpAny_getItem_list hl h0 hf hx h) hs
end
section
variable {prog : Program} {w : World} {A : Around} {E : Value → Shared → Prop} {s : Shared} {h₀ : Heap} {L : Addr} {news : Led}
theorem item_tup {value slice : Expr} {l : Addr} {items : List Value} {n : Nat} {k : Int} {u : Tok} {v : Value} {Q : Value → Shared → Prop} (N : News h₀ L s.heap news) (hm : (l, tupObj items n) ∈ news)
    (h0 : 0 ≤ k) (hf : k < 2 ^ 63) (hx : items[k.toNat]? = some v) (h : Q v s) (hs : subscripted slice false (.ref l) (.int k u) = operate [.ref l, .int k u] (getItem (.ref l) (.int k u)) := by with_unfolding_all rfl) :
    wpAny (model prog w) A (subscriptTail value slice (.ref l) (.int k u)) Q E s := by
  have ht := News.isTup N hm
  have hlt := (List.getElem?_eq_some_iff.mp hx).1
  refine tail_any ht.typeIs slot_tuple_getitem.lookup (getItem_tuple ht (by omega) hf (j := k.toNat) (by simp [seqIndex?]; omega) (by simpa using hx) h) hs
end
section
variable {w : World} {dp un : Nat} {gd : Option (List Code)} {cn : Str} {cs : Scope} {a : Addr} {ccd : Value} {cl : List (Str × Addr)} {outer : List Env} {A₀ : Around} {base h₀ : Heap} {L : Addr} {m mg mb : Str → Option Value} {mean : ExcName → Option Value} {s : Shared} {rest : Led}
  {Q E : Value → Shared → Prop} {c dx o r : Addr} {vs : Array Value} {n2 : Nat} {R : List Row} {q : LP} {p : Int} {t : Tok}
end
open PySem PySem.W PyProof.Rows
set_option hygiene false in
local macro_rules | `(tactic| obtain $p:rcasesPatMed := $e) => `(tactic| (refine Mine.hide ?_; intro G0 hG0; rcases $e:term with $p:rcasesPatMed <;> (refine hG0 ?_; clear hG0 G0)))
set_option hygiene false in
local macro_rules | `(tactic| obtain $p:rcasesPatMed : $t := $e) => `(tactic| (refine Mine.hide ?_; intro G0 hG0; rcases ($e : $t) with $p:rcasesPatMed <;> (refine hG0 ?_; clear hG0 G0)))
set_option hygiene false in
local macro_rules | `(tactic| obtain rfl : $t := $e) => `(tactic| (rcases ($e : $t) with rfl))
structure KS where
  c : Addr
  kd : Bool
  R : List Row
  fp : Led
  st : Option Nat
def KS.key (k : KS) : Option IK := k.st.bind fun i => (k.R[i]?).map (·.1)
inductive MN | valid | key | value | first | last | seek | step | back
def MN.name : MN → Str
  | .valid => "valid" | .key => "key" | .value => "value" | .first => "seek_first" | .last => "seek_last" | .seek => "seek" | .step => "step" | .back => "back"
def adr : Bool → MN → Addr
  | false, .valid => 321 | false, .key => 370 | false, .value => 377 | false, .first => 335 | false, .last => 342 | false, .seek => 349 | false, .step => 356 | false, .back => 363
  | true, .valid => 426 | true, .key => 496 | true, .value => 503 | true, .first => 440 | true, .last => 447 | true, .seek => 454 | true, .step => 482 | true, .back => 489
def cls : Bool → Addr | false => 380 | true => 506
def Off (fp T : Led) : Prop := ∀ p ∈ fp, ∀ q ∈ T, q.1 ≠ p.1
def Calls (w : World) (D : Nat) (f : Addr) (args : List Value) (fp rest : Led) (post : Value → Led → Prop) : Prop :=
  ∀ (dp un : Nat) (gd : Option (List Code)) (cn : Str) (cs : Scope) (a : Addr) (ccd : Value) (cl : List (Str × Addr)) (outer : List Env) (A₀ : Around) (base h₀ : Heap) (L : Addr) (m mg mb : Str → Option Value) (mean : ExcName → Option Value) (s : Shared) (Q E : Value → Shared → Prop),
    Below A₀ base outer h₀ → Fr h₀ L s.heap m → (Mine.hd.heap_39 w.params).In h₀ → News h₀ L s.heap (fp ++ rest) → Top VW (looseW VW []) mean mg mb h₀ → cs.kind = .function → dp + D < recursionLimit → un + 8 * D < cLine →
    (∀ r fp' h' tk', Fr h₀ L h' m → News h₀ L h' (fp' ++ rest) → post r fp' → Q r { s with heap := h', toks := tk' }) →
    wpAny (model Challenge.rw_no0415_01.row.prog w) (ktrTop dp un gd cn cs L a ccd cl outer) (call (.ref f) args) Q E s
def firstAt (R : List Row) : Option Nat := if R = [] then none else some 0
def lastAt (R : List Row) : Option Nat := if R = [] then none else some (R.length - 1)
def seekAt (R : List Row) (e : IK) : Option Nat := let i := (R.takeWhile fun x => decide (cmpI x.1 e < 0)).length; if i < R.length then some i else none
def nextAt (R : List Row) (i : Nat) : Option Nat := if i + 1 < R.length then some (i + 1) else none
def prevAt (i : Nat) : Option Nat := if i = 0 then none else some (i - 1)
abbrev CurP := Led → Led → Addr → Bool → List Row → Option Nat → Prop
def sameAdr (a b : Led) : Prop := a.map (·.1) = b.map (·.1)
structure CurSpec (w : World) (D : Nat) (C : CurP) : Prop where
  mono : ∀ {fp rest rest' c kd R st}, C fp rest c kd R st → (∀ p ∈ rest, p ∈ rest') → C fp rest' c kd R st
  obj : ∀ {fp rest c kd R st}, C fp rest c kd R st → ∃ dx es n, (c, instObj (cls kd) dx) ∈ rest ∧ (dx, dictOf es n) ∈ fp ∧ ∀ mn : MN, getL mn.name es = some none
  ok : ∀ {fp rest c kd R st}, C fp rest c kd R st → ∀ x ∈ R, x.1.Ok
  size : ∀ {fp rest c kd R st}, C fp rest c kd R st → R.length ≤ 100000 ∧ ∀ i, st = some i → i < R.length
  valid : ∀ {fp rest E0 c kd R st}, C fp rest c kd R st → (∀ p ∈ rest, p ∈ E0) → Calls w D (adr kd .valid) [.ref c] fp E0 fun r fp' => r = .bool st.isSome ∧ fp' = fp
  key : ∀ {fp rest E0 c kd R i x}, C fp rest c kd R (some i) → R[i]? = some x → (∀ p ∈ rest, p ∈ E0) → Calls w D (adr kd .key) [.ref c] fp E0 fun r fp' => (∃ t, r = .bytes (ikb x.1) t) ∧ fp' = fp
  value : ∀ {fp rest E0 c kd R i x}, C fp rest c kd R (some i) → R[i]? = some x → (∀ p ∈ rest, p ∈ E0) → Calls w D (adr kd .value) [.ref c] fp E0 fun r fp' => (∃ t, r = .bytes x.2 t) ∧ fp' = fp
  first : ∀ {fp rest E0 c kd R st}, C fp rest c kd R st → (∀ p ∈ rest, p ∈ E0) → Off fp E0 → Calls w D (adr kd .first) [.ref c] fp E0 fun r fp' => r = .none ∧ sameAdr fp' fp ∧ C fp' rest c kd R (firstAt R)
  last : ∀ {fp rest E0 c kd R st}, C fp rest c kd R st → (∀ p ∈ rest, p ∈ E0) → Off fp E0 → Calls w D (adr kd .last) [.ref c] fp E0 fun r fp' => r = .none ∧ sameAdr fp' fp ∧ C fp' rest c kd R (lastAt R)
  seek : ∀ {fp rest E0 c kd R st} {e : IK} {t : Tok}, C fp rest c kd R st → (∀ p ∈ rest, p ∈ E0) → Off fp E0 → e.Ok → Calls w D (adr kd .seek) [.ref c, .bytes (ikb e) t] fp E0 fun r fp' => r = .none ∧ sameAdr fp' fp ∧ C fp' rest c kd R (seekAt R e)
  step : ∀ {fp rest E0 c kd R i}, C fp rest c kd R (some i) → (∀ p ∈ rest, p ∈ E0) → Off fp E0 → Calls w D (adr kd .step) [.ref c] fp E0 fun r fp' => r = .none ∧ sameAdr fp' fp ∧ C fp' rest c kd R (nextAt R i)
  back : ∀ {fp rest E0 c kd R i}, C fp rest c kd R (some i) → (∀ p ∈ rest, p ∈ E0) → Off fp E0 → Calls w D (adr kd .back) [.ref c] fp E0 fun r fp' => r = .none ∧ sameAdr fp' fp ∧ C fp' rest c kd R (prevAt i)
section
variable {w : World} {dp un D : Nat} {gd : Option (List Code)} {cn : Str} {cs : Scope} {a f : Addr} {ccd : Value} {cl : List (Str × Addr)} {outer : List Env} {A₀ : Around} {base h₀ : Heap} {L : Addr} {m mg mb : Str → Option Value} {mean : ExcName → Option Value} {s : Shared} {news fp rest : Led}
  {Q E : Value → Shared → Prop} {args : List Value} {post : Value → Led → Prop}
theorem Calls.use (H : Calls w D f args fp rest post) (B : Below A₀ base outer h₀) (F : Fr h₀ L s.heap m) (X : (Mine.hd.heap_39 w.params).In h₀) (N : News h₀ L s.heap news) (T : Top VW (looseW VW []) mean mg mb h₀) (hk : cs.kind = .function) (hd : dp + D < recursionLimit) (hu : un + 8 * D < cLine)
    (hs : ∀ p ∈ fp ++ rest, p ∈ news) (k : ∀ r fp' h' tk', Fr h₀ L h' m → News h₀ L h' (fp' ++ rest) → post r fp' → Q r { s with heap := h', toks := tk' }) :
    wpAny (model Challenge.rw_no0415_01.row.prog w) (ktrTop dp un gd cn cs L a ccd cl outer) (call (.ref f) args) Q E s :=
  H dp un gd cn cs a ccd cl outer A₀ base h₀ L m mg mb mean s Q E B F X (news_of N hs) T hk hd hu k
end
def kfps (ks : List KS) : Led := ks.flatMap (·.fp)
structure KidsIn (C : CurP) (rest : Led) (ks : List KS) : Prop where
  cur : ∀ k ∈ ks, C k.fp rest k.c k.kd k.R k.st
  off : ∀ k ∈ ks, Off k.fp rest
  apart : ks.Pairwise fun a b => Off a.fp b.fp
theorem Off.symm {a b : Led} (h : Off a b) : Off b a := fun p hp q hq e => h q hq p hp e.symm
theorem Off.adr {a a' b : Led} (h : Off a b) (e : sameAdr a' a) : Off a' b := fun p hp q hq => by
  have : p.1 ∈ a.map (·.1) := e ▸ List.mem_map_of_mem hp
  obtain ⟨p', hp', e'⟩ := List.mem_map.mp this
  rw [← e']; exact h p' hp' q hq
theorem mem_kfps {ks : List KS} {k : KS} (h : k ∈ ks) : ∀ p ∈ k.fp, p ∈ kfps ks := fun p hp => List.mem_flatMap.mpr ⟨k, h, hp⟩
theorem mem_kfps_set {ks : List KS} {i : Nat} {k' : KS} {p : Addr × Obj} (h : p ∈ kfps (ks.set i k')) : p ∈ k'.fp ∨ p ∈ kfps (ks.eraseIdx i) := by
  obtain ⟨k, hk, hp⟩ := List.mem_flatMap.mp h
  obtain ⟨j, hj⟩ := List.mem_iff_getElem?.mp hk
  by_cases e : i = j
  · subst e
    rw [List.getElem?_set] at hj
    simp only [if_true] at hj
    split at hj
    · cases hj; exact .inl hp
    · cases hj
  · rw [List.getElem?_set_ne e] at hj
    refine .inr (List.mem_flatMap.mpr ⟨k, ?_, hp⟩)
    rw [List.mem_iff_getElem?]
    by_cases hlt : j < i
    · exact ⟨j, by rw [List.getElem?_eraseIdx_of_lt hlt]; exact hj⟩
    · exact ⟨j - 1, by rw [List.getElem?_eraseIdx_of_ge (by omega), show j - 1 + 1 = j by omega]; exact hj⟩
theorem mem_erase_of {ks : List KS} {i : Nat} {p : Addr × Obj} (h : p ∈ kfps (ks.eraseIdx i)) : p ∈ kfps ks := by
  obtain ⟨k, hk, hp⟩ := List.mem_flatMap.mp h
  exact List.mem_flatMap.mpr ⟨k, List.mem_of_mem_eraseIdx hk, hp⟩
theorem off_erase {ks : List KS} {i : Nat} {k : KS} (ha : ks.Pairwise fun a b => Off a.fp b.fp) (hk : ks[i]? = some k) : Off k.fp (kfps (ks.eraseIdx i)) := by
  intro p hp q hq
  obtain ⟨k2, hk2, hq2⟩ := List.mem_flatMap.mp hq
  obtain ⟨j, hj⟩ := List.mem_iff_getElem?.mp hk2
  have hi := (List.getElem?_eq_some_iff.mp hk).1
  rw [List.pairwise_iff_getElem] at ha
  have ek := (List.getElem?_eq_some_iff.mp hk).2
  by_cases hlt : j < i
  · rw [List.getElem?_eraseIdx_of_lt hlt] at hj
    obtain ⟨hj1, hj2⟩ := List.getElem?_eq_some_iff.mp hj
    have := ha j i hj1 hi hlt
    rw [hj2, ek] at this
    exact fun e => this q hq2 p hp e.symm
  · rw [List.getElem?_eraseIdx_of_ge (by omega)] at hj
    obtain ⟨hj1, hj2⟩ := List.getElem?_eq_some_iff.mp hj
    have := ha i (j + 1) hi hj1 (by omega)
    rw [hj2, ek] at this
    exact this p hp q hq2
theorem KidsIn.set {C : CurP} {rest : Led} {ks : List KS} {i : Nat} {k : KS} {fp' : Led} {st' : Option Nat} (K : KidsIn C rest ks) (hk : ks[i]? = some k) (ha : sameAdr fp' k.fp) (hC : C fp' rest k.c k.kd k.R st') :
    KidsIn C rest (ks.set i { k with fp := fp', st := st' }) := by
  have hmem := List.mem_of_getElem? hk
  have hi := (List.getElem?_eq_some_iff.mp hk).1
  have ek := (List.getElem?_eq_some_iff.mp hk).2
  refine ⟨fun k2 h2 => ?_, fun k2 h2 => ?_, ?_⟩
  · rcases List.mem_or_eq_of_mem_set h2 with h | rfl
    · exact K.cur _ h
    · exact hC
  · rcases List.mem_or_eq_of_mem_set h2 with h | rfl
    · exact K.off _ h
    · exact (K.off _ hmem).adr ha
  · have ap := K.apart
    rw [List.pairwise_iff_getElem] at ap ⊢
    intro a b h1 h2 hab
    have h1' : a < ks.length := by simpa using h1
    have h2' : b < ks.length := by simpa using h2
    have := ap a b h1' h2' hab
    rw [List.getElem_set, List.getElem_set]
    split
    · rename_i e
      subst e
      rw [if_neg (by omega)]
      rw [ek] at this
      exact this.adr ha
    · split
      · rename_i e
        subst e
        rw [ek] at this
        exact (this.symm.adr ha).symm
      · exact this
section
variable {w : World} {dp un D : Nat} {gd : Option (List Code)} {cn : Str} {cs : Scope} {a f : Addr} {ccd : Value} {cl : List (Str × Addr)} {outer : List Env} {A₀ : Around} {base h₀ : Heap} {L : Addr} {m mg mb : Str → Option Value} {mean : ExcName → Option Value} {s : Shared} {news ext rest : Led}
  {Q E : Value → Shared → Prop} {args : List Value} {C : CurP} {ks : List KS} {i : Nat} {k : KS} {st' : Option Nat}
end
section
variable {w : World} {dp un D : Nat} {gd : Option (List Code)} {cn : Str} {cs : Scope} {a f c : Addr} {ccd : Value} {cl : List (Str × Addr)} {outer : List Env} {A₀ A : Around} {base h₀ : Heap} {L : Addr} {m mg mb : Str → Option Value} {mean : ExcName → Option Value} {s : Shared} {news fp rest : Led}
  {E : Value → Shared → Prop} {C : CurP} {kd : Bool} {R : List Row} {st : Option Nat}
set_option maxRecDepth 100000 in
set_option maxHeartbeats 8000000 in
theorem gm_cur {pl : Sem Bool} {Q : Value × List Value → Shared → Prop} (S : CurSpec w D C) (hC : C fp rest c kd R st) (F : Fr h₀ L s.heap m) (X : (Mine.hd.heap_39 w.params).In h₀) (N : News h₀ L s.heap news) (hs : ∀ p ∈ fp ++ rest, p ∈ news) (mn : MN)
    (h : Q (.ref (adr kd mn), [.ref c]) s) : wpAny (model Challenge.rw_no0415_01.row.prog w) A (getMethod (.ref c) mn.name pl) Q E s := by
  obtain ⟨dx, es, n, h1, h2, h3⟩ := S.obj hC
  have I := InstAt.of_news N (hs _ (List.mem_append_right _ h1)) (hs _ (List.mem_append_left _ h2))
  have h3 := h3 mn
  revert X
  k_fill
  intro X
  cases kd <;> cases mn <;> exact method_inst F X I (by k_is) (by k_is) (by k_is) h3 h
theorem keep_cur (w : World) (kd : Bool) (mn : MN) : keepIn (Mine.hd.heap_39 w.params) (.ref (adr kd mn)) = true := by
  have : ∀ h : Heap, (Mine.hd.heap_39 w.params).In h → keepIn (Mine.hd.heap_39 w.params) (.ref (adr kd mn)) = true := by
    intro h
    cases kd <;> cases mn <;> (intro X; k_is)
  cases kd <;> cases mn <;> rfl
variable {Q : Value → Shared → Prop}
end
end Mine
namespace Mine
local macro_rules | `(tactic| fail "r") => `(tactic| with_unfolding_all rfl)
set_option hygiene false in
local macro_rules | `(tactic| fail "e") => `(tactic| ((case ho => with_unfolding_all rfl); (case hcd => with_unfolding_all rfl); (case hb => exact fun s => BindsTo.of_eq rfl); (case hl => exact locs rfl); (case c1 => rfl); (case c2 => rfl); (case c3 => rfl); (case c4 => decide)))
open PySem PySem.W PyProof.Rows
abbrev PG : Program := Challenge.rw_no0415_01.row.prog
structure Bx where
  dp : Nat
  un : Nat
  gd : Option (List Code)
  cl : List (Str × Addr)
  outer : List Env
  A₀ : Around
  base : Heap
  g : Heap
  L : Addr
  mg : Str → Option Value
  mb : Str → Option Value
  mean : ExcName → Option Value
structure FnC where
  cn : Str
  cs : Scope
  a : Addr
  cd : Value
def tpx (F : FnC) (b : Bx) : Around := ktrTop b.dp b.un b.gd F.cn F.cs b.L F.a F.cd b.cl b.outer
def evx (F : FnC) (b : Bx) : Env := envX F.cn F.cs b.L F.a F.cd b.cl
structure Okx (w : World) (D : Nat) (b : Bx) : Prop where
  B : Below b.A₀ b.base b.outer b.g
  X : (Mine.hd.heap_39 w.params).In b.g
  T : Top VW (looseW VW []) b.mean b.mg b.mb b.g
  hd : b.dp + D < recursionLimit
  hu : b.un + 8 * D < cLine
def Lx {α : Type} (w : World) (F : FnC) (b : Bx) (t : Sem α) (φ : α → (Str → Option Value) → Led → Prop) (m : Str → Option Value) (led : Led) : Prop :=
  ∀ (s : Shared) (Q : α → Shared → Prop) (E : Value → Shared → Prop), Fr b.g b.L s.heap m → News b.g b.L s.heap led →
    (∀ a m' led' h' tk', φ a m' led' → Fr b.g b.L h' m' → News b.g b.L h' led' → Q a { s with heap := h', toks := tk' }) →
    wpAny (model PG w) (tpx F b) t Q E s
section
variable {w : World} {F : FnC} {b : Bx} {m : Str → Option Value} {led : Led} {φ : Flow → (Str → Option Value) → Led → Prop}
theorem Lx.mono {α : Type} {t : Sem α} {φ ψ : α → (Str → Option Value) → Led → Prop} (h : Lx w F b t φ m led) (hs : ∀ a m' led', φ a m' led' → ψ a m' led') : Lx w F b t ψ m led := fun s Q E f n k => h s Q E f n fun a m' led' h' tk' p => k a m' led' h' tk' (hs _ _ _ p)
theorem lx_nil {env : Env} (h : φ .next m led) : Lx w F b (execs [] env) φ m led := fun s Q E f n k => wpAny_execs_nil (k .next m led s.heap s.toks h f n)
theorem lx_cons {st : Stmt} {rest : List Stmt} {env : Env} {ψ : Flow → (Str → Option Value) → Led → Prop} (h : Lx w F b (exec st env) ψ m led) (h1 : ∀ m' led', ψ .next m' led' → Lx w F b (execs rest env) φ m' led') (h2 : ∀ f m' led', f ≠ .next → ψ f m' led' → φ f m' led') :
    Lx w F b (execs (st :: rest) env) φ m led := fun s Q E f n k => wpAny_execs_cons (h s _ E f n fun fl m' led' h' tk' hp F' N' => by
  cases fl with
  | next => exact h1 _ _ hp _ _ _ F' N' k
  | ret v => exact k _ _ _ _ _ (h2 _ _ _ (by simp) hp) F' N'
  | brk => exact k _ _ _ _ _ (h2 _ _ _ (by simp) hp) F' N'
  | cont => exact k _ _ _ _ _ (h2 _ _ _ (by simp) hp) F' N')
end
def retv (fl : Flow) : Value := match fl with | .ret v => v | _ => .none
section
variable {w : World} {D : Nat} {f : Addr} {args : List Value} {fp rest : Led} {post : Value → Led → Prop} {name qual : Str} {params : Arguments} {body : List Stmt} {scope : Scope} {dV kV doc pm cdv ct oc : Value} {an od : Option Addr} {osl : Array (Option Value)} {binds : List (Str × Value)}
theorem calls_of (ho : (Mine.hd.heap_39 w.params).lookup f = some ⟨oc, od, .func (fnOf name qual params body scope dV kV doc pm an cdv ct), osl⟩) (hcd : codeIn (Mine.hd.heap_39 w.params) cdv qual = true)
    (hbind : ∀ s, BindsTo s (fnOf name qual params body scope dV kV doc pm an cdv ct) ⟨args, []⟩ binds) (hloc : ∀ y ∈ binds, scope.names.lookup y.1 = some .local)
    (hco : scope.isCoroutine = false) (hgen : scope.isGenerator = false) (hk : scope.kind = .function) (hcell : ∀ x ∈ scope.names, x.2 ≠ .cell)
    (h : ∀ b : Bx, Okx w D b → Lx w ⟨qual, scope, f, cdv⟩ b (execs body (evx ⟨qual, scope, f, cdv⟩ b)) (fun fl _ led' => ∃ fp', led' = fp' ++ rest ∧ post (retv fl) fp') (fun y => binds.reverse.lookup y) (fp ++ rest)) :
    Calls w (D + 1) f args fp rest post := by
  intro dp un gd cn cs a ccd cl outer A₀ base h₀ L m mg mb mean s Q E B F X N T hkk hd hu k
  refine wpAny_call ?_
  refine code_def (env := envX cn cs L a ccd cl) (outer := outer) B F X N T rfl rfl hkk ho hcd ?_ (hbind s) hloc (fun g L' h' FG F' N' B' X' T' => ?_) hco hgen hk hcell
  · show dp < recursionLimit; omega
  · refine h ⟨dp + 1, un + 3, gd, [], envX cn cs L a ccd cl :: outer, _, base, g, L', mg, mb, mean⟩ ⟨B', X', T', by show dp + 1 + D < _; omega, by show un + 3 + 8 * D < _; omega⟩ _ _ _ F' N' ?_
    intro fl m' led' h'' tk' hp F'' N''
    obtain ⟨fp', rfl, hp⟩ := hp
    refine leaveK_ F'' N'' fun F3 N3 => ?_
    exact k _ _ _ _ F3 N3 hp
end
def Rx {α : Type} (w : World) (F : FnC) (b : Bx) (t : Sem α) (v : Nat → α) (k : Nat) (m : Str → Option Value) (led : Led) : Prop :=
  ∀ (s : Shared) (Q : α → Shared → Prop) (E : Value → Shared → Prop), Fr b.g b.L s.heap m → News b.g b.L s.heap led → Q (v s.toks) { s with toks := s.toks + k } → wpAny (model PG w) (tpx F b) t Q E s
def ms (m : Str → Option Value) (x : Str) (v : Value) : Str → Option Value := fun y => if y = x then some v else m y
section
variable {w : World} {D : Nat} {F : FnC} {b : Bx} {m : Str → Option Value} {led : Led} {φ : Flow → (Str → Option Value) → Led → Prop} {x name : Str} {p pos : Pos} {v : Value} {r C dx : Addr} {es : List DictEntry} {n : Nat}
theorem rx_name (hv : m x = some v) (hk : F.cs.kind = .function) (hx : (evx F b).kindOf x = some .local) (hd : (x == ("__debug__" : Str)) = false) : Rx w F b (eval (.Name x p) (evx F b)) (fun _ => v) 0 m led :=
  fun _ _ _ f _ q => nameX_L f hv q hk hx hd
theorem rx_none {k pos} {env : Env} : Rx w F b (eval (.Constant .none k pos) env) (fun _ => .none) 0 m led := fun _ _ _ _ _ q => wpAny_Constant_none q
theorem rx_bool {c : Bool} {k pos} {env : Env} : Rx w F b (eval (.Constant (.bool c) k pos) env) (fun _ => .bool c) 0 m led := fun _ _ _ _ _ q => wpAny_Constant_bool q
theorem rx_int {i : Int} {k pos} {env : Env} : Rx w F b (eval (.Constant (.int i) k pos) env) (fun t => .int i t) 1 m led := fun _ _ _ _ _ q => wpAny_Constant_int q
theorem rx_attr {at' : Option Value} (ok : Okx w D b) (hv : m x = some (.ref r)) (m1 : (r, instObj C dx) ∈ led) (m2 : (dx, dictOf es n) ∈ led) (hg : plainGet (Mine.hd.heap_39 w.params) C name = true) (hh : hasDictIn (Mine.hd.heap_39 w.params) C = true)
    (ha : findIn (Mine.hd.heap_39 w.params) (.ref C) name = some at') (hn : noGet (Mine.hd.heap_39 w.params) at' = true) (hl : getL name es = some (some v)) (hw : handedIn v = true)
    (hk : F.cs.kind = .function) (hx : (evx F b).kindOf x = some .local) (hd : (x == ("__debug__" : Str)) = false)
    (he : eval (.Attribute (.Name x p) name pos) (evx F b) = (do
      let o ← eval (.Name x p) (evx F b)
      standAt pos.atName
      let q ← holding [o] (getAttr o name true)
      letTemporaryGo (.Name x p) o q
      pure q)) : Rx w F b (eval (.Attribute (.Name x p) name pos) (evx F b)) (fun _ => v) 1 m led :=
  fun _ _ _ f N q => attr_L f ok.X hv (InstAt.of_news N m1 m2) hg hh ha hn hl hw q hk hx hd he
end
section
variable {w : World} {D D' : Nat} {F : FnC} {b : Bx} {m : Str → Option Value} {led : Led} {φ : Flow → (Str → Option Value) → Led → Prop} {ψ : Value → (Str → Option Value) → Led → Prop} {x name : Str} {p pos : Pos} {v : Value} {r C dx f : Addr} {es : List DictEntry} {n : Nat} {env : Env}
theorem lx_expr {e : Expr} (h : Lx w F b (eval e env) (fun _ => φ .next) m led) (hi : interactive env = false) (hs : swapsWith e none pos.line env = pure false) : Lx w F b (exec (.Expr e pos) env) φ m led :=
  fun s Q E f N q => wpAny_Expr_any (h s _ E f N fun a m' led' h' tk' hp F' N' => q _ _ _ h' tk' hp F' N') hi hs
theorem lx_retC {e : Expr} (h : Lx w F b (eval e env) (fun v => φ (.ret v)) m led) : Lx w F b (exec (.Return (some e) pos) env) φ m led :=
  fun s Q E f N q => wpAny_Return_some (h s _ E f N fun a m' led' h' tk' hp F' N' => q _ _ _ h' tk' hp F' N')
theorem lx_nameC {value : Expr} {pos' : Pos} (h : Lx w F b (eval value (evx F b)) (fun v m' led' => φ .next (ms m' x v) led') m led) (hk : F.cs.kind = .function) (hx : (evx F b).kindOf x = some .local)
    (hs : swapsWith value (some (.Name x pos')) pos.line (evx F b) = pure false) : Lx w F b (exec (.Assign [.Name x pos'] value pos) (evx F b)) φ m led :=
  fun s Q E f N q => wpAny_Assign_Name (h s _ E f N fun a m' led' h' tk' hp F' N' => storeX_L F' N' (fun h'' F'' N'' => q _ _ _ h'' _ hp F'' N'') hk hx) hs
theorem lx_ifC {test : Expr} {body orelse : List Stmt} {θ : Bool → (Str → Option Value) → Led → Prop} (h : Lx w F b (isTrue test env (eval test env)) θ m led) (h1 : ∀ m' led', θ true m' led' → Lx w F b (execs body env) φ m' led')
    (h2 : ∀ m' led', θ false m' led' → Lx w F b (execs orelse env) φ m' led') : Lx w F b (exec (.If test body orelse pos) env) φ m led := fun s Q E f N q => wpAny_If (h s _ E f N fun a m' led' h' tk' hp F' N' => by
  cases a with
  | true => exact h1 _ _ hp _ _ _ F' N' q
  | false => exact h2 _ _ hp _ _ _ F' N' q)
theorem lx_call {args : List Value} {fp rest : Led} {post : Value → Led → Prop} (ok : Okx w D b) (hk : F.cs.kind = .function) (hD : D' ≤ D) (H : Calls w D' f args fp rest post) (hs : ∀ p ∈ fp ++ rest, p ∈ led) (hp : ∀ r fp', post r fp' → ψ r m (fp' ++ rest)) :
    Lx w F b (call (.ref f) args) ψ m led := fun s Q E F' N q =>
  H.use ok.B F' ok.X N ok.T hk (by have := ok.hd; omega) (by have := ok.hu; omega) hs fun r fp' h' tk' F'' N'' hr => q _ _ _ h' tk' (hp _ _ hr) F'' N''
end
def turnφ (φ : Flow → (Str → Option Value) → Led → Prop) (J : Nat → (Str → Option Value) → Led → Prop) (n : Nat) : Flow → (Str → Option Value) → Led → Prop
  | .next, m', led' => ∃ n', n' < n ∧ J n' m' led'
  | .cont, m', led' => ∃ n', n' < n ∧ J n' m' led'
  | .brk, m', led' => φ .next m' led'
  | .ret v, m', led' => φ (.ret v) m' led'
section
variable {w : World} {D D' : Nat} {F : FnC} {b : Bx} {m : Str → Option Value} {led : Led} {φ : Flow → (Str → Option Value) → Led → Prop} {θ : Bool → (Str → Option Value) → Led → Prop} {env : Env} {pos : Pos}
theorem lx_while {test : Expr} {body : List Stmt} (J : Nat → (Str → Option Value) → Led → Prop) (n₀ : Nat) (hJ : J n₀ m led)
    (turn : ∀ n m₁ led₁, J n m₁ led₁ → Lx w F b (isTrue test env (eval test env)) (fun c m' led' => if c = true then Lx w F b (execs body env) (turnφ φ J n) m' led' else φ .next m' led') m₁ led₁) :
    Lx w F b (exec (.While test body [] pos) env) φ m led := fun s Q E f N q => by
  refine wpAny_mono (E := fun _ _ => False) (While_inv2 J (n₀ := n₀) (Q := Q) f N hJ (fun n m₁ news₁ h₁ tk₁ F₁ N₁ J₁ => ?_) ?_) (fun _ _ x => x) fun _ _ x => x.elim
  · refine turn n m₁ news₁ J₁ _ _ _ F₁ N₁ fun c m' led' h' tk' hp F' N' => ?_
    cases c with
    | false => exact q _ _ _ h' tk' hp F' N'
    | true =>
      show wpAny _ _ (execs body env) (WhileStep2 b.g b.L s J Q n) _ _
      refine hp _ _ _ F' N' fun fl m2 led2 h2 tk2 hp2 F2 N2 => ?_
      cases fl with
      | next => obtain ⟨n', hn, hJ'⟩ := hp2; exact ⟨h2, tk2, m2, led2, n', rfl, F2, N2, hn, hJ'⟩
      | cont => obtain ⟨n', hn, hJ'⟩ := hp2; exact ⟨h2, tk2, m2, led2, n', rfl, F2, N2, hn, hJ'⟩
      | brk => exact q _ _ _ h2 tk2 hp2 F2 N2
      | ret v => exact q _ _ _ h2 tk2 hp2 F2 N2
  · passes_own
end
def kφ (w : World) (F : FnC) (b : Bx) (env : Env) (rest : List Stmt) (φ : Flow → (Str → Option Value) → Led → Prop) : Flow → (Str → Option Value) → Led → Prop
  | .next, m', led' => Lx w F b (execs rest env) φ m' led'
  | .brk, m', led' => φ .brk m' led'
  | .cont, m', led' => φ .cont m' led'
  | .ret v, m', led' => φ (.ret v) m' led'
section
variable {w : World} {D D' : Nat} {F : FnC} {b : Bx} {m : Str → Option Value} {led : Led} {φ : Flow → (Str → Option Value) → Led → Prop} {ψ : Value → (Str → Option Value) → Led → Prop} {env : Env} {pos : Pos} {C f : Addr} {name x : Str}
theorem lx_seq {st : Stmt} {rest : List Stmt} (h : Lx w F b (exec st env) (kφ w F b env rest φ) m led) : Lx w F b (execs (st :: rest) env) φ m led :=
  fun s Q E f N q => wpAny_execs_cons (h s _ E f N fun fl m' led' h' tk' hp F' N' => by
    cases fl with
    | next => exact hp _ _ _ F' N' q
    | ret v => exact q _ _ _ _ _ hp F' N'
    | brk => exact q _ _ _ _ _ hp F' N'
    | cont => exact q _ _ _ _ _ hp F' N')
theorem rx_cur {pl : Sem Bool} {Cu : CurP} {fp rest : Led} {c : Addr} {kd : Bool} {R : List Row} {st : Option Nat} (ok : Okx w D b) (S : CurSpec w D' Cu) (hC : Cu fp rest c kd R st) (hs : ∀ p ∈ fp ++ rest, p ∈ led) (mn : MN) :
    Rx w F b (getMethod (.ref c) mn.name pl) (fun _ => (.ref (adr kd mn), [.ref c])) 0 m led := fun _ _ _ f N q => gm_cur S hC f ok.X N hs mn q
end
section
variable {w : World} {D : Nat} {F : FnC} {b : Bx} {m : Str → Option Value} {led : Led} {φ : Flow → (Str → Option Value) → Led → Prop} {env : Env} {pos : Pos}
theorem lx_break (h : φ .brk m led) : Lx w F b (exec (.Break pos) env) φ m led := fun s Q E f N q => wpAny_Break (q _ _ _ s.heap s.toks h f N)
theorem lx_continue (h : φ .cont m led) : Lx w F b (exec (.Continue pos) env) φ m led := fun s Q E f N q => wpAny_Continue (q _ _ _ s.heap s.toks h f N)
theorem lx_ret0 (h : φ (.ret .none) m led) : Lx w F b (exec (.Return none pos) env) φ m led := fun s Q E f N q => wpAny_Return_none (q _ _ _ s.heap s.toks h f N)
section
variable {x y : Int} {t u : Tok}
end
end
section
variable {w : World} {D : Nat} {F : FnC} {b : Bx} {m : Str → Option Value} {led : Led} {x : Str} {v : Value} {p : Pos}
theorem rx_glob (ok : Okx w D b) (e : nsIn (Mine.hd.heap_39 w.params) mainGlobals x = some (some v)) (hk : F.cs.kind = .function) (hx : (evx F b).kindOf x = some .globalImplicit) (hd : (x == ("__debug__" : Str)) = false) :
    Rx w F b (eval (.Name x p) (evx F b)) (fun _ => v) 0 m led := fun _ _ _ f _ q => nameX_K f ok.X (topRead_of ok.T) e q hk hx hd
end
section
variable {w : World} {D : Nat} {F : FnC} {b : Bx} {m : Str → Option Value} {led : Led} {ψ : Value → (Str → Option Value) → Led → Prop} {name : Str} {pos apos : Pos} {env : Env} {pl : Sem Bool} {ov fv : Value} {first : List Value} {k k2 : Nat} {o e : Expr} {rest : List Expr} {vs : Nat → List Value}
end
section
variable {w : World} {D : Nat} {F : FnC} {b : Bx} {m : Str → Option Value} {led : Led} {φ : Flow → (Str → Option Value) → Led → Prop} {pos : Pos} {value : Expr} {x y z : Str} {px py pz tpos : Pos}
theorem lx_tup3 {k} (h : Lx w F b (eval value (evx F b)) (fun v m' led' => ∃ t v1 v2 v3 n, v = .ref t ∧ (t, ({ cls := .type "tuple", data := .seq (List.toArray [v1, v2, v3]) n } : Obj)) ∈ led' ∧ φ .next (ms (ms (ms m' x v1) y v2) z v3) led') m led)
    (hk : F.cs.kind = .function) (hx : (evx F b).kindOf x = some .local) (hy : (evx F b).kindOf y = some .local) (hz : (evx F b).kindOf z = some .local)
    (hs : swapsWithSole [.Tuple [.Name x px, .Name y py, .Name z pz] k tpos] value pos.line (evx F b) = pure false) (hw : swappedStores [.Tuple [.Name x px, .Name y py, .Name z pz] k tpos] value (evx F b) = pure none) :
    Lx w F b (exec (.Assign [.Tuple [.Name x px, .Name y py, .Name z pz] k tpos] value pos) (evx F b)) φ m led := fun s Q E f N q =>
  Assign_Tuple (h s _ E f N fun v m' led' h' tk' hp F' N' => by
    obtain ⟨t, v1, v2, v3, n, rfl, ht, hp⟩ := hp
    refine unpackN_ F' N' (News.isTup N' ht) rfl rfl rfl fun h2 F2 N2 => ?_
    refine assignInOrder_cons (assign_Name (storeX_L F2 N2 (fun h3 F3 N3 => ?_) hk hx))
    refine assignInOrder_cons (assign_Name (storeX_L F3 N3 (fun h4 F4 N4 => ?_) hk hy))
    refine assignInOrder_cons (assign_Name (storeX_L F4 N4 (fun h5 F5 N5 => ?_) hk hz))
    exact assignInOrder_nil (q _ _ _ _ _ hp F5 N5)) hs hw
end
section
variable {w : World} {D : Nat} {F : FnC} {b : Bx} {m : Str → Option Value} {led : Led} {ψ : Value → (Str → Option Value) → Led → Prop} {env : Env} {pos : Pos}
end
open PySem PySem.W PyProof.Rows
set_option linter.unusedVariables false
def Px {α : Type} (w : World) (F : FnC) (b : Bx) (t : Sem α) (P : α → Prop) (m : Str → Option Value) (led : Led) : Prop :=
  ∀ (s : Shared) (Q : α → Shared → Prop) (E : Value → Shared → Prop), Fr b.g b.L s.heap m → News b.g b.L s.heap led →
    (∀ a h' tk', P a → Fr b.g b.L h' m → News b.g b.L h' led → Q a { s with heap := h', toks := tk' }) → wpAny (model PG w) (tpx F b) t Q E s
def IsI (i : Int) (v : Value) : Prop := ∃ t, v = .int i t
def IsB (x : Array UInt8) (v : Value) : Prop := ∃ t, v = .bytes x t
section
variable {w : World} {D D' : Nat} {F : FnC} {b : Bx} {m : Str → Option Value} {led : Led} {α : Type} {t : Sem α} {P P' : α → Prop} {env : Env} {pos : Pos} {x name : Str} {p apos : Pos} {v fv : Value} {r C dx f : Addr} {es : List DictEntry} {n : Nat}
theorem Rx.px {v : Nat → α} {k : Nat} (h : Rx w F b t v k m led) (hp : ∀ t, P (v t)) : Px w F b t P m led :=
  fun s Q E f N q => h s Q E f N (q _ s.heap _ (hp _) f N)
theorem Px.mono (h : Px w F b t P m led) (hp : ∀ a, P a → P' a) : Px w F b t P' m led := fun s Q E f N q => h s Q E f N fun a h' tk' pa => q a h' tk' (hp a pa)
theorem Px.lx {φ : α → (Str → Option Value) → Led → Prop} (h : Px w F b t P m led) (hp : ∀ a, P a → φ a m led) : Lx w F b t φ m led :=
  fun s Q E f N q => h s Q E f N fun a h' tk' pa F' N' => q a m led h' tk' (hp a pa) F' N'
theorem Lx.sub {φ : α → (Str → Option Value) → Led → Prop} {led' : Led} (hs : ∀ p ∈ led', p ∈ led) (h : Lx w F b t φ m led') : Lx w F b t φ m led := fun s Q E f N q => h s Q E f (news_of N hs) q
theorem px_name (hv : m x = some v) (hk : F.cs.kind = .function) (hx : (evx F b).kindOf x = some .local) (hd : (x == ("__debug__" : Str)) = false) : Px w F b (eval (.Name x p) (evx F b)) (fun a => a = v) m led :=
  (rx_name hv hk hx hd).px fun _ => rfl
theorem px_nameP {P : Value → Prop} (hv : ∃ v, m x = some v ∧ P v) (hk : F.cs.kind = .function) (hx : (evx F b).kindOf x = some .local) (hd : (x == ("__debug__" : Str)) = false) : Px w F b (eval (.Name x p) (evx F b)) P m led := by
  obtain ⟨v, hv, hp⟩ := hv
  exact (rx_name hv hk hx hd).px fun _ => hp
theorem px_glob (ok : Okx w D b) (e : nsIn (Mine.hd.heap_39 w.params) mainGlobals x = some (some v)) (hk : F.cs.kind = .function) (hx : (evx F b).kindOf x = some .globalImplicit) (hd : (x == ("__debug__" : Str)) = false) :
    Px w F b (eval (.Name x p) (evx F b)) (fun a => a = v) m led := (rx_glob ok e hk hx hd).px fun _ => rfl
theorem px_globI {i : Int} {t : Tok} (ok : Okx w D b) (e : nsIn (Mine.hd.heap_39 w.params) mainGlobals x = some (some (.int i t))) (hk : F.cs.kind = .function) (hx : (evx F b).kindOf x = some .globalImplicit) (hd : (x == ("__debug__" : Str)) = false) :
    Px w F b (eval (.Name x p) (evx F b)) (IsI i) m led := (rx_glob ok e hk hx hd).px fun _ => ⟨_, rfl⟩
theorem px_int {i : Int} {k pos} : Px w F b (eval (.Constant (.int i) k pos) env) (IsI i) m led := rx_int.px fun _ => ⟨_, rfl⟩
theorem px_none {k pos} : Px w F b (eval (.Constant .none k pos) env) (fun a => a = .none) m led := rx_none.px fun _ => rfl
theorem px_bool {c : Bool} {k pos} : Px w F b (eval (.Constant (.bool c) k pos) env) (fun a => a = .bool c) m led := rx_bool.px fun _ => rfl
theorem px_bytes {c : List UInt8} {k pos} : Px w F b (eval (.Constant (.bytes c) k pos) env) (IsB c.toArray) m led := fun s Q E f N q => Constant_bytes (q _ s.heap _ ⟨_, rfl⟩ f N)
theorem px_attr {at' : Option Value} (ok : Okx w D b) (hv : m x = some (.ref r)) (m1 : (r, instObj C dx) ∈ led) (m2 : (dx, dictOf es n) ∈ led) (hl : getL name es = some (some v)) (hw : handedIn v = true) (hg : plainGet (Mine.hd.heap_39 w.params) C name = true) (hh : hasDictIn (Mine.hd.heap_39 w.params) C = true)
    (ha : findIn (Mine.hd.heap_39 w.params) (.ref C) name = some at') (hn : noGet (Mine.hd.heap_39 w.params) at' = true)
    (hk : F.cs.kind = .function) (hx : (evx F b).kindOf x = some .local) (hd : (x == ("__debug__" : Str)) = false)
    (he : eval (.Attribute (.Name x p) name pos) (evx F b) = (do
      let o ← eval (.Name x p) (evx F b)
      standAt pos.atName
      let q ← holding [o] (getAttr o name true)
      letTemporaryGo (.Name x p) o q
      pure q)) : Px w F b (eval (.Attribute (.Name x p) name pos) (evx F b)) (fun a => a = v) m led :=
  (rx_attr ok hv m1 m2 hg hh ha hn hl hw hk hx hd he).px fun _ => rfl
theorem px_call {args : List Value} {fp : Led} {post : Value → Led → Prop} {P : Value → Prop} (ok : Okx w D b) (H : Calls w D' f args fp led post) (hp : ∀ r fp', post r fp' → P r) (hs : ∀ p ∈ fp, p ∈ led) (hk : F.cs.kind = .function) (hD : D' ≤ D) :
    Px w F b (call (.ref f) args) P m led := fun s Q E F' N q =>
  H.use ok.B F' ok.X N ok.T hk (by have := ok.hd; omega) (by have := ok.hu; omega) (fun p hm => (List.mem_append.mp hm).elim (hs p) _root_.id) fun r fp' h' tk' F'' N'' hr => q _ _ _ (hp _ _ hr) F'' (news_of N'' fun _ hp => List.mem_append_right _ hp)
theorem px_meth {pl : Sem Bool} (ok : Okx w D b) (m1 : (r, instObj C dx) ∈ led) (m2 : (dx, dictOf es n) ∈ led) (hl : getL name es = some none) (hg : plainGet (Mine.hd.heap_39 w.params) C name = true) (hf : findIn (Mine.hd.heap_39 w.params) (.ref C) name = some (some (.ref f))) (hb : isFn (Mine.hd.heap_39 w.params) (.ref f) = true) :
    Px w F b (getMethod (.ref r) name pl) (fun a => a = (.ref f, [.ref r])) m led := fun s Q E f N q => method_inst f ok.X (InstAt.of_news N m1 m2) hg hf hb hl (q _ _ _ rfl f N)
theorem px_cur {pl : Sem Bool} {Cu : CurP} {fp rest : Led} {c : Addr} {kd : Bool} {R : List Row} {st : Option Nat} (ok : Okx w D b) (S : CurSpec w D' Cu) (hC : Cu fp rest c kd R st) (hs : ∀ p ∈ fp ++ rest, p ∈ led) (mn : MN) :
    Px w F b (getMethod (.ref c) mn.name pl) (fun a => a = (.ref (adr kd mn), [.ref c])) m led := (rx_cur ok S hC hs mn).px fun _ => rfl
theorem px_args1 {e : Expr} {P : Value → Prop} (h1 : Px w F b (eval e env) P m led) (he : starEach [e] env = (false, eval e env) :: starEach [] env) :
    Px w F b (spliced (backTo pos (starEach [e] env))) (fun vs => ∃ v, vs = [v] ∧ P v) m led := fun s Q E f N q =>
  args_cons (h1 s _ E f N fun a h' tk' pa F' N' => args_nil (q _ _ _ ⟨a, rfl, pa⟩ F' N')) he
theorem px_args2 {e e2 : Expr} {P P2 : Value → Prop} (h1 : Px w F b (eval e env) P m led) (h2 : Px w F b (eval e2 env) P2 m led) (he : starEach [e, e2] env = (false, eval e env) :: starEach [e2] env) (he2 : starEach [e2] env = (false, eval e2 env) :: starEach [] env) :
    Px w F b (spliced (backTo pos (starEach [e, e2] env))) (fun vs => ∃ v v2, vs = [v, v2] ∧ P v ∧ P2 v2) m led := fun s Q E f N q =>
  args_cons (h1 s _ E f N fun a h' tk' pa F' N' => args_cons (h2 _ _ E F' N' fun a2 h2' tk2' pa2 F2' N2' => args_nil (q _ _ _ ⟨a, a2, rfl, pa, pa2⟩ F2' N2')) he2) he
theorem px_args3 {e e2 e3 : Expr} {P P2 P3 : Value → Prop} (h1 : Px w F b (eval e env) P m led) (h2 : Px w F b (eval e2 env) P2 m led) (h3 : Px w F b (eval e3 env) P3 m led) (he : starEach [e, e2, e3] env = (false, eval e env) :: starEach [e2, e3] env) (he2 : starEach [e2, e3] env = (false, eval e2 env) :: starEach [e3] env) (he3 : starEach [e3] env = (false, eval e3 env) :: starEach [] env) :
    Px w F b (spliced (backTo pos (starEach [e, e2, e3] env))) (fun vs => ∃ v v2 v3, vs = [v, v2, v3] ∧ P v ∧ P2 v2 ∧ P3 v3) m led := fun s Q E f N q =>
  args_cons (h1 s _ E f N fun a h' tk' pa F' N' => args_cons (h2 _ _ E F' N' fun a2 h2' tk2' pa2 F2' N2' => args_cons (h3 _ _ E F2' N2' fun a3 h3' tk3' pa3 F3' N3' => args_nil (q _ _ _ ⟨a, a2, a3, rfl, pa, pa2, pa3⟩ F3' N3')) he3) he2) he
theorem lm0 {o : Expr} {pl : Sem Bool} {ov : Value} {first : List Value} {ψ : Value → (Str → Option Value) → Led → Prop} (ok : Okx w D b) (h1 : Px w F b (eval o env) (fun a => a = ov) m led) (h2 : Px w F b (getMethod ov name pl) (fun a => a = (fv, first)) m led) (h4 : Lx w F b (call fv (first ++ [])) ψ m led) (hk : keepIn (Mine.hd.heap_39 w.params) fv = true)
    (he : eval (.Call (.Attribute o name apos) [] [] pos) env = (do
      let ov ← eval o env
      standAt apos.atName
      let (f, first) ← holding [ov] (getMethod ov name pl)
      callWith pos f first (backTo pos (starEach [] env)) [])) : Lx w F b (eval (.Call (.Attribute o name apos) [] [] pos) env) ψ m led :=
  fun s Q E f N q => MethodCall_ (h1 s _ E f N fun a h' tk' pa F' N' => by subst pa; exact h2 _ _ E F' N' fun a h2' tk2' pa F2' N2' => by subst pa; exact callWith_K0 (ok.X.keeps F2'.keep) hk (h4 _ _ _ F2' N2' q)) he
theorem pm0 {o : Expr} {pl : Sem Bool} {ov : Value} {first : List Value} {P : Value → Prop} (ok : Okx w D b) (h1 : Px w F b (eval o env) (fun a => a = ov) m led) (h2 : Px w F b (getMethod ov name pl) (fun a => a = (fv, first)) m led) (h4 : Px w F b (call fv (first ++ [])) P m led) (hk : keepIn (Mine.hd.heap_39 w.params) fv = true)
    (he : eval (.Call (.Attribute o name apos) [] [] pos) env = (do
      let ov ← eval o env
      standAt apos.atName
      let (f, first) ← holding [ov] (getMethod ov name pl)
      callWith pos f first (backTo pos (starEach [] env)) [])) : Px w F b (eval (.Call (.Attribute o name apos) [] [] pos) env) P m led :=
  fun s Q E f N q => MethodCall_ (h1 s _ E f N fun a h' tk' pa F' N' => by subst pa; exact h2 _ _ E F' N' fun a h2' tk2' pa F2' N2' => by subst pa; exact callWith_K0 (ok.X.keeps F2'.keep) hk (h4 _ _ _ F2' N2' q)) he
theorem lm1 {o e : Expr} {rest : List Expr} {pl : Sem Bool} {ov : Value} {first : List Value} {A : List Value → Prop} {ψ : Value → (Str → Option Value) → Led → Prop} (ok : Okx w D b) (h1 : Px w F b (eval o env) (fun a => a = ov) m led) (h2 : Px w F b (getMethod ov name pl) (fun a => a = (fv, first)) m led)
    (h3 : Px w F b (spliced (backTo pos (starEach (e :: rest) env))) A m led) (h4 : ∀ vs, A vs → Lx w F b (call fv (first ++ vs)) ψ m led) (hk : keepIn (Mine.hd.heap_39 w.params) fv = true)
    (ha : starEach (e :: rest) env = (false, eval e env) :: starEach rest env) (hp : (backTo pos (starEach rest env)).any (·.1) = false)
    (he : eval (.Call (.Attribute o name apos) (e :: rest) [] pos) env = (do
      let ov ← eval o env
      standAt apos.atName
      let (f, first) ← holding [ov] (getMethod ov name pl)
      callWith pos f first (backTo pos (starEach (e :: rest) env)) [])) : Lx w F b (eval (.Call (.Attribute o name apos) (e :: rest) [] pos) env) ψ m led :=
  fun s Q E f N q => MethodCall_ (h1 s _ E f N fun a h' tk' pa F' N' => by
    subst pa
    exact h2 _ _ E F' N' fun a h2' tk2' pa F2' N2' => by
      subst pa
      exact callWith_K ok.X hk (h3 _ _ E F2' N2' fun vs h3' tk3' pa F3' N3' => ⟨ok.X.keeps F3'.keep, h4 vs pa _ _ _ F3' N3' q⟩) ha hp) he
theorem pm1 {o e : Expr} {rest : List Expr} {pl : Sem Bool} {ov : Value} {first : List Value} {A : List Value → Prop} {P : Value → Prop} (ok : Okx w D b) (h1 : Px w F b (eval o env) (fun a => a = ov) m led) (h2 : Px w F b (getMethod ov name pl) (fun a => a = (fv, first)) m led)
    (h3 : Px w F b (spliced (backTo pos (starEach (e :: rest) env))) A m led) (h4 : ∀ vs, A vs → Px w F b (call fv (first ++ vs)) P m led) (hk : keepIn (Mine.hd.heap_39 w.params) fv = true)
    (ha : starEach (e :: rest) env = (false, eval e env) :: starEach rest env) (hp : (backTo pos (starEach rest env)).any (·.1) = false)
    (he : eval (.Call (.Attribute o name apos) (e :: rest) [] pos) env = (do
      let ov ← eval o env
      standAt apos.atName
      let (f, first) ← holding [ov] (getMethod ov name pl)
      callWith pos f first (backTo pos (starEach (e :: rest) env)) [])) : Px w F b (eval (.Call (.Attribute o name apos) (e :: rest) [] pos) env) P m led :=
  fun s Q E f N q => MethodCall_ (h1 s _ E f N fun a h' tk' pa F' N' => by
    subst pa
    exact h2 _ _ E F' N' fun a h2' tk2' pa F2' N2' => by
      subst pa
      exact callWith_K ok.X hk (h3 _ _ E F2' N2' fun vs h3' tk3' pa F3' N3' => ⟨ok.X.keeps F3'.keep, h4 vs pa _ _ _ F3' N3' q⟩) ha hp) he
theorem lf1 {o e : Expr} {rest : List Expr} {A : List Value → Prop} {ψ : Value → (Str → Option Value) → Led → Prop} (ok : Okx w D b) (h1 : Px w F b (eval o env) (fun a => a = fv) m led)
    (h3 : Px w F b (spliced (backTo pos (starEach (e :: rest) env))) A m led) (h4 : ∀ vs, A vs → Lx w F b (call fv ([] ++ vs)) ψ m led) (hk : keepIn (Mine.hd.heap_39 w.params) fv = true)
    (ha : starEach (e :: rest) env = (false, eval e env) :: starEach rest env) (hp : (backTo pos (starEach rest env)).any (·.1) = false)
    (he : eval (.Call o (e :: rest) [] pos) env = (do callWith pos (← eval o env) [] (backTo pos (starEach (e :: rest) env)) (backToKw pos (keywordEach [] env)))) : Lx w F b (eval (.Call o (e :: rest) [] pos) env) ψ m led :=
  fun s Q E f N q => Call_ (h1 s _ E f N fun a h' tk' pa F' N' => by
    subst pa
    exact callWith_K ok.X hk (h3 _ _ E F' N' fun vs h3' tk3' pa F3' N3' => ⟨ok.X.keeps F3'.keep, h4 vs pa _ _ _ F3' N3' q⟩) ha hp) he
theorem pf1 {o e : Expr} {rest : List Expr} {A : List Value → Prop} {P : Value → Prop} (ok : Okx w D b) (h1 : Px w F b (eval o env) (fun a => a = fv) m led)
    (h3 : Px w F b (spliced (backTo pos (starEach (e :: rest) env))) A m led) (h4 : ∀ vs, A vs → Px w F b (call fv ([] ++ vs)) P m led) (hk : keepIn (Mine.hd.heap_39 w.params) fv = true)
    (ha : starEach (e :: rest) env = (false, eval e env) :: starEach rest env) (hp : (backTo pos (starEach rest env)).any (·.1) = false)
    (he : eval (.Call o (e :: rest) [] pos) env = (do callWith pos (← eval o env) [] (backTo pos (starEach (e :: rest) env)) (backToKw pos (keywordEach [] env)))) : Px w F b (eval (.Call o (e :: rest) [] pos) env) P m led :=
  fun s Q E f N q => Call_ (h1 s _ E f N fun a h' tk' pa F' N' => by
    subst pa
    exact callWith_K ok.X hk (h3 _ _ E F' N' fun vs h3' tk3' pa F3' N3' => ⟨ok.X.keeps F3'.keep, h4 vs pa _ _ _ F3' N3' q⟩) ha hp) he
end
section
variable {w : World} {D D' : Nat} {F : FnC} {b : Bx} {m : Str → Option Value} {led : Led} {env : Env} {pos : Pos} {l r : Expr} {i j : Int} {x y : Array UInt8} {whole : Sem Value} {c c2 : Bool}
theorem px_binop {op : Operator} {P P2 P3 : Value → Prop} (h1 : Px w F b (eval l env) P m led) (h2 : Px w F b (eval r env) P2 m led) (h3 : ∀ u v, P u → P2 v → Px w F b (binaryOp op u v) P3 m led) : Px w F b (eval (.BinOp l op r pos) env) P3 m led := fun s Q E f N q =>
  wpAny_BinOp (h1 s _ E f N fun a h' tk' pa F' N' => h2 _ _ E F' N' fun a2 h2' tk2' pa2 F2' N2' => h3 a a2 pa pa2 _ _ _ F2' N2' q)
theorem px_add (h1 : Px w F b (eval l env) (IsI i) m led) (h2 : Px w F b (eval r env) (IsI j) m led) : Px w F b (eval (.BinOp l .Add r pos) env) (IsI (i + j)) m led :=
  px_binop h1 h2 fun u v hu hv s Q E f N q => by obtain ⟨t, rfl⟩ := hu; obtain ⟨t', rfl⟩ := hv; exact add_int (q _ s.heap _ ⟨_, rfl⟩ f N)
theorem px_sub (h1 : Px w F b (eval l env) (IsI i) m led) (h2 : Px w F b (eval r env) (IsI j) m led) : Px w F b (eval (.BinOp l .Sub r pos) env) (IsI (i - j)) m led :=
  px_binop h1 h2 fun u v hu hv s Q E f N q => by obtain ⟨t, rfl⟩ := hu; obtain ⟨t', rfl⟩ := hv; exact sub_int (q _ s.heap _ ⟨_, rfl⟩ f N)
theorem pc_cmp {op : CmpOp} {P P2 : Value → Prop} (h1 : Px w F b (eval l env) P m led) (h2 : Px w F b (eval r env) P2 m led) (h3 : ∀ u v, P u → P2 v → Px w F b (compareOp op u v) (fun a => a = .bool c) m led) (hm : behindInMarks op r = false) :
    Px w F b (isTrue (.Compare l [op] [r] pos) env whole) (fun a => a = c) m led := fun s Q E f N q =>
  wpAny_isTrue_Compare1 (h1 s _ E f N fun a h' tk' pa F' N' => h2 _ _ E F' N' fun a2 h2' tk2' pa2 F2' N2' => h3 a a2 pa pa2 _ _ _ F2' N2' fun a3 h3' tk3' pa3 F3' N3' => by subst pa3; exact wpAny_truthy_bool (q _ _ _ rfl F3' N3')) hm
theorem pc_eqI (h1 : Px w F b (eval l env) (IsI i) m led) (h2 : Px w F b (eval r env) (IsI j) m led) (hm : behindInMarks .Eq r = false) : Px w F b (isTrue (.Compare l [.Eq] [r] pos) env whole) (fun a => a = (i == j)) m led :=
  pc_cmp h1 h2 (fun u v hu hv s Q E f N q => by obtain ⟨t, rfl⟩ := hu; obtain ⟨t', rfl⟩ := hv; exact eq_int (q _ s.heap _ rfl f N)) hm
theorem pc_neI (h1 : Px w F b (eval l env) (IsI i) m led) (h2 : Px w F b (eval r env) (IsI j) m led) (hm : behindInMarks .NotEq r = false) : Px w F b (isTrue (.Compare l [.NotEq] [r] pos) env whole) (fun a => a = (i != j)) m led :=
  pc_cmp h1 h2 (fun u v hu hv s Q E f N q => by obtain ⟨t, rfl⟩ := hu; obtain ⟨t', rfl⟩ := hv; exact ne_int (q _ s.heap _ rfl f N)) hm
theorem pc_ltI (h1 : Px w F b (eval l env) (IsI i) m led) (h2 : Px w F b (eval r env) (IsI j) m led) (hm : behindInMarks .Lt r = false) : Px w F b (isTrue (.Compare l [.Lt] [r] pos) env whole) (fun a => a = decide (i < j)) m led :=
  pc_cmp h1 h2 (fun u v hu hv s Q E f N q => by obtain ⟨t, rfl⟩ := hu; obtain ⟨t', rfl⟩ := hv; exact lt_int (q _ s.heap _ rfl f N)) hm
theorem pc_leI (h1 : Px w F b (eval l env) (IsI i) m led) (h2 : Px w F b (eval r env) (IsI j) m led) (hm : behindInMarks .LtE r = false) : Px w F b (isTrue (.Compare l [.LtE] [r] pos) env whole) (fun a => a = decide (i ≤ j)) m led :=
  pc_cmp h1 h2 (fun u v hu hv s Q E f N q => by obtain ⟨t, rfl⟩ := hu; obtain ⟨t', rfl⟩ := hv; exact le_int (q _ s.heap _ rfl f N)) hm
theorem pc_gtI (h1 : Px w F b (eval l env) (IsI i) m led) (h2 : Px w F b (eval r env) (IsI j) m led) (hm : behindInMarks .Gt r = false) : Px w F b (isTrue (.Compare l [.Gt] [r] pos) env whole) (fun a => a = decide (j < i)) m led :=
  pc_cmp h1 h2 (fun u v hu hv s Q E f N q => by obtain ⟨t, rfl⟩ := hu; obtain ⟨t', rfl⟩ := hv; exact gt_int (q _ s.heap _ rfl f N)) hm
theorem pc_geI (h1 : Px w F b (eval l env) (IsI i) m led) (h2 : Px w F b (eval r env) (IsI j) m led) (hm : behindInMarks .GtE r = false) : Px w F b (isTrue (.Compare l [.GtE] [r] pos) env whole) (fun a => a = decide (j ≤ i)) m led :=
  pc_cmp h1 h2 (fun u v hu hv s Q E f N q => by obtain ⟨t, rfl⟩ := hu; obtain ⟨t', rfl⟩ := hv; exact ge_int (q _ s.heap _ rfl f N)) hm
theorem pc_ltB (h1 : Px w F b (eval l env) (IsB x) m led) (h2 : Px w F b (eval r env) (IsB y) m led) (hm : behindInMarks .Lt r = false) : Px w F b (isTrue (.Compare l [.Lt] [r] pos) env whole) (fun a => a = ltB x y) m led :=
  pc_cmp h1 h2 (fun u v hu hv s Q E f N q => by obtain ⟨t, rfl⟩ := hu; obtain ⟨t', rfl⟩ := hv; exact lt_bytes (q _ s.heap _ rfl f N)) hm
theorem pc_gtB (h1 : Px w F b (eval l env) (IsB x) m led) (h2 : Px w F b (eval r env) (IsB y) m led) (hm : behindInMarks .Gt r = false) : Px w F b (isTrue (.Compare l [.Gt] [r] pos) env whole) (fun a => a = ltB y x) m led :=
  pc_cmp h1 h2 (fun u v hu hv s Q E f N q => by obtain ⟨t, rfl⟩ := hu; obtain ⟨t', rfl⟩ := hv; exact gt_bytes (q _ s.heap _ rfl f N)) hm
theorem pc_geB (h1 : Px w F b (eval l env) (IsB x) m led) (h2 : Px w F b (eval r env) (IsB y) m led) (hm : behindInMarks .GtE r = false) : Px w F b (isTrue (.Compare l [.GtE] [r] pos) env whole) (fun a => a = !ltB x y) m led :=
  pc_cmp h1 h2 (fun u v hu hv s Q E f N q => by obtain ⟨t, rfl⟩ := hu; obtain ⟨t', rfl⟩ := hv; exact ge_bytes (q _ s.heap _ rfl f N)) hm
def IsO (o : Option (Array UInt8)) (v : Value) : Prop := match o with | none => v = .none | some x => IsB x v
theorem pc_isnot {o : Option (Array UInt8)} (h1 : Px w F b (eval l env) (IsO o) m led) (h2 : Px w F b (eval r env) (fun a => a = .none) m led) (hm : behindInMarks .IsNot r = false) : Px w F b (isTrue (.Compare l [.IsNot] [r] pos) env whole) (fun a => a = o.isSome) m led :=
  pc_cmp h1 h2 (fun u v hu hv s Q E f N q => by
    subst hv
    cases o with
    | none => obtain rfl : u = .none := hu; exact wpAny_isNot_self rfl (q _ s.heap _ rfl f N)
    | some x => obtain ⟨t, rfl⟩ := hu; exact wpAny_isNot_other rfl (by intro h; cases h) (q _ s.heap _ rfl f N)) hm
theorem pc_is {o : Option (Array UInt8)} (h1 : Px w F b (eval l env) (IsO o) m led) (h2 : Px w F b (eval r env) (fun a => a = .none) m led) (hm : behindInMarks .Is r = false) : Px w F b (isTrue (.Compare l [.Is] [r] pos) env whole) (fun a => a = !o.isSome) m led :=
  pc_cmp h1 h2 (fun u v hu hv s Q E f N q => by
    subst hv
    cases o with
    | none => obtain rfl : u = .none := hu; exact wpAny_is_self rfl (q _ s.heap _ rfl f N)
    | some x => obtain ⟨t, rfl⟩ := hu; exact wpAny_is_other rfl (by intro h; cases h) (q _ s.heap _ rfl f N)) hm
theorem pc_not {e : Expr} (h : Px w F b (isTrue e env (eval e env)) (fun a => a = c) m led) : Px w F b (isTrue (.UnaryOp .Not e pos) env whole) (fun a => a = !c) m led :=
  fun s Q E f N q => isTrue_not (h s _ E f N fun a h' tk' pa F' N' => by subst pa; exact q _ _ _ rfl F' N')
theorem pc_and {e : Expr} {rest : List Expr} (h : Px w F b (isTrue e env (eval e env)) (fun a => a = c) m led) (h2 : c = true → Px w F b (isTrue (.BoolOp .And rest pos) env whole) (fun a => a = c2) m led) : Px w F b (isTrue (.BoolOp .And (e :: rest) pos) env whole) (fun a => a = (c && c2)) m led :=
  fun s Q E f N q => isTrue_and (h s _ E f N fun a h' tk' pa F' N' => by
    subst pa
    cases a with
    | true => exact h2 rfl _ _ _ F' N' q
    | false => exact q _ _ _ rfl F' N')
theorem pc_or {e : Expr} {rest : List Expr} (h : Px w F b (isTrue e env (eval e env)) (fun a => a = c) m led) (h2 : c = false → Px w F b (isTrue (.BoolOp .Or rest pos) env whole) (fun a => a = c2) m led) : Px w F b (isTrue (.BoolOp .Or (e :: rest) pos) env whole) (fun a => a = (c || c2)) m led :=
  fun s Q E f N q => isTrue_or (h s _ E f N fun a h' tk' pa F' N' => by
    subst pa
    cases a with
    | true => exact q _ _ _ rfl F' N'
    | false => exact h2 rfl _ _ _ F' N' q)
theorem pc_and0 : Px w F b (isTrue (.BoolOp .And [] pos) env whole) (fun a => a = true) m led := fun s Q E f N q => isTrue_and_nil (q _ s.heap s.toks rfl f N)
theorem pc_or0 : Px w F b (isTrue (.BoolOp .Or [] pos) env whole) (fun a => a = false) m led := fun s Q E f N q => isTrue_or_nil (q _ s.heap s.toks rfl f N)
theorem pc_and2 {e e2 : Expr} (h : Px w F b (isTrue e env (eval e env)) (fun a => a = c) m led) (h2 : c = true → Px w F b (isTrue e2 env (eval e2 env)) (fun a => a = c2) m led) : Px w F b (isTrue (.BoolOp .And [e, e2] pos) env whole) (fun a => a = (c && c2)) m led :=
  pc_and h fun e => Px.mono (pc_and (h2 e) fun _ => pc_and0) fun a ha => ha.trans (Bool.and_true c2)
theorem pc_or2 {e e2 : Expr} (h : Px w F b (isTrue e env (eval e env)) (fun a => a = c) m led) (h2 : c = false → Px w F b (isTrue e2 env (eval e2 env)) (fun a => a = c2) m led) : Px w F b (isTrue (.BoolOp .Or [e, e2] pos) env whole) (fun a => a = (c || c2)) m led :=
  pc_or h fun e => Px.mono (pc_or (h2 e) fun _ => pc_or0) fun a ha => ha.trans (Bool.or_false c2)
theorem pc_val {e : Expr} (h : Px w F b whole (fun a => a = .bool c) m led) (he : isTrue e env whole = (do let v ← whole; standAt e.pos; holding [v] (truthy v))) : Px w F b (isTrue e env whole) (fun a => a = c) m led :=
  fun s Q E f N q => isTrue_plain (h s _ E f N fun a h' tk' pa F' N' => by subst pa; exact wpAny_truthy_bool (q _ _ _ rfl F' N')) he
end
section
variable {w : World} {D D' : Nat} {F : FnC} {b : Bx} {m : Str → Option Value} {led : Led} {env : Env} {pos : Pos} {φ : Flow → (Str → Option Value) → Led → Prop} {x : Str} {P : Value → Prop} {c : Bool}
theorem sx_name {value : Expr} {pos' : Pos} {rest : List Stmt} (h : Px w F b (eval value (evx F b)) P m led) (hq : ∀ v, P v → Lx w F b (execs rest (evx F b)) φ (ms m x v) led) (hk : F.cs.kind = .function) (hx : (evx F b).kindOf x = some .local)
    (hs : swapsWith value (some (.Name x pos')) pos.line (evx F b) = pure false) : Lx w F b (execs (.Assign [.Name x pos'] value pos :: rest) (evx F b)) φ m led :=
  lx_seq (lx_nameC (h.lx hq) hk hx hs)
theorem sx_if {test : Expr} {body orelse rest : List Stmt} (h : Px w F b (isTrue test env (eval test env)) (fun a => a = c) m led) (h1 : c = true → Lx w F b (execs body env) (kφ w F b env rest φ) m led) (h2 : c = false → Lx w F b (execs orelse env) (kφ w F b env rest φ) m led) :
    Lx w F b (execs (.If test body orelse pos :: rest) env) φ m led := lx_seq fun s Q E f N q => wpAny_If (h s _ E f N fun a h' tk' pa F' N' => by
      subst pa
      cases a with
      | true => exact h1 rfl _ _ _ F' N' q
      | false => exact h2 rfl _ _ _ F' N' q)
theorem sx_if1 {test : Expr} {body rest : List Stmt} (h : Px w F b (isTrue test env (eval test env)) (fun a => a = c) m led) (h1 : c = true → Lx w F b (execs body env) (kφ w F b env rest φ) m led) (h2 : c = false → Lx w F b (execs rest env) φ m led) :
    Lx w F b (execs (.If test body [] pos :: rest) env) φ m led := sx_if h h1 fun e => lx_nil (h2 e)
theorem sx_ret {e : Expr} {rest : List Stmt} (h : Px w F b (eval e env) P m led) (hp : ∀ v, P v → φ (.ret v) m led) : Lx w F b (execs (.Return (some e) pos :: rest) env) φ m led := lx_seq (lx_retC (h.lx hp))
theorem sx_expr {e : Expr} {rest : List Stmt} (h : Lx w F b (eval e env) (fun _ m' led' => Lx w F b (execs rest env) φ m' led') m led) (hi : interactive env = false) (hs : swapsWith e none pos.line env = pure false) : Lx w F b (execs (.Expr e pos :: rest) env) φ m led :=
  lx_seq (lx_expr h hi hs)
theorem lx_attrP {o value : Expr} {pos' : Pos} {k2 : Nat} {r C dx : Addr} {name : Str} {es : List DictEntry} {n : Nat} {es' : Value → List DictEntry} {n' : Nat} {led' : Value → Led} (ok : Okx w D b) (h : Px w F b (eval value env) P m led) (ho : Rx w F b (eval o env) (fun _ => .ref r) k2 m led)
    (m1 : (r, instObj C dx) ∈ led) (m2 : (dx, dictOf es n) ∈ led)
    (hs' : findIn (Mine.hd.heap_39 w.params) (.ref C) "__setattr__" = some (some (.builtin "object.__setattr__"))) (hp : plainOver (Mine.hd.heap_39 w.params) C = true) (ht : takerIn (Mine.hd.heap_39 w.params) C name = some none) (hh : hasDictIn (Mine.hd.heap_39 w.params) C = true)
    (hl : (getL name es).isSome = true) (e : ∀ v t', (putL name (PyData.keyHash w.params name) (.str name t') v es, putN name es n) = (es' v, n')) (U : ∀ v, Upd dx (dictOf es n) (dictOf (es' v) n') led (led' v)) (hz : ∀ v, (es' v).length ≤ 1000)
    (hs : swapsWith value (some (.Attribute o name pos')) pos.line env = pure false) (hq : ∀ v, P v → φ .next m (led' v)) : Lx w F b (exec (.Assign [.Attribute o name pos'] value pos) env) φ m led :=
  fun s Q E f N q => plainObj_wpAny_Assign_Attribute (h s _ E f N fun a h' tk' pa F' N' => ho _ _ E F' N' (set_dict F' ok.X N' (InstAt.of_news N' m1 m2) rfl hs' hp ht hh hl (e _ _) (U _) (hz _) fun h2' F2' N2' => q _ _ _ h2' _ (hq _ pa) F2' N2')) hs
theorem sx_ifj {test : Expr} {body orelse rest : List Stmt} (ψ : Flow → (Str → Option Value) → Led → Prop) (h : Px w F b (isTrue test env (eval test env)) (fun a => a = c) m led) (h1 : c = true → Lx w F b (execs body env) ψ m led) (h2 : c = false → Lx w F b (execs orelse env) ψ m led)
    (hn : ∀ m' led', ψ .next m' led' → Lx w F b (execs rest env) φ m' led') (ho : ∀ f m' led', f ≠ .next → ψ f m' led' → φ f m' led') : Lx w F b (execs (.If test body orelse pos :: rest) env) φ m led :=
  lx_cons (ψ := ψ) (fun s Q E f N q => wpAny_If (h s _ E f N fun a h' tk' pa F' N' => by
      subst pa
      cases a with
      | true => exact h1 rfl _ _ _ F' N' q
      | false => exact h2 rfl _ _ _ F' N' q)) hn ho
theorem lx_whileP {test : Expr} {body : List Stmt} (J : Nat → (Str → Option Value) → Led → Prop) (n₀ : Nat) (hJ : J n₀ m led)
    (turn : ∀ n m₁ led₁, J n m₁ led₁ → ∃ c, Px w F b (isTrue test env (eval test env)) (fun a => a = c) m₁ led₁ ∧ (c = true → Lx w F b (execs body env) (turnφ φ J n) m₁ led₁) ∧ (c = false → φ .next m₁ led₁)) :
    Lx w F b (exec (.While test body [] pos) env) φ m led := lx_while J n₀ hJ fun n m₁ led₁ j => by
  obtain ⟨c, h, h1, h2⟩ := turn n m₁ led₁ j
  refine h.lx fun a ha => ?_
  subst ha
  cases a with
  | true => rw [if_pos rfl]; exact h1 rfl
  | false => rw [if_neg (by decide)]; exact h2 rfl
theorem lx_whileG {test : Expr} {body : List Stmt} (J : Nat → (Str → Option Value) → Led → Prop) (n₀ : Nat) (hJ : J n₀ m led)
    (turn : ∀ n m₁ led₁, J n m₁ led₁ → ∀ Φ : Flow → (Str → Option Value) → Led → Prop, (∀ n' m' led', n' < n → J n' m' led' → Φ .next m' led') → (∀ n' m' led', n' < n → J n' m' led' → Φ .cont m' led') → (∀ m' led', φ .next m' led' → Φ .brk m' led') → (∀ v m' led', φ (.ret v) m' led' → Φ (.ret v) m' led') →
      ∃ c, Px w F b (isTrue test env (eval test env)) (fun a => a = c) m₁ led₁ ∧ (c = true → Lx w F b (execs body env) Φ m₁ led₁) ∧ (c = false → φ .next m₁ led₁)) :
    Lx w F b (exec (.While test body [] pos) env) φ m led :=
  lx_whileP J n₀ hJ fun n m₁ led₁ j => turn n m₁ led₁ j (turnφ φ J n) (fun n' _ _ h j => ⟨n', h, j⟩) (fun n' _ _ h j => ⟨n', h, j⟩) (fun _ _ h => h) fun _ _ _ h => h
theorem sx_while {test : Expr} {body rest : List Stmt} (J : Nat → (Str → Option Value) → Led → Prop) (X : (Str → Option Value) → Led → Prop) (n₀ : Nat) (hJ : J n₀ m led)
    (turn : ∀ n m₁ led₁, J n m₁ led₁ → ∀ Φ : Flow → (Str → Option Value) → Led → Prop, (∀ n' m' led', n' < n → J n' m' led' → Φ .next m' led') → (∀ n' m' led', n' < n → J n' m' led' → Φ .cont m' led') → (∀ m' led', X m' led' → Φ .brk m' led') → (∀ v m' led', φ (.ret v) m' led' → Φ (.ret v) m' led') →
      ∃ c, Px w F b (isTrue test env (eval test env)) (fun a => a = c) m₁ led₁ ∧ (c = true → Lx w F b (execs body env) Φ m₁ led₁) ∧ (c = false → X m₁ led₁))
    (hX : ∀ m' led', X m' led' → Lx w F b (execs rest env) φ m' led') : Lx w F b (execs (.While test body [] pos :: rest) env) φ m led :=
  lx_seq (lx_whileG J n₀ hJ fun n m₁ led₁ j Φ h1 h2 h3 h4 => by
    obtain ⟨c, a, b, d⟩ := turn n m₁ led₁ j Φ h1 h2 (fun m' led' h => h3 m' led' (hX _ _ h)) (fun v m' led' h => h4 v m' led' h)
    exact ⟨c, a, b, fun e => hX _ _ (d e)⟩)
theorem sx_ifjG {test : Expr} {body orelse rest : List Stmt} (ψ : Flow → (Str → Option Value) → Led → Prop) (h : Px w F b (isTrue test env (eval test env)) (fun a => a = c) m led)
    (h1 : c = true → ∀ ψ0 : Flow → (Str → Option Value) → Led → Prop, (∀ f m' led', ψ f m' led' → ψ0 f m' led') → Lx w F b (execs body env) ψ0 m led) (h2 : c = false → ∀ ψ0 : Flow → (Str → Option Value) → Led → Prop, (∀ f m' led', ψ f m' led' → ψ0 f m' led') → Lx w F b (execs orelse env) ψ0 m led)
    (hn : ∀ m' led', ψ .next m' led' → Lx w F b (execs rest env) φ m' led') (ho : ∀ f m' led', f ≠ .next → ψ f m' led' → φ f m' led') : Lx w F b (execs (.If test body orelse pos :: rest) env) φ m led :=
  sx_ifj ψ h (fun e => h1 e ψ fun _ _ _ h => h) (fun e => h2 e ψ fun _ _ _ h => h) hn ho
end
section
variable {w : World} {D : Nat} {f : Addr} {args : List Value} {fp rest : Led} {post : Value → Led → Prop} {name qual : Str} {params : Arguments} {body : List Stmt} {scope : Scope} {dV kV doc pm cdv ct oc : Value} {an od : Option Addr} {osl : Array (Option Value)} {binds : List (Str × Value)}
theorem calls_ofG (ho : (Mine.hd.heap_39 w.params).lookup f = some ⟨oc, od, .func (fnOf name qual params body scope dV kV doc pm an cdv ct), osl⟩) (hcd : codeIn (Mine.hd.heap_39 w.params) cdv qual = true)
    (hbind : ∀ s, BindsTo s (fnOf name qual params body scope dV kV doc pm an cdv ct) ⟨args, []⟩ binds) (hloc : ∀ y ∈ binds, scope.names.lookup y.1 = some .local)
    (hco : scope.isCoroutine = false) (hgen : scope.isGenerator = false) (hk : scope.kind = .function) (hcell : ∀ x ∈ scope.names, x.2 ≠ .cell)
    (h : ∀ b : Bx, Okx w D b → ∀ φ : Flow → (Str → Option Value) → Led → Prop, (∀ fl m' fp', post (retv fl) fp' → φ fl m' (fp' ++ rest)) → Lx w ⟨qual, scope, f, cdv⟩ b (execs body (evx ⟨qual, scope, f, cdv⟩ b)) φ (fun y => binds.reverse.lookup y) (fp ++ rest)) :
    Calls w (D + 1) f args fp rest post := calls_of ho hcd hbind hloc hco hgen hk hcell fun b ok => h b ok _ fun _ _ fp' hp => ⟨fp', rfl, hp⟩
end
open PySem PySem.W PyProof.Rows
set_option linter.unusedVariables false
set_option maxRecDepth 100000
set_option maxHeartbeats 8000000
local macro_rules | `(tactic| omega) => `(tactic| lia)
section
variable {w : World} {D D' : Nat} {F : FnC} {b : Bx} {m : Str → Option Value} {led : Led} {env : Env} {pos p : Pos} {x : Str} {v fv : Value} {l a : Addr} {items : Array Value} {n : Nat} {i j k : Int} {value slice e l' r : Expr} {c c2 : Bool}
theorem px_builtin (ok : Okx w D b) (e : nsIn (Mine.hd.heap_39 w.params) mainGlobals x = some none) (hv : bootBuiltins x = some v) (hn : x ≠ "__name__") (hk : F.cs.kind = .function) (hx : (evx F b).kindOf x = some .globalImplicit) (hd : (x == ("__debug__" : Str)) = false) :
    Px w F b (eval (.Name x p) (evx F b)) (fun a => a = v) m led := fun s Q E f N q => nameX_B f ok.X (topRead_of ok.T) e hv hn (q _ s.heap s.toks rfl f N) hk hx hd
theorem px_item (h1 : Px w F b (eval value env) (fun a => a = .ref l) m led) (h2 : Px w F b (eval slice env) (IsI k) m led) (hm : (l, listOf items n) ∈ led) (h0 : 0 ≤ k) (hf : k < 2 ^ 63) (hx : items[k.toNat]? = some v)
    (hs : ∀ u, subscripted slice false (.ref l) (.int k u) = operate [.ref l, .int k u] (getItem (.ref l) (.int k u))) : Px w F b (eval (.Subscript value slice pos) env) (fun a => a = v) m led := fun s Q E f N q =>
  Subscript_ (h1 s _ E f N fun a1 h' tk' pa F' N' => by subst pa; exact h2 _ _ E F' N' fun a2 h2' tk2' pa2 F2' N2' => by obtain ⟨t, rfl⟩ := pa2; exact item_list N2' hm h0 hf hx (q _ _ _ rfl F2' N2') (hs t))
theorem px_itemT {vs : List Value} (h1 : Px w F b (eval value env) (fun a => a = .ref l) m led) (h2 : Px w F b (eval slice env) (IsI k) m led) (hm : (l, tupObj vs n) ∈ led) (h0 : 0 ≤ k) (hf : k < 2 ^ 63) (hx : vs[k.toNat]? = some v)
    (hs : ∀ u, subscripted slice false (.ref l) (.int k u) = operate [.ref l, .int k u] (getItem (.ref l) (.int k u))) : Px w F b (eval (.Subscript value slice pos) env) (fun a => a = v) m led := fun s Q E f N q =>
  Subscript_ (h1 s _ E f N fun a1 h' tk' pa F' N' => by subst pa; exact h2 _ _ E F' N' fun a2 h2' tk2' pa2 F2' N2' => by obtain ⟨t, rfl⟩ := pa2; exact item_tup N2' hm h0 hf hx (q _ _ _ rfl F2' N2') (hs t))
theorem px_itemB {X : Array UInt8} {ks : List Int} (h1 : Px w F b (eval value env) (IsB X) m led) (h2 : Px w F b (eval slice env) (IsI k) m led) (hks : KBw.bInts X = ks) (hz : ks.length ≤ 1099511627776) (h0 : 0 ≤ k) (h3 : k < (ks.length : Int))
    (hs : ∀ t u, subscripted slice false (.bytes X t) (.int k u) = operate [.bytes X t, .int k u] (getItem (.bytes X t) (.int k u))) (ht : ∀ t r, letTemporaryGo value (.bytes X t) r = pure ()) : Px w F b (eval (.Subscript value slice pos) env) (IsI (ks.getD k.toNat 0)) m led := fun s Q E f N q =>
  Subscript_ (h1 s _ E f N fun a1 h' tk' pa F' N' => by obtain ⟨t1, rfl⟩ := pa; exact h2 _ _ E F' N' fun a2 h2' tk2' pa2 F2' N2' => by obtain ⟨t, rfl⟩ := pa2; exact KBw.item_K hks hz h0 h3 (fun t' k' _ _ => q _ _ _ ⟨_, rfl⟩ F2' N2') (hs _ _) (ht _))
theorem pb1 {id : String} {o : Expr} {es : List Expr} {A : List Value → Prop} {P : Value → Prop} (h1 : Px w F b (eval o env) (fun a => a = .builtin id) m led) (h3 : Px w F b (spliced (backTo pos (starEach (e :: es) env))) A m led) (h4 : ∀ vs, A vs → Px w F b (call (.builtin id) ([] ++ vs)) P m led)
    (ha : starEach (e :: es) env = (false, eval e env) :: starEach es env) (hp : (backTo pos (starEach es env)).any (·.1) = false)
    (he : eval (.Call o (e :: es) [] pos) env = (do callWith pos (← eval o env) [] (backTo pos (starEach (e :: es) env)) (backToKw pos (keywordEach [] env)))) : Px w F b (eval (.Call o (e :: es) [] pos) env) P m led :=
  fun s Q E f N q => Call_ (h1 s _ E f N fun a h' tk' pa F' N' => by
    subst pa
    exact callWith_method1 (h3 _ _ E F' N' fun vs h3' tk3' pa F3' N3' => h4 vs pa _ _ _ F3' N3' q) ha hp) he
theorem pt1 {T : String} {o : Expr} {es : List Expr} {A : List Value → Prop} {P : Value → Prop} (h1 : Px w F b (eval o env) (fun a => a = .type T) m led) (h3 : Px w F b (spliced (backTo pos (starEach (e :: es) env))) A m led) (h4 : ∀ vs, A vs → Px w F b (call (.type T) vs) P m led)
    (ha : starEach (e :: es) env = (false, eval e env) :: starEach es env) (hp : (backTo pos (starEach es env)).any (·.1) = false)
    (he : eval (.Call o (e :: es) [] pos) env = (do callWith pos (← eval o env) [] (backTo pos (starEach (e :: es) env)) (backToKw pos (keywordEach [] env)))) : Px w F b (eval (.Call o (e :: es) [] pos) env) P m led :=
  fun s Q E f N q => Call_ (h1 s _ E f N fun a h' tk' pa F' N' => by
    subst pa
    exact Pv.callWith_type1 (h3 _ _ E F' N' fun vs h3' tk3' pa F3' N3' => h4 vs pa _ _ _ F3' N3' q) ha hp) he
theorem px_len (ok : Okx w D b) (h1 : Px w F b (eval e env) (fun a => a = .ref l) m led) (hn : Px w F b (eval l' env) (fun a => a = .builtin "len") m led) (hm : (l, listOf items n) ∈ led) (hf : (items.size : Int) < 2 ^ 63)
    (ha : starEach [e] env = (false, eval e env) :: starEach [] env)
    (he : eval (.Call l' [e] [] pos) env = (do callWith pos (← eval l' env) [] (backTo pos (starEach [e] env)) (backToKw pos (keywordEach [] env)))) : Px w F b (eval (.Call l' [e] [] pos) env) (IsI items.size) m led :=
  pb1 hn (px_args1 h1 ha) (fun vs hvs s Q E f N q => by
    obtain ⟨_, rfl, rfl⟩ := hvs
    exact PySem.Calls.call_len_list (News.isList N hm) hf (q _ s.heap _ ⟨_, rfl⟩ f N)) ha rfl he
theorem px_lenB {X : Array UInt8} {ks : List Int} (ok : Okx w D b) (h1 : Px w F b (eval e env) (IsB X) m led) (hn : Px w F b (eval l' env) (fun a => a = .builtin "len") m led) (hks : KBw.bInts X = ks) (hz : ks.length ≤ 1099511627776)
    (ha : starEach [e] env = (false, eval e env) :: starEach [] env)
    (he : eval (.Call l' [e] [] pos) env = (do callWith pos (← eval l' env) [] (backTo pos (starEach [e] env)) (backToKw pos (keywordEach [] env)))) : Px w F b (eval (.Call l' [e] [] pos) env) (IsI (ks.length : Nat)) m led :=
  pb1 hn (px_args1 h1 ha) (fun vs hvs s Q E f N q => by
    obtain ⟨_, rfl, t, rfl⟩ := hvs
    exact KBw.len_K hks hz (q _ s.heap _ ⟨_, rfl⟩ f N)) ha rfl he
theorem pv_cmp {op : CmpOp} {P P2 : Value → Prop} (h1 : Px w F b (eval l' env) P m led) (h2 : Px w F b (eval r env) P2 m led) (h3 : ∀ u v, P u → P2 v → Px w F b (compareOp op u v) (fun a => a = .bool c) m led) (hm : behindInMarks op r = false) :
    Px w F b (eval (.Compare l' [op] [r] pos) env) (fun a => a = .bool c) m led := fun s Q E f N q =>
  wpAny_Compare1 (h1 s _ E f N fun a h' tk' pa F' N' => h2 _ _ E F' N' fun a2 h2' tk2' pa2 F2' N2' => h3 a a2 pa pa2 _ _ _ F2' N2' q) hm
theorem op_ltI : ∀ u v, IsI i u → IsI j v → Px w F b (compareOp .Lt u v) (fun a => a = .bool (decide (i < j))) m led := fun u v hu hv s Q E f N q => by obtain ⟨t, rfl⟩ := hu; obtain ⟨t', rfl⟩ := hv; exact lt_int (q _ s.heap _ rfl f N)
theorem op_leI : ∀ u v, IsI i u → IsI j v → Px w F b (compareOp .LtE u v) (fun a => a = .bool (decide (i ≤ j))) m led := fun u v hu hv s Q E f N q => by obtain ⟨t, rfl⟩ := hu; obtain ⟨t', rfl⟩ := hv; exact le_int (q _ s.heap _ rfl f N)
theorem op_geI : ∀ u v, IsI i u → IsI j v → Px w F b (compareOp .GtE u v) (fun a => a = .bool (decide (j ≤ i))) m led := fun u v hu hv s Q E f N q => by obtain ⟨t, rfl⟩ := hu; obtain ⟨t', rfl⟩ := hv; exact ge_int (q _ s.heap _ rfl f N)
theorem pv_and {e1 e2 : Expr} (h1 : Px w F b (eval e1 env) (fun a => a = .bool c) m led) (h2 : c = true → Px w F b (eval e2 env) (fun a => a = .bool c2) m led) : Px w F b (eval (.BoolOp .And [e1, e2] pos) env) (fun a => a = .bool (c && c2)) m led := fun s Q E f N q =>
  BoolOp_and (h1 s _ E f N fun a h' tk' pa F' N' => by
    subst pa
    refine wpAny_truthy_bool ?_
    cases c with
    | true => exact BoolOp_one (h2 rfl _ _ _ F' N' q)
    | false => exact q _ _ _ rfl F' N')
theorem px_fdiv (h1 : Px w F b (eval l' env) (IsI i) m led) (h2 : Px w F b (eval r env) (IsI j) m led) (hj : ¬ (j == 0) = true) (hp : ¬ Builtin.divisionGoesByPylong i j = true) : Px w F b (eval (.BinOp l' .FloorDiv r pos) env) (IsI (i.fdiv j)) m led :=
  px_binop h1 h2 fun u v hu hv s Q E f N q => by obtain ⟨t, rfl⟩ := hu; obtain ⟨t', rfl⟩ := hv; exact PySem.AutoIntOps.floordiv_1 hj hp (q _ s.heap _ ⟨_, rfl⟩ f N)
end
section
variable {w : World} {D D' : Nat} {F : FnC} {b : Bx} {m : Str → Option Value} {led : Led} {env : Env} {pos : Pos} {φ : Flow → (Str → Option Value) → Led → Prop} {x : Str}
theorem lx_augattr {value : Expr} {xp pos' : Pos} {op : Operator} {r C dx : Addr} {name : Str} {es : List DictEntry} {n : Nat} {es' : Value → List DictEntry} {n' : Nat} {led' : Value → Led} {P P' : Value → Prop} {old : Value} {at' : Option Value} (ok : Okx w D b) (hv : m x = some (.ref r)) (h : Px w F b (eval value (evx F b)) P m led)
    (hop : ∀ u, P u → Px w F b (inplaceOp op old u) P' m led) (m1 : (r, instObj C dx) ∈ led) (m2 : (dx, dictOf es n) ∈ led) (hlo : getL name es = some (some old)) (hw : handedIn old = true) (hg : plainGet (Mine.hd.heap_39 w.params) C name = true) (ha : findIn (Mine.hd.heap_39 w.params) (.ref C) name = some at') (hn : noGet (Mine.hd.heap_39 w.params) at' = true)
    (hs' : findIn (Mine.hd.heap_39 w.params) (.ref C) "__setattr__" = some (some (.builtin "object.__setattr__"))) (hp : plainOver (Mine.hd.heap_39 w.params) C = true) (ht : takerIn (Mine.hd.heap_39 w.params) C name = some none) (hh : hasDictIn (Mine.hd.heap_39 w.params) C = true)
    (e : ∀ v t', (putL name (PyData.keyHash w.params name) (.str name t') v es, putN name es n) = (es' v, n')) (U : ∀ v, Upd dx (dictOf es n) (dictOf (es' v) n') led (led' v)) (hz : ∀ v, (es' v).length ≤ 1000)
    (hq : ∀ v, P' v → φ .next m (led' v)) (hk : F.cs.kind = .function) (hx : (evx F b).kindOf x = some .local) (hd : (x == ("__debug__" : Str)) = false) : Lx w F b (exec (.AugAssign (.Attribute (.Name x xp) name pos') op value pos) (evx F b)) φ m led :=
  fun s Q E f N q => wpAny_AugAssign_AttributeAny (nameX_L f hv (get_own f ok.X (InstAt.of_news N m1 m2) hg hh ha hn hlo hw (h _ _ E f N fun a h' tk' pa F' N' => hop a pa _ _ E F' N' fun a2 h2' tk2' pa2 F2' N2' =>
    set_dict F2' ok.X N2' (InstAt.of_news N2' m1 m2) rfl hs' hp ht hh (by rw [hlo]; rfl) (e _ _) (U _) (hz _) fun h3' F3' N3' => q _ _ _ h3' _ (hq _ pa2) F3' N3')) hk hx hd)
theorem op_iadd {i j : Int} {v : Value} (hv : IsI i v) : ∀ u, IsI j u → Px w F b (inplaceOp .Add v u) (IsI (i + j)) m led := fun u hu s Q E f N q => by obtain ⟨t, rfl⟩ := hv; obtain ⟨t', rfl⟩ := hu; exact iadd_int (q _ s.heap _ ⟨_, rfl⟩ f N)
theorem op_isub {i j : Int} {v : Value} (hv : IsI i v) : ∀ u, IsI j u → Px w F b (inplaceOp .Sub v u) (IsI (i - j)) m led := fun u hu s Q E f N q => by obtain ⟨t, rfl⟩ := hv; obtain ⟨t', rfl⟩ := hu; exact isub_int (q _ s.heap _ ⟨_, rfl⟩ f N)
theorem lx_setitem {o i value : Expr} {pos' : Pos} {l : Addr} {items : Array Value} {n : Nat} {k : Int} {P : Value → Prop} {led' : Value → Led} (h : Px w F b (eval value env) P m led) (h1 : Px w F b (eval o env) (fun a => a = .ref l) m led) (h2 : Px w F b (eval i env) (IsI k) m led)
    (U : ∀ v, Upd l (listOf items n) (listOf (items.setIfInBounds k.toNat v) n) led (led' v)) (h0 : 0 ≤ k) (h3 : k < items.size) (hf : k < 2 ^ 63) (hq : ∀ v, P v → φ .next m (led' v)) (hs : swapsWith value (some (.Subscript o i pos')) pos.line env = pure false) : Lx w F b (exec (.Assign [.Subscript o i pos'] value pos) env) φ m led :=
  fun s Q E f N q => wpAny_Assign_Subscript (h s _ E f N fun v h' tk' pa F' N' => h1 _ _ E F' N' fun a h2' tk2' pa2 F2' N2' => by
    subst pa2
    exact h2 _ _ E F2' N2' fun a h3' tk3' pa3 F3' N3' => by
      obtain ⟨t, rfl⟩ := pa3
      exact set_list F3' N3' (U v) h0 h3 hf fun h4' F4' N4' => q _ _ _ h4' _ (hq v pa) F4' N4') hs
theorem sx_forUp {px : Pos} {body rest : List Stmt} {g e : Expr} {cp : Pos} {n : Nat} (ok : Okx w D b) (hr : Px w F b (eval g (evx F b)) (fun a => a = .type "range") m led) (he : Px w F b (eval e (evx F b)) (IsI (n : Int)) m led) (hn : n ≤ 1000000)
    (J : Nat → (Str → Option Value) → Led → Prop) (hj : J 0 m led)
    (turn : ∀ i m₁ led₁ I o t, i < n → J i m₁ led₁ → (∀ p ∈ led₁, p.1 ≠ I) → ∀ Φ : Flow → (Str → Option Value) → Led → Prop,
      (∀ fl m' led' led2, fl = .next ∨ fl = .cont → J (i + 1) m' led' → (∀ p ∈ led', p ∈ led2) → (I, o) ∈ led2 → (∀ p ∈ led', p.1 ≠ I) → Φ fl m' led2) → (∀ v m' led', φ (.ret v) m' led' → Φ (.ret v) m' led') →
      Lx w F b (execs body (evx F b)) Φ (ms m₁ x (.int (i : Int) t)) ((I, o) :: led₁))
    (hX : ∀ m' led', J n m' led' → Lx w F b (execs rest (evx F b)) φ m' led') (hk : F.cs.kind = .function) (hx : (evx F b).kindOf x = some .local)
    (ha : starEach [e] (evx F b) = (false, eval e (evx F b)) :: starEach [] (evx F b))
    (hc : eval (.Call g [e] [] cp) (evx F b) = (do callWith cp (← eval g (evx F b)) [] (backTo cp (starEach [e] (evx F b))) (backToKw cp (keywordEach [] (evx F b)))))
    (hf : ∀ x, foldedSetIterable (.Call g [e] [] cp) (evx F b) x = pure x) :
    Lx w F b (execs (.For (.Name x px) (.Call g [e] [] cp) body [] pos :: rest) (evx F b)) φ m led := lx_seq fun s Q E f N q => by
  refine wpAny_mono (E := fun _ _ => False) (For_invV b.g (Q := Q) hx (by show (F.cs.kind == .class || (F.cs.kind == .module && b.L != mainGlobals)) = false; rw [hk]; rfl) ?_ hf ?_) (fun _ _ x => x) fun _ _ x => x.elim
  · have hh : (tpx F b).handled = none := rfl
    refine Call_ (hr s _ _ f N fun a h' tk' pa F' N' => ?_) hc
    subst pa
    refine Pv.callWith_type1 (px_args1 he ha _ _ _ F' N' fun vs h2' tk2' pa2 F2' N2' => ?_) ha rfl
    obtain ⟨_, rfl, t0, rfl⟩ := pa2
    refine range1_rows F2' N2' fun h3' tk3 t₁ u₁ v₁ R F3' N3' _ => ?_
    refine iter_up (n := n) J hh R hn F3' N3' hj (fun i t m₁ news₁ h tk I o hi hJ hne F₁ N₁ => ?_) fun m₁ news₁ h tk hJ F₁ N₁ => q _ _ _ _ _ (hX _ _ hJ) F₁ N₁
    refine turn i m₁ news₁ I o t hi hJ hne (fun fl m' led' => ∀ (h' : Heap) (tk' : Nat), Fr b.g b.L h' m' → News b.g b.L h' led' → TurnJ b.g b.L (J (i + 1)) I o { s with heap := h, toks := tk } Q fl { s with heap := h', toks := tk' }) ?_ ?_ _ _ _ F₁ N₁ fun fl m' led' h' tk' hp F' N' => hp h' tk' F' N'
    · intro fl m' led' led2 hfl hJ' hsub hI hne' h' tk' F' N'
      rcases hfl with rfl | rfl <;> exact ⟨h', tk', m', led', led2, rfl, F', N', hI, hsub, hne', hJ'⟩
    · intro v m' led' hp h' tk' F' N'
      exact q _ _ _ h' tk' hp F' N'
  · passes_own
end
open PySem PySem.W PyProof.Rows
set_option linter.unusedVariables false
set_option maxRecDepth 100000
set_option maxHeartbeats 8000000
section
variable {w : World} {D D' : Nat} {F : FnC} {b : Bx} {m : Str → Option Value} {led : Led} {env : Env} {pos : Pos} {l r : Expr} {i j : Int} {k kp}
theorem px_I {t : Sem Value} (h : Px w F b t (IsI i) m led) (e : i = j) : Px w F b t (IsI j) m led := e ▸ h
theorem px_neg {e : Expr} (h : Px w F b (eval e env) (IsI i) m led) : Px w F b (eval (.UnaryOp .USub e pos) env) (IsI (-i)) m led := fun s Q E f N q =>
  wpAny_UnaryOp (h s _ E f N fun a h' tk' pa F' N' => by obtain ⟨t, rfl⟩ := pa; exact neg_int (q _ _ _ ⟨_, rfl⟩ F' N'))
theorem op_shl8 (h0 : 0 ≤ i) (h1 : i < 4294967296) : ∀ u v, IsI i u → IsI 8 v → Px w F b (binaryOp .LShift u v) (IsI (i * 256)) m led := fun u v hu hv s Q E f N q => by obtain ⟨t, rfl⟩ := hu; obtain ⟨t', rfl⟩ := hv; exact shl8 h0 h1 (q _ s.heap _ ⟨_, rfl⟩ f N)
theorem op_shl8b (h0 : 0 ≤ i) (h1 : i < 72057594037927936) : ∀ u v, IsI i u → IsI 8 v → Px w F b (binaryOp .LShift u v) (IsI (i * 256)) m led := fun u v hu hv s Q E f N q => by obtain ⟨t, rfl⟩ := hu; obtain ⟨t', rfl⟩ := hv; exact shl8b h0 h1 (q _ s.heap _ ⟨_, rfl⟩ f N)
theorem op_shl16 (h0 : 0 ≤ i) (h1 : i < 4294967296) : ∀ u v, IsI i u → IsI 16 v → Px w F b (binaryOp .LShift u v) (IsI (i * 65536)) m led := fun u v hu hv s Q E f N q => by obtain ⟨t, rfl⟩ := hu; obtain ⟨t', rfl⟩ := hv; exact shl16 h0 h1 (q _ s.heap _ ⟨_, rfl⟩ f N)
theorem op_shl24 (h0 : 0 ≤ i) (h1 : i < 4294967296) : ∀ u v, IsI i u → IsI 24 v → Px w F b (binaryOp .LShift u v) (IsI (i * 16777216)) m led := fun u v hu hv s Q E f N q => by obtain ⟨t, rfl⟩ := hu; obtain ⟨t', rfl⟩ := hv; exact shl24 h0 h1 (q _ s.heap _ ⟨_, rfl⟩ f N)
theorem op_shl32 (h0 : 0 ≤ i) (h1 : i < 4294967296) : ∀ u v, IsI i u → IsI 32 v → Px w F b (binaryOp .LShift u v) (IsI (i * 4294967296)) m led := fun u v hu hv s Q E f N q => by obtain ⟨t, rfl⟩ := hu; obtain ⟨t', rfl⟩ := hv; exact shl32 h0 h1 (q _ s.heap _ ⟨_, rfl⟩ f N)
theorem op_or8 (h0 : 0 ≤ i) (h1 : i < 256) (h2 : 0 ≤ j) : ∀ u v, IsI i u → IsI (j * 256) v → Px w F b (binaryOp .BitOr u v) (IsI (i + j * 256)) m led := fun u v hu hv s Q E f N q => by obtain ⟨t, rfl⟩ := hu; obtain ⟨t', rfl⟩ := hv; exact or8 h0 h1 h2 (q _ s.heap _ ⟨_, rfl⟩ f N)
theorem op_or8r (h0 : 0 ≤ i) (h1 : i < 256) (h2 : 0 ≤ j) : ∀ u v, IsI (j * 256) u → IsI i v → Px w F b (binaryOp .BitOr u v) (IsI (i + j * 256)) m led := fun u v hu hv s Q E f N q => by obtain ⟨t, rfl⟩ := hu; obtain ⟨t', rfl⟩ := hv; exact or8r h0 h1 h2 (q _ s.heap _ ⟨_, rfl⟩ f N)
theorem op_or16 (h0 : 0 ≤ i) (h1 : i < 65536) (h2 : 0 ≤ j) : ∀ u v, IsI i u → IsI (j * 65536) v → Px w F b (binaryOp .BitOr u v) (IsI (i + j * 65536)) m led := fun u v hu hv s Q E f N q => by obtain ⟨t, rfl⟩ := hu; obtain ⟨t', rfl⟩ := hv; exact or16 h0 h1 h2 (q _ s.heap _ ⟨_, rfl⟩ f N)
theorem op_or24 (h0 : 0 ≤ i) (h1 : i < 16777216) (h2 : 0 ≤ j) : ∀ u v, IsI i u → IsI (j * 16777216) v → Px w F b (binaryOp .BitOr u v) (IsI (i + j * 16777216)) m led := fun u v hu hv s Q E f N q => by obtain ⟨t, rfl⟩ := hu; obtain ⟨t', rfl⟩ := hv; exact or24 h0 h1 h2 (q _ s.heap _ ⟨_, rfl⟩ f N)
theorem op_or32 (h0 : 0 ≤ i) (h1 : i < 4294967296) (h2 : 0 ≤ j) : ∀ u v, IsI i u → IsI (j * 4294967296) v → Px w F b (binaryOp .BitOr u v) (IsI (i + j * 4294967296)) m led := fun u v hu hv s Q E f N q => by obtain ⟨t, rfl⟩ := hu; obtain ⟨t', rfl⟩ := hv; exact or32 h0 h1 h2 (q _ s.heap _ ⟨_, rfl⟩ f N)
theorem op_and255 (h0 : 0 ≤ i) : ∀ u v, IsI i u → IsI 255 v → Px w F b (binaryOp .BitAnd u v) (IsI (i % 256)) m led := fun u v hu hv s Q E f N q => by obtain ⟨t, rfl⟩ := hu; obtain ⟨t', rfl⟩ := hv; exact and255 h0 (q _ s.heap _ ⟨_, rfl⟩ f N)
theorem op_andM (h0 : 0 ≤ i) : ∀ u v, IsI i u → IsI 4294967295 v → Px w F b (binaryOp .BitAnd u v) (IsI (i % 4294967296)) m led := fun u v hu hv s Q E f N q => by obtain ⟨t, rfl⟩ := hu; obtain ⟨t', rfl⟩ := hv; exact andM32 h0 (q _ s.heap _ ⟨_, rfl⟩ f N)
theorem op_shr8 : ∀ u v, IsI i u → IsI 8 v → Px w F b (binaryOp .RShift u v) (IsI (i / 256)) m led := fun u v hu hv s Q E f N q => by obtain ⟨t, rfl⟩ := hu; obtain ⟨t', rfl⟩ := hv; exact shr8 (q _ s.heap _ ⟨_, rfl⟩ f N)
theorem op_shr16 : ∀ u v, IsI i u → IsI 16 v → Px w F b (binaryOp .RShift u v) (IsI (i / 65536)) m led := fun u v hu hv s Q E f N q => by obtain ⟨t, rfl⟩ := hu; obtain ⟨t', rfl⟩ := hv; exact shr16 (q _ s.heap _ ⟨_, rfl⟩ f N)
theorem op_shr24 : ∀ u v, IsI i u → IsI 24 v → Px w F b (binaryOp .RShift u v) (IsI (i / 16777216)) m led := fun u v hu hv s Q E f N q => by obtain ⟨t, rfl⟩ := hu; obtain ⟨t', rfl⟩ := hv; exact shr24 (q _ s.heap _ ⟨_, rfl⟩ f N)
theorem op_shr32 : ∀ u v, IsI i u → IsI 32 v → Px w F b (binaryOp .RShift u v) (IsI (i / 4294967296)) m led := fun u v hu hv s Q E f N q => by obtain ⟨t, rfl⟩ := hu; obtain ⟨t', rfl⟩ := hv; exact shr32 (q _ s.heap _ ⟨_, rfl⟩ f N)
theorem op_addB {x y : Array UInt8} (hz : x.size + y.size ≤ 16777216) : ∀ u v, IsB x u → IsB y v → Px w F b (binaryOp .Add u v) (IsB (x ++ y)) m led := fun u v hu hv s Q E f N q => by obtain ⟨t, rfl⟩ := hu; obtain ⟨t', rfl⟩ := hv; exact add_bb hz fun t'' k'' => q _ s.heap _ ⟨_, rfl⟩ f N
end
section
variable {w : World} {D : Nat} {rest : Led}
theorem Calls.post {f : Addr} {args : List Value} {fp rest : Led} {post post' : Value → Led → Prop} (h : Calls w D f args fp rest post) (hp : ∀ r fp', post r fp' → post' r fp') : Calls w D f args fp rest post' := fun dp un gd cn cs a ccd cl outer A₀ base h₀ L m mg mb mean s Q E B F X N T hk hd hu k =>
  h dp un gd cn cs a ccd cl outer A₀ base h₀ L m mg mb mean s Q E B F X N T hk hd hu fun r fp' h' tk' F' N' p => k r fp' h' tk' F' N' (hp r fp' p)
theorem Calls.deep {D' : Nat} {f : Addr} {args : List Value} {fp rest : Led} {post : Value → Led → Prop} (h : Calls w D f args fp rest post) (hd : D ≤ D') : Calls w D' f args fp rest post := fun dp un gd cn cs a ccd cl outer A₀ base h₀ L m mg mb mean s Q E B F X N T hk hd hu k =>
  h dp un gd cn cs a ccd cl outer A₀ base h₀ L m mg mb mean s Q E B F X N T hk (by omega) (by omega) k
def rd32 (ks : List Int) (i : Int) : Int := ks.getD i.toNat 0 + ks.getD (i + 1).toNat 0 * 256 + ks.getD (i + 2).toNat 0 * 65536 + ks.getD (i + 3).toNat 0 * 16777216
theorem rd32_in {ks : List Int} (hr : ∀ k ∈ ks, 0 ≤ k ∧ k < 256) (i : Int) : 0 ≤ rd32 ks i ∧ rd32 ks i < 4294967296 := by
  have h0 := KBw.getD_in (j := i.toNat) hr
  have h1 := KBw.getD_in (j := (i + 1).toNat) hr
  have h2 := KBw.getD_in (j := (i + 2).toNat) hr
  have h3 := KBw.getD_in (j := (i + 3).toNat) hr
  unfold rd32
  omega
theorem rd32_c {B : Array UInt8} {t0 t1 : Tok} {i : Int} {ks : List Int} (hks : KBw.bInts B = ks) (h0 : 0 ≤ i) (hz : ks.length ≤ 2000) (h4 : i + 4 ≤ ks.length) : Calls w (D + 1) 115 [.bytes B t0, .int i t1] [] rest (fun r _ => IsI (rd32 ks i) r) := by
  have hr : ∀ k ∈ ks, 0 ≤ k ∧ k < 256 := fun k hk => KBw.ints_in (hks ▸ hk)
  have g0 := KBw.getD_in (j := i.toNat) hr
  have g1 := KBw.getD_in (j := (i + 1).toNat) hr
  have g2 := KBw.getD_in (j := (i + 2).toNat) hr
  have g3 := KBw.getD_in (j := (i + 3).toNat) hr
  have hz2 : ks.length ≤ 1099511627776 := by omega
  refine' calls_ofG (binds := [("data", .bytes B t0), ("at", .int i t1)]) ?ho ?hcd ?hb ?hl ?c1 ?c2 ?c3 ?c4 ?_
  fail "e"
  intro bb ok φ kφ
  refine sx_if1 (pc_or2 (pc_ltI (Px.mono (px_name rfl rfl rfl rfl) fun v h => ⟨t1, h⟩) px_int rfl) fun _ => pc_gtI (px_add (Px.mono (px_name rfl rfl rfl rfl) fun v h => ⟨t1, h⟩) px_int) (px_lenB ok (Px.mono (px_name rfl rfl rfl rfl) fun v h => ⟨t0, h⟩) (px_builtin ok (by fail "r") (by fail "r") (by decide) rfl rfl rfl) hks hz2 rfl rfl) rfl) (fun h => ?_) fun _ => ?_
  · rw [Bool.or_eq_true, decide_eq_true_eq, decide_eq_true_eq] at h
    omega
  · refine sx_ret (px_binop (px_binop (px_binop (px_itemB (Px.mono (px_name rfl rfl rfl rfl) fun v h => ⟨t0, h⟩) (Px.mono (px_name rfl rfl rfl rfl) fun v h => ⟨t1, h⟩) hks hz2 h0 (by omega) (fun _ _ => (by fail "r")) fun _ _ => (by fail "r"))
      (px_binop (px_itemB (Px.mono (px_name rfl rfl rfl rfl) fun v h => ⟨t0, h⟩) (px_add (Px.mono (px_name rfl rfl rfl rfl) fun v h => ⟨t1, h⟩) px_int) hks hz2 (by omega) (by omega) (fun _ _ => (by fail "r")) fun _ _ => (by fail "r")) px_int (op_shl8 g1.1 (by omega))) (op_or8 g0.1 g0.2 g1.1))
      (px_binop (px_itemB (Px.mono (px_name rfl rfl rfl rfl) fun v h => ⟨t0, h⟩) (px_add (Px.mono (px_name rfl rfl rfl rfl) fun v h => ⟨t1, h⟩) px_int) hks hz2 (by omega) (by omega) (fun _ _ => (by fail "r")) fun _ _ => (by fail "r")) px_int (op_shl16 g2.1 (by omega))) (op_or16 (by omega) (by omega) g2.1))
      (px_binop (px_itemB (Px.mono (px_name rfl rfl rfl rfl) fun v h => ⟨t0, h⟩) (px_add (Px.mono (px_name rfl rfl rfl rfl) fun v h => ⟨t1, h⟩) px_int) hks hz2 (by omega) (by omega) (fun _ _ => (by fail "r")) fun _ _ => (by fail "r")) px_int (op_shl24 g3.1 (by omega))) (op_or24 (by omega) (by omega) g3.1)) fun v hv => kφ (.ret v) _ [] hv
def rd64 (ks : List Int) (i : Int) : Int := rd32 ks i + rd32 ks (i + 4) * 4294967296
theorem rd64_c {B : Array UInt8} {t0 t1 : Tok} {i : Int} {ks : List Int} (hks : KBw.bInts B = ks) (h0 : 0 ≤ i) (hz : ks.length ≤ 2000) (h4 : i + 8 ≤ ks.length) : Calls w (D + 1 + 1) 122 [.bytes B t0, .int i t1] [] rest (fun r _ => IsI (rd64 ks i) r) := by
  have hr : ∀ k ∈ ks, 0 ≤ k ∧ k < 256 := fun k hk => KBw.ints_in (hks ▸ hk)
  have g0 := rd32_in hr i
  have g1 := rd32_in hr (i + 4)
  have hz2 : ks.length ≤ 1099511627776 := by omega
  refine' calls_ofG (binds := [("data", .bytes B t0), ("at", .int i t1)]) ?ho ?hcd ?hb ?hl ?c1 ?c2 ?c3 ?c4 ?_
  fail "e"
  intro bb ok φ kφ
  refine sx_if1 (pc_or2 (pc_ltI (Px.mono (px_name rfl rfl rfl rfl) fun v h => ⟨t1, h⟩) px_int rfl) fun _ => pc_gtI (px_add (Px.mono (px_name rfl rfl rfl rfl) fun v h => ⟨t1, h⟩) px_int) (px_lenB ok (Px.mono (px_name rfl rfl rfl rfl) fun v h => ⟨t0, h⟩) (px_builtin ok (by fail "r") (by fail "r") (by decide) rfl rfl rfl) hks hz2 rfl rfl) rfl) (fun h => ?_) fun _ => ?_
  · rw [Bool.or_eq_true, decide_eq_true_eq, decide_eq_true_eq] at h
    omega
  · refine sx_ret (px_binop (P := IsI (rd32 ks i)) (pf1 ok (px_glob ok (by fail "r") rfl rfl rfl) (px_args2 (px_name rfl rfl rfl rfl) (px_name rfl rfl rfl rfl) rfl rfl) (fun vs hvs => ?_) (by fail "r") rfl rfl rfl)
      (px_binop (P := IsI (rd32 ks (i + 4))) (pf1 ok (px_glob ok (by fail "r") rfl rfl rfl) (px_args2 (px_name rfl rfl rfl rfl) (px_add (Px.mono (px_name rfl rfl rfl rfl) fun v h => ⟨t1, h⟩) px_int) rfl rfl) (fun vs hvs => ?_) (by fail "r") rfl rfl rfl) px_int (op_shl32 g1.1 g1.2)) (op_or32 g0.1 g0.2 g1.1)) fun v hv => kφ (.ret v) _ [] hv
    · obtain ⟨_, _, rfl, rfl, rfl⟩ := hvs
      exact px_call ok (rd32_c (D := D) hks h0 hz (by omega)) (fun r fp' h => h) (fun _ h => nomatch h) rfl (by omega)
    · obtain ⟨_, _, rfl, rfl, t, rfl⟩ := hvs
      exact px_call ok (rd32_c (D := D) hks (by omega) hz (by omega)) (fun r fp' h => h) (fun _ h => nomatch h) rfl (by omega)
theorem rd64_tag {e : IK} (he : e.Ok) {i : Int} (hi : i = (e.ints.length : Int) - 8) : rd64 e.ints i = e.tag := by
  have hl := ints_len e
  have hi2 : i = (e.u.size : Int) := by omega
  subst hi2
  unfold rd64 rd32
  have e0 : ((e.u.size : Int)).toNat = e.u.size + 0 := by omega
  have e1 : ((e.u.size : Int) + 1).toNat = e.u.size + 1 := by omega
  have e2 : ((e.u.size : Int) + 2).toNat = e.u.size + 2 := by omega
  have e3 : ((e.u.size : Int) + 3).toNat = e.u.size + 3 := by omega
  have e4 : ((e.u.size : Int) + 4).toNat = e.u.size + 4 := by omega
  have e5 : ((e.u.size : Int) + 4 + 1).toNat = e.u.size + 5 := by omega
  have e6 : ((e.u.size : Int) + 4 + 2).toNat = e.u.size + 6 := by omega
  have e7 : ((e.u.size : Int) + 4 + 3).toNat = e.u.size + 7 := by omega
  rw [e0, e1, e2, e3, e4, e5, e6, e7, ints_at, ints_at, ints_at, ints_at, ints_at, ints_at, ints_at, ints_at]
  exact tag_sum e he
theorem tag_of_p {e : IK} {t0 : Tok} (he : e.Ok) : Calls w 3 157 [.bytes (ikb e) t0] [] rest (fun r _ => IsI e.tag r) := by
  have hks := bInts_ikb e he
  have hl := ints_len e
  have hl2 := he.u
  have fin := rd64_tag he rfl
  generalize ikb e = B at *
  generalize e.ints = ks at *
  have hz2 : ks.length ≤ 1099511627776 := by omega
  refine' calls_ofG (binds := [("ik", .bytes B t0)]) ?ho ?hcd ?hb ?hl ?c1 ?c2 ?c3 ?c4 ?_
  fail "e"
  intro bb ok φ kφ
  refine sx_if1 (pc_ltI (px_lenB ok (Px.mono (px_name rfl rfl rfl rfl) fun v h => ⟨t0, h⟩) (px_builtin ok (by fail "r") (by fail "r") (by decide) rfl rfl rfl) hks hz2 rfl rfl) (px_globI ok (by fail "r") rfl rfl rfl) rfl) (fun h => ?_) fun _ => ?_
  · have := of_decide_eq_true h
    omega
  · refine sx_ret (P := IsI e.tag) (pf1 ok (px_glob ok (by fail "r") rfl rfl rfl) (px_args2 (px_name rfl rfl rfl rfl) (px_sub (px_lenB ok (Px.mono (px_name rfl rfl rfl rfl) fun v h => ⟨t0, h⟩) (px_builtin ok (by fail "r") (by fail "r") (by decide) rfl rfl rfl) hks hz2 rfl rfl) (px_globI ok (by fail "r") rfl rfl rfl)) rfl rfl) (fun vs hvs => ?_) (by fail "r") rfl rfl rfl) fun v hv => kφ (.ret v) _ [] hv
    obtain ⟨_, _, rfl, rfl, t, rfl⟩ := hvs
    exact px_call ok (rd64_c (D := 0) hks (by omega) (by omega) (by omega)) (fun r fp' h => fin ▸ h) (fun _ h => nomatch h) rfl (by omega)
theorem user_cut {e : IK} (he : e.Ok) {c : Array UInt8} (hc : KBw.bInts c = (e.ints.drop ((none : Option Int).elim 0 (clipAt e.ints.length))).take ((some ((e.ints.length : Int) - 8)).elim e.ints.length (clipAt e.ints.length) - (none : Option Int).elim 0 (clipAt e.ints.length))) : c = e.u := by
  have hl := ints_len e
  apply bInts_inj
  rw [hc]
  have h3 : clipAt e.ints.length ((e.ints.length : Int) - 8) = e.u.size := by
    rw [hl]
    show clipAt (e.u.size + 8) (((e.u.size + 8 : Nat) : Int) - 8) = _
    have : (((e.u.size + 8 : Nat) : Int) - 8) = ((e.u.size : Nat) : Int) := by omega
    rw [this, clipAt_nat]; omega
  show ((e.ints.drop 0).take (clipAt e.ints.length ((e.ints.length : Int) - 8) - 0)) = _
  rw [h3, List.drop_zero, Nat.sub_zero]
  unfold IK.ints
  rw [List.take_append_of_le_length (by simp [KBw.bInts]), List.take_of_length_le (by simp [KBw.bInts])]
theorem px_cutB {F : FnC} {b : Bx} {m : Str → Option Value} {led : Led} {env : Env} {pos sp : Pos} {value hi : Expr} {B : Array UInt8} {ks : List Int} {k : Int} {P : Value → Prop} (h1 : Px w F b (eval value env) (IsB B) m led) (h2 : Px w F b (eval hi env) (IsI k) m led) (hks : KBw.bInts B = ks) (hz : ks.length ≤ 16777216)
    (hP : ∀ t c, KBw.bInts c = (ks.drop ((none : Option Int).elim 0 (clipAt ks.length))).take ((some k).elim ks.length (clipAt ks.length) - (none : Option Int).elim 0 (clipAt ks.length)) → P (.bytes c t))
    (hs : ∀ t n, subscripted (.Slice none (some hi) none sp) false (.bytes B t) (.ref n) = operate [.ref n, .bytes B t] (getItem (.bytes B t) (.ref n))) (ht : ∀ t r, letTemporaryGo value (.bytes B t) r = pure ()) :
    Px w F b (eval (.Subscript value (.Slice none (some hi) none sp) pos) env) P m led := fun s Q E f N q =>
  Subscript_ (h1 s _ E f N fun a1 h' tk' pa F' N' => by
    obtain ⟨t1, rfl⟩ := pa
    refine wpAny_Slice (wpAny_pure (h2 _ _ E F' N' fun a2 h2' tk2' pa2 F2' N2' => ?_))
    obtain ⟨t, rfl⟩ := pa2
    refine wpAny_pure ?_
    exact KBc.slice_K (s := ⟨_, _, _, _, _⟩) F2' N2' hks (by constructor) (by constructor) hz (fun h3' t' k' F3' N3' hc => q _ _ _ (hP _ _ hc) F3' N3') (hs _ _) (ht _))
theorem user_of_p {e : IK} {t0 : Tok} (he : e.Ok) : Calls w 1 150 [.bytes (ikb e) t0] [] rest (fun r _ => IsB e.u r) := by
  have hks := bInts_ikb e he
  have hl := ints_len e
  have hl2 := he.u
  have fin := fun c => @user_cut e he c
  generalize ikb e = B at *
  generalize e.ints = ks at *
  have hz2 : ks.length ≤ 1099511627776 := by omega
  refine' calls_ofG (binds := [("ik", .bytes B t0)]) ?ho ?hcd ?hb ?hl ?c1 ?c2 ?c3 ?c4 ?_
  fail "e"
  intro bb ok φ kφ
  refine sx_if1 (pc_ltI (px_lenB ok (Px.mono (px_name rfl rfl rfl rfl) fun v h => ⟨t0, h⟩) (px_builtin ok (by fail "r") (by fail "r") (by decide) rfl rfl rfl) hks hz2 rfl rfl) (px_globI ok (by fail "r") rfl rfl rfl) rfl) (fun h => ?_) fun _ => ?_
  · have := of_decide_eq_true h
    omega
  · refine sx_ret (P := IsB e.u) (pt1 (px_builtin ok (by fail "r") (by fail "r") (by decide) rfl rfl rfl) (px_args1 (px_cutB (P := IsB e.u) (Px.mono (px_name rfl rfl rfl rfl) fun v h => ⟨t0, h⟩) (px_sub (px_lenB ok (Px.mono (px_name rfl rfl rfl rfl) fun v h => ⟨t0, h⟩) (px_builtin ok (by fail "r") (by fail "r") (by decide) rfl rfl rfl) hks hz2 rfl rfl) (px_globI ok (by fail "r") rfl rfl rfl)) hks (by omega) (fun t c hc => ⟨t, by rw [fin c hc]⟩) (fun _ _ => (by fail "r")) fun _ _ => (by fail "r")) rfl) (fun vs hvs => ?_) rfl rfl rfl) fun v hv => kφ (.ret v) _ [] hv
    obtain ⟨_, rfl, t, rfl⟩ := hvs
    exact fun s Q E f N q => call_bytes_bytes (q _ s.heap s.toks ⟨t, rfl⟩ f N)
theorem ocmp_c {o : Addr} {x y : Array UInt8} {t0 t1 : Tok} : Calls w 1 171 [.ref o, .bytes x t0, .bytes y t1] [] rest (fun r _ => IsI (if ltB x y then -1 else if ltB y x then 1 else 0) r) := by
  refine' calls_ofG (binds := [("self", .ref o), ("a", .bytes x t0), ("b", .bytes y t1)]) ?ho ?hcd ?hb ?hl ?c1 ?c2 ?c3 ?c4 ?_
  fail "e"
  intro bb ok φ kφ
  refine sx_if1 (pc_ltB (Px.mono (px_name rfl rfl rfl rfl) fun v h => ⟨t0, h⟩) (Px.mono (px_name rfl rfl rfl rfl) fun v h => ⟨t1, h⟩) rfl) (fun h => sx_ret (px_neg px_int) fun v hv => kφ (.ret v) _ [] ?_) fun h => ?_
  · rw [if_pos h]; exact hv
  · refine sx_if1 (pc_gtB (Px.mono (px_name rfl rfl rfl rfl) fun v h => ⟨t0, h⟩) (Px.mono (px_name rfl rfl rfl rfl) fun v h => ⟨t1, h⟩) rfl) (fun h2 => sx_ret px_int fun v hv => kφ (.ret v) _ [] ?_) fun h2 => sx_ret px_int fun v hv => kφ (.ret v) _ [] ?_
    · rw [h, if_neg (by decide), if_pos h2]; exact hv
    · rw [h, if_neg (by decide), h2, if_neg (by decide)]; exact hv
theorem icmp_c {o : Addr} {e f : IK} {t0 t1 : Tok} (he : e.Ok) (hf : f.Ok) (ho : OrdIn rest o) : Calls w 4 253 [.ref o, .bytes (ikb e) t0, .bytes (ikb f) t1] [] rest (fun r _ => IsI (cmpI e f) r) := by
  obtain ⟨duo, uo, dd, hh, tt, n, m1, m2, m3, m4⟩ := ho
  refine' calls_ofG (binds := [("self", .ref o), ("a", .bytes (ikb e) t0), ("b", .bytes (ikb f) t1)]) ?ho ?hcd ?hb ?hl ?c1 ?c2 ?c3 ?c4 ?_
  fail "e"
  intro bb ok φ kφ
  refine sx_name (P := IsI (if ltB e.u f.u then -1 else if ltB f.u e.u then 1 else 0)) (pm1 ok (px_attr ok rfl m1 m2 rfl rfl (by fail "r") (by fail "r") (by fail "r") (by fail "r") rfl rfl rfl rfl) (px_meth ok m3 m4 rfl (by fail "r") (by fail "r") (by fail "r")) (px_args2 (P := IsB e.u) (P2 := IsB f.u) (pf1 ok (px_glob ok (by fail "r") rfl rfl rfl) (px_args1 (px_name rfl rfl rfl rfl) rfl) (fun vs hvs => ?_) (by fail "r") rfl rfl rfl) (pf1 ok (px_glob ok (by fail "r") rfl rfl rfl) (px_args1 (px_name rfl rfl rfl rfl) rfl) (fun vs hvs => ?_) (by fail "r") rfl rfl rfl) rfl rfl) (fun vs hvs => ?_) (by fail "r") rfl rfl rfl) (fun v hv => ?_) rfl rfl rfl
  · obtain ⟨_, rfl, rfl⟩ := hvs
    exact px_call ok (user_of_p he) (fun r fp' h => h) (fun _ h => nomatch h) rfl (by omega)
  · obtain ⟨_, rfl, rfl⟩ := hvs
    exact px_call ok (user_of_p hf) (fun r fp' h => h) (fun _ h => nomatch h) rfl (by omega)
  · obtain ⟨_, _, rfl, ⟨t, rfl⟩, ⟨t', rfl⟩⟩ := hvs
    exact px_call ok ocmp_c (fun r fp' h => h) (fun _ h => nomatch h) rfl (by omega)
  obtain ⟨tc, rfl⟩ := hv
  generalize hc : (if ltB e.u f.u = true then (-1 : Int) else if ltB f.u e.u = true then 1 else 0) = c
  have hcmp : cmpI e f = if c ≠ 0 then c else if f.tag < e.tag then -1 else if e.tag < f.tag then 1 else 0 := by
    rw [← hc]; unfold cmpI
    cases ltB e.u f.u <;> cases ltB f.u e.u <;> rfl
  refine sx_if1 (pc_neI (i := c) (Px.mono (px_name rfl rfl rfl rfl) fun v h => ⟨tc, h⟩) px_int rfl) (fun h => sx_ret (P := IsI c) (Px.mono (px_name rfl rfl rfl rfl) fun v h => ⟨tc, h⟩) fun v hv => kφ (.ret v) _ [] ?_) fun h => ?_
  · rw [hcmp, if_pos (by simpa using h)]; exact hv
  · have h0 : c = 0 := by simpa using h
    rw [h0, if_neg (by simp)] at hcmp
    refine sx_name (P := IsI e.tag) (pf1 ok (px_glob ok (by fail "r") rfl rfl rfl) (px_args1 (px_name rfl rfl rfl rfl) rfl) (fun vs hvs => ?_) (by fail "r") rfl rfl rfl) (fun v hv => ?_) rfl rfl rfl
    · obtain ⟨_, rfl, rfl⟩ := hvs
      exact px_call ok (tag_of_p he) (fun r fp' h => h) (fun _ h => nomatch h) rfl (by omega)
    refine sx_name (P := IsI f.tag) (pf1 ok (px_glob ok (by fail "r") rfl rfl rfl) (px_args1 (px_name rfl rfl rfl rfl) rfl) (fun vs hvs => ?_) (by fail "r") rfl rfl rfl) (fun v2 hv2 => ?_) rfl rfl rfl
    · obtain ⟨_, rfl, rfl⟩ := hvs
      exact px_call ok (tag_of_p hf) (fun r fp' h => h) (fun _ h => nomatch h) rfl (by omega)
    refine sx_if1 (pc_gtI (i := e.tag) (j := f.tag) (Px.mono (px_name rfl rfl rfl rfl) fun _ h => h.symm ▸ hv) (Px.mono (px_name rfl rfl rfl rfl) fun _ h => h.symm ▸ hv2) rfl) (fun h => sx_ret (px_neg px_int) fun v hv => kφ (.ret v) _ [] ?_) fun h => ?_
    · rw [hcmp, if_pos (of_decide_eq_true h)]; exact hv
    · refine sx_if1 (pc_ltI (i := e.tag) (j := f.tag) (Px.mono (px_name rfl rfl rfl rfl) fun _ h => h.symm ▸ hv) (Px.mono (px_name rfl rfl rfl rfl) fun _ h => h.symm ▸ hv2) rfl) (fun h2 => sx_ret px_int fun v hv => kφ (.ret v) _ [] ?_) fun h2 => sx_ret px_int fun v hv => kφ (.ret v) _ [] ?_
      · rw [hcmp, if_neg (of_decide_eq_false h), if_pos (of_decide_eq_true h2)]; exact hv
      · rw [hcmp, if_neg (of_decide_eq_false h), if_neg (of_decide_eq_false h2)]; exact hv
end
open PySem PySem.W PyProof.Rows
set_option linter.unusedVariables false
set_option maxRecDepth 100000
set_option maxHeartbeats 8000000
theorem byteArr_app (a b : List Int) : byteArr (a ++ b) = byteArr a ++ byteArr b := by simp [byteArr]
theorem byteArr_bInts (u : Array UInt8) : byteArr (KBw.bInts u) = u := by
  apply bInts_inj
  exact KBa.ints_make (fun n hn => KBw.ints_in hn)
def l32 (b : Int) : List Int := [b % 256, b / 256 % 256, b / 65536 % 256, b / 16777216]
theorem l32_in {b : Int} (h0 : 0 ≤ b) (h1 : b < 4294967296) : KBa.In (l32 b) := by
  intro n hn
  simp only [l32, List.mem_cons, List.not_mem_nil, or_false] at hn
  omega
theorem l64_tag (u : Array UInt8) (q k : Nat) (hq : q < 72057594037927936) (hk : k < 256) : u ++ (byteArr (l32 (((k : Int) + (q : Int) * 256) % 4294967296)) ++ byteArr (l32 (((k : Int) + (q : Int) * 256) / 4294967296))) = ikb ⟨u, q, k⟩ := by
  unfold ikb IK.ints
  rw [byteArr_app, byteArr_bInts, ← byteArr_app]
  congr 2
  unfold l32 tagL
  simp only [List.cons_append, List.nil_append, List.cons.injEq, and_true]
  refine ⟨?_, ?_, ?_, ?_, ?_, ?_, ?_, ?_⟩ <;> omega
section
variable {w : World} {D : Nat} {rest : Led}
theorem px_args4 {F : FnC} {b : Bx} {m : Str → Option Value} {led : Led} {env : Env} {pos : Pos} {e e2 e3 e4 : Expr} {P P2 P3 P4 : Value → Prop} (h1 : Px w F b (eval e env) P m led) (h2 : Px w F b (eval e2 env) P2 m led) (h3 : Px w F b (eval e3 env) P3 m led) (h4 : Px w F b (eval e4 env) P4 m led) (he : starEach [e, e2, e3, e4] env = (false, eval e env) :: starEach [e2, e3, e4] env) (he2 : starEach [e2, e3, e4] env = (false, eval e2 env) :: starEach [e3, e4] env) (he3 : starEach [e3, e4] env = (false, eval e3 env) :: starEach [e4] env) (he4 : starEach [e4] env = (false, eval e4 env) :: starEach [] env) :
    Px w F b (spliced (backTo pos (starEach [e, e2, e3, e4] env))) (fun vs => ∃ v v2 v3 v4, vs = [v, v2, v3, v4] ∧ P v ∧ P2 v2 ∧ P3 v3 ∧ P4 v4) m led := fun s Q E f N q =>
  args_cons (h1 s _ E f N fun a h' tk' pa F' N' => args_cons (h2 _ _ E F' N' fun a2 h2' tk2' pa2 F2' N2' => args_cons (h3 _ _ E F2' N2' fun a3 h3' tk3' pa3 F3' N3' => args_cons (h4 _ _ E F3' N3' fun a4 h4' tk4' pa4 F4' N4' => args_nil (q _ _ _ ⟨a, a2, a3, a4, rfl, pa, pa2, pa3, pa4⟩ F4' N4')) he4) he3) he2) he
theorem px_make {F : FnC} {b : Bx} {m : Str → Option Value} {led : Led} {env : Env} {pos lp : Pos} {o : Expr} {elts : List Expr} {ns : List Int} (h1 : Px w F b (eval o env) (fun a => a = .type "bytes") m led) (h2 : Px w F b (spliced (backTo lp (starEach elts env))) (fun vs => IntsAre vs ns) m led) (hr : KBa.In ns) (hn : ns.length ≤ 1000)
    (ha : starEach [.List elts lp] env = (false, eval (.List elts lp) env) :: starEach [] env)
    (he : eval (.Call o [.List elts lp] [] pos) env = (do callWith pos (← eval o env) [] (backTo pos (starEach [.List elts lp] env)) (backToKw pos (keywordEach [] env)))) : Px w F b (eval (.Call o [.List elts lp] [] pos) env) (IsB (byteArr ns)) m led := fun s Q E f N q =>
  Call_ (h1 s _ E f N fun a h' tk' pa F' N' => by
    subst pa
    refine Pv.callWith_type1 (args_cons (List_ (h2 _ _ E F' N' fun vs h2' tk2' pa2 F2' N2' => ?_)) ha) ha rfl
    have hl := pa2.length
    refine newList_K F2' N2' (fun l h3' F3' N3' _ => args_nil ?_) (by rw [hl]; exact Nat.le_trans hn (by decide))
    exact KBa.make_K F3' (news_of N3' fun _ h => .tail _ h) rfl (News.isList N3' (.head _)) pa2 hr (by omega) fun h4' t' k F4' N4' _ => q _ _ _ ⟨_, rfl⟩ F4' N4') he
theorem p32_c {B : Int} {t0 : Tok} (h0 : 0 ≤ B) (h1 : B < 4294967296) : Calls w 1 101 [.int B t0] [] rest (fun r _ => IsB (byteArr (l32 B)) r) := by
  have hin := l32_in h0 h1
  refine' calls_ofG (binds := [("n", .int B t0)]) ?ho ?hcd ?hb ?hl ?c1 ?c2 ?c3 ?c4 ?_
  fail "e"
  intro bb ok φ kφ
  refine sx_if1 (pc_or2 (pc_ltI (Px.mono (px_name rfl rfl rfl rfl) fun v h => ⟨t0, h⟩) px_int rfl) fun _ => pc_gtI (Px.mono (px_name rfl rfl rfl rfl) fun v h => ⟨t0, h⟩) (px_globI ok (by fail "r") rfl rfl rfl) rfl) (fun h => ?_) fun _ => ?_
  · rw [Bool.or_eq_true, decide_eq_true_eq, decide_eq_true_eq] at h
    omega
  · refine sx_ret (px_make (ns := l32 B) (px_builtin ok (by fail "r") (by fail "r") (by decide) rfl rfl rfl) (Px.mono (px_args4 (px_binop (Px.mono (px_name rfl rfl rfl rfl) fun v h => ⟨t0, h⟩) px_int (op_and255 h0)) (px_binop (px_binop (Px.mono (px_name rfl rfl rfl rfl) fun v h => ⟨t0, h⟩) px_int op_shr8) px_int (op_and255 (by omega))) (px_binop (px_binop (Px.mono (px_name rfl rfl rfl rfl) fun v h => ⟨t0, h⟩) px_int op_shr16) px_int (op_and255 (by omega))) (px_binop (Px.mono (px_name rfl rfl rfl rfl) fun v h => ⟨t0, h⟩) px_int op_shr24) rfl rfl rfl rfl) fun vs hvs => ?_) hin (by show 4 ≤ 1000; decide) rfl rfl) fun v hv => kφ (.ret v) _ [] hv
    obtain ⟨_, _, _, _, rfl, ⟨_, rfl⟩, ⟨_, rfl⟩, ⟨_, rfl⟩, ⟨_, rfl⟩⟩ := hvs
    exact .cons _ _ (.cons _ _ (.cons _ _ (.cons _ _ .nil)))
theorem p64_c {B : Int} {t0 : Tok} (h0 : 0 ≤ B) (h1 : B < 18446744073709551616) : Calls w 2 108 [.int B t0] [] rest (fun r _ => IsB (byteArr (l32 (B % 4294967296)) ++ byteArr (l32 (B / 4294967296))) r) := by
  refine' calls_ofG (binds := [("n", .int B t0)]) ?ho ?hcd ?hb ?hl ?c1 ?c2 ?c3 ?c4 ?_
  fail "e"
  intro bb ok φ kφ
  refine sx_if1 (pc_or2 (pc_ltI (Px.mono (px_name rfl rfl rfl rfl) fun v h => ⟨t0, h⟩) px_int rfl) fun _ => pc_gtI (Px.mono (px_name rfl rfl rfl rfl) fun v h => ⟨t0, h⟩) (px_globI ok (by fail "r") rfl rfl rfl) rfl) (fun h => ?_) fun _ => ?_
  · rw [Bool.or_eq_true, decide_eq_true_eq, decide_eq_true_eq] at h
    omega
  · refine sx_ret (px_binop (P := IsB (byteArr (l32 (B % 4294967296)))) (P2 := IsB (byteArr (l32 (B / 4294967296)))) (pf1 ok (px_glob ok (by fail "r") rfl rfl rfl) (px_args1 (px_binop (Px.mono (px_name rfl rfl rfl rfl) fun v h => ⟨t0, h⟩) (px_globI ok (by fail "r") rfl rfl rfl) (op_andM h0)) rfl) (fun vs hvs => ?_) (by fail "r") rfl rfl rfl) (pf1 ok (px_glob ok (by fail "r") rfl rfl rfl) (px_args1 (px_binop (Px.mono (px_name rfl rfl rfl rfl) fun v h => ⟨t0, h⟩) px_int op_shr32) rfl) (fun vs hvs => ?_) (by fail "r") rfl rfl rfl) (op_addB (by rw [PySem.byteArr_size, PySem.byteArr_size]; show 8 ≤ 16777216; decide))) fun v hv => kφ (.ret v) _ [] hv
    · obtain ⟨_, rfl, t, rfl⟩ := hvs
      exact px_call ok (p32_c (by omega) (by omega)) (fun r fp' h => h) (fun _ h => nomatch h) rfl (by omega)
    · obtain ⟨_, rfl, t, rfl⟩ := hvs
      exact px_call ok (p32_c (by omega) (by omega)) (fun r fp' h => h) (fun _ h => nomatch h) rfl (by omega)
theorem tag_c {q : Int} {t1 t2 : Tok} (h0 : 0 ≤ q) (h1 : q < 72057594037927936) : Calls w 1 129 [.int q t1, .int 1 t2] [] rest (fun r _ => IsI (1 + q * 256) r) := by
  refine' calls_ofG (binds := [("seq", .int q t1), ("kind", .int 1 t2)]) ?ho ?hcd ?hb ?hl ?c1 ?c2 ?c3 ?c4 ?_
  fail "e"
  intro bb ok φ kφ
  refine sx_if1 (pc_or2 (pc_ltI (Px.mono (px_name rfl rfl rfl rfl) fun v h => ⟨t1, h⟩) px_int rfl) fun _ => pc_gtI (Px.mono (px_name rfl rfl rfl rfl) fun v h => ⟨t1, h⟩) (px_globI ok (by fail "r") rfl rfl rfl) rfl) (fun h => ?_) fun _ => ?_
  · rw [Bool.or_eq_true, decide_eq_true_eq, decide_eq_true_eq] at h
    omega
  refine sx_if1 (pc_and2 (pc_neI (i := 1) (Px.mono (px_name rfl rfl rfl rfl) fun v h => ⟨t2, h⟩) (px_globI ok (by fail "r") rfl rfl rfl) rfl) fun _ => pc_neI (i := 1) (Px.mono (px_name rfl rfl rfl rfl) fun v h => ⟨t2, h⟩) (px_globI ok (by fail "r") rfl rfl rfl) rfl) (fun h => by cases h) fun _ => ?_
  exact sx_ret (px_binop (px_binop (Px.mono (px_name rfl rfl rfl rfl) fun v h => ⟨t1, h⟩) px_int (op_shl8b h0 h1)) (Px.mono (px_name rfl rfl rfl rfl) fun v h => ⟨t2, h⟩) (op_or8r (by decide) (by decide) h0)) fun v hv => kφ (.ret v) _ [] hv
theorem mkik_c {u : Array UInt8} {q : Int} {t0 t1 t2 : Tok} (h0 : 0 ≤ q) (h1 : q < 72057594037927936) (hu : u.size ≤ 1000) : Calls w 3 136 [.bytes u t0, .int q t1, .int 1 t2] [] rest (fun r _ => IsB (ikb ⟨u, q.toNat, 1⟩) r) := by
  obtain ⟨n, rfl⟩ : ∃ n : Nat, q = (n : Int) := ⟨q.toNat, by omega⟩
  rw [Int.toNat_natCast, ← l64_tag u n 1 (by omega) (by decide)]
  refine' calls_ofG (binds := [("user", .bytes u t0), ("seq", .int (n : Int) t1), ("kind", .int 1 t2)]) ?ho ?hcd ?hb ?hl ?c1 ?c2 ?c3 ?c4 ?_
  fail "e"
  intro bb ok φ kφ
  refine sx_ret (px_binop (P := IsB u) (P2 := IsB (byteArr (l32 ((1 + (n : Int) * 256) % 4294967296)) ++ byteArr (l32 ((1 + (n : Int) * 256) / 4294967296)))) (pt1 (px_builtin ok (by fail "r") (by fail "r") (by decide) rfl rfl rfl) (px_args1 (px_name rfl rfl rfl rfl) rfl) (fun vs hvs => ?_) rfl rfl rfl) (pf1 ok (px_glob ok (by fail "r") rfl rfl rfl) (px_args1 (P := IsI (1 + (n : Int) * 256)) (pf1 ok (px_glob ok (by fail "r") rfl rfl rfl) (px_args2 (px_name rfl rfl rfl rfl) (px_name rfl rfl rfl rfl) rfl rfl) (fun vs hvs => ?_) (by fail "r") rfl rfl rfl) rfl) (fun vs hvs => ?_) (by fail "r") rfl rfl rfl) (op_addB (by rw [Array.size_append, PySem.byteArr_size, PySem.byteArr_size]; show u.size + 8 ≤ 16777216; omega))) fun v hv => kφ (.ret v) _ [] hv
  · obtain ⟨_, rfl, rfl⟩ := hvs
    exact fun s Q E f N q => call_bytes_bytes (q _ s.heap s.toks ⟨t0, rfl⟩ f N)
  · obtain ⟨_, _, rfl, rfl, rfl⟩ := hvs
    exact px_call ok (tag_c h0 h1) (fun r fp' h => h) (fun _ h => nomatch h) rfl (by omega)
  · obtain ⟨_, rfl, t, rfl⟩ := hvs
    exact px_call ok (p64_c (by omega) (by omega)) (fun r fp' h => h) (fun _ h => nomatch h) rfl (by omega)
end
open PySem PySem.W PyProof.Rows
set_option linter.unusedVariables false
set_option maxRecDepth 100000
set_option maxHeartbeats 8000000
theorem LeafIn.mono {rest rest' : Led} {c dx o r : Addr} {vs : Array Value} {n2 : Nat} {R : List Row} (h : LeafIn rest c dx o r vs n2 R) (hs : ∀ p ∈ rest, p ∈ rest') : LeafIn rest' c dx o r vs n2 R :=
  ⟨hs _ h.inst, hs _ h.lst, h.len, fun i k v hx => by obtain ⟨a, t1, t2, n, e1, e2⟩ := h.row i k v hx; exact ⟨a, t1, t2, n, e1, hs _ e2⟩, h.ok, h.small, h.ord.mono hs⟩
theorem isI {i : Int} {t : Tok} : ∀ v, v = .int i t → IsI i v := fun v h => ⟨t, h⟩
theorem isB {x : Array UInt8} {t : Tok} : ∀ v, v = .bytes x t → IsB x v := fun v h => ⟨t, h⟩
section
variable {w : World} {D : Nat} {rest : Led} {c dx o r : Addr} {vs : Array Value} {n2 : Nat} {R : List Row} {q : LP} {p : Int} {t : Tok}
theorem lx_place {F : FnC} {b : Bx} {m : Str → Option Value} {φ : Flow → (Str → Option Value) → Led → Prop} {g : Int} {xp pos pos' : Pos} {value : Expr} {x : Str} (ok : Okx w D b) (m1 : (c, instObj 380 dx) ∈ rest) (off : ∀ p ∈ rest, p.1 ≠ dx) (hv : m x = some (.ref c))
    (h : Px w F b (eval value (evx F b)) (IsI g) m ((dx, LD q r o p t) :: rest)) (hq : ∀ t : Tok, φ .next m ((dx, LD q r o g t) :: rest)) (hk : F.cs.kind = .function) (hx : (evx F b).kindOf x = some .local) (hd : (x == ("__debug__" : Str)) = false) (hs : swapsWith value (some (.Attribute (.Name x xp) "place" pos')) pos.line (evx F b) = pure false) :
    Lx w F b (exec (.Assign [.Attribute (.Name x xp) "place" pos'] value pos) (evx F b)) φ m ((dx, LD q r o p t) :: rest) :=
  lx_attrP (C := 380) (dx := dx) (r := c) (es' := fun v => [⟨q.h1, .str "rows" q.t1, .ref r⟩, ⟨q.h2, .str "order" q.t2, .ref o⟩, ⟨q.h3, .str "place" q.t3, v⟩]) (n' := 3) (led' := fun v => (dx, dictOf [⟨q.h1, .str "rows" q.t1, .ref r⟩, ⟨q.h2, .str "order" q.t2, .ref o⟩, ⟨q.h3, .str "place" q.t3, v⟩] 3) :: rest) ok h (rx_name hv hk hx hd) (.tail _ m1) (.head _) (by fail "r") (by fail "r") (by fail "r") (by fail "r")
    rfl (fun _ _ => rfl) (fun _ => .head off) (fun _ => by show 3 ≤ 1000; decide) hs (fun v hv => by obtain ⟨t, rfl⟩ := hv; exact hq t)
theorem lx_placeAug {F : FnC} {b : Bx} {m : Str → Option Value} {φ : Flow → (Str → Option Value) → Led → Prop} {op : Operator} {g : Int} {P : Value → Prop} {xp pos pos' : Pos} {value : Expr} {x : Str} (ok : Okx w D b) (m1 : (c, instObj 380 dx) ∈ rest) (off : ∀ p ∈ rest, p.1 ≠ dx) (hv : m x = some (.ref c))
    (h : Px w F b (eval value (evx F b)) P m ((dx, LD q r o p t) :: rest)) (hop : ∀ u, P u → Px w F b (inplaceOp op (.int p t) u) (IsI g) m ((dx, LD q r o p t) :: rest)) (hq : ∀ t : Tok, φ .next m ((dx, LD q r o g t) :: rest)) (hk : F.cs.kind = .function) (hx : (evx F b).kindOf x = some .local) (hd : (x == ("__debug__" : Str)) = false) :
    Lx w F b (exec (.AugAssign (.Attribute (.Name x xp) "place" pos') op value pos) (evx F b)) φ m ((dx, LD q r o p t) :: rest) :=
  lx_augattr (C := 380) (dx := dx) (r := c) (es' := fun v => [⟨q.h1, .str "rows" q.t1, .ref r⟩, ⟨q.h2, .str "order" q.t2, .ref o⟩, ⟨q.h3, .str "place" q.t3, v⟩]) (n' := 3) (led' := fun v => (dx, dictOf [⟨q.h1, .str "rows" q.t1, .ref r⟩, ⟨q.h2, .str "order" q.t2, .ref o⟩, ⟨q.h3, .str "place" q.t3, v⟩] 3) :: rest) ok hv h hop (.tail _ m1) (.head _) rfl rfl (by fail "r") (by fail "r") (by fail "r") (by fail "r") (by fail "r") (by fail "r") (by fail "r")
    (fun _ _ => rfl) (fun _ => .head off) (fun _ => by show 3 ≤ 1000; decide) (fun v hv => by obtain ⟨t, rfl⟩ := hv; exact hq t) hk hx hd
theorem lvalid_c (hl : LeafIn rest c dx o r vs n2 R) : Calls w (D + 1) 321 [.ref c] [(dx, LD q r o p t)] rest (fun v fp' => v = .bool (decide (0 ≤ p ∧ p < R.length)) ∧ fp' = [(dx, LD q r o p t)]) := by
  have m1 := hl.inst
  have m2 := hl.lst
  have l1 := hl.len
  have l2 := hl.small
  refine' calls_ofG (binds := [("self", .ref c)]) ?ho ?hcd ?hb ?hl ?c1 ?c2 ?c3 ?c4 ?_
  fail "e"
  intro bb ok φ kφ
  refine sx_ret (pv_and (pv_cmp px_int (Px.mono (px_attr ok rfl (.tail _ m1) (.head _) rfl rfl (by fail "r") (by fail "r") (by fail "r") (by fail "r") rfl rfl rfl rfl) isI) op_leI rfl) fun _ => pv_cmp (Px.mono (px_attr ok rfl (.tail _ m1) (.head _) rfl rfl (by fail "r") (by fail "r") (by fail "r") (by fail "r") rfl rfl rfl rfl) isI) (px_len ok (px_attr ok rfl (.tail _ m1) (.head _) rfl rfl (by fail "r") (by fail "r") (by fail "r") (by fail "r") rfl rfl rfl rfl) (px_builtin ok (by fail "r") (by fail "r") (by decide) rfl rfl rfl) (.tail _ m2) (by omega) rfl rfl) op_ltI rfl) fun v hv => kφ (.ret v) _ [_] ⟨hv.trans ?_, rfl⟩
  rw [l1, ← Bool.decide_and]
theorem lneed_c (hl : LeafIn rest c dx o r vs n2 R) (h0 : 0 ≤ p) (h1 : p < R.length) : Calls w (D + 1 + 1) 328 [.ref c] [(dx, LD q r o p t)] rest (fun v fp' => fp' = [(dx, LD q r o p t)]) := by
  have m1 := hl.inst
  refine' calls_ofG (binds := [("self", .ref c)]) ?ho ?hcd ?hb ?hl ?c1 ?c2 ?c3 ?c4 ?_
  fail "e"
  intro bb ok φ kφ
  refine sx_if1 (c := !true) (pc_not (pc_val (pm0 ok (px_name rfl rfl rfl rfl) (px_meth ok (.tail _ m1) (.head _) rfl (by fail "r") (by fail "r") (by fail "r")) (px_call ok (lvalid_c (D := D) (hl.mono fun p hp => .tail _ hp)) (fun r fp' h => h.1.trans (by rw [decide_eq_true ⟨h0, h1⟩])) (fun p hp => by rw [List.mem_singleton.mp hp]; exact .head _) rfl (Nat.le_refl _)) (by fail "r") rfl) rfl)) (fun h => by cases h) fun _ => lx_nil (kφ .next _ [_] rfl)
theorem sx_lneed {F : FnC} {b : Bx} {m : Str → Option Value} {φ : Flow → (Str → Option Value) → Led → Prop} {pl : Sem Bool} {xp ap pos : Pos} {stmts : List Stmt} (ok : Okx w D b) (hl : LeafIn rest c dx o r vs n2 R) (h0 : 0 ≤ p) (h1 : p < R.length) (e1 : m "self" = some (.ref c)) (hq : Lx w F b (execs stmts (evx F b)) φ m ((dx, LD q r o p t) :: rest)) (hk : F.cs.kind = .function) (hx : (evx F b).kindOf "self" = some .local) (hD : 2 ≤ D) (hia : interactive (evx F b) = false)
    (hs : swapsWith (.Call (.Attribute (.Name "self" xp) "need" ap) [] [] pos) none pos.line (evx F b) = pure false) (he : eval (.Call (.Attribute (.Name "self" xp) "need" ap) [] [] pos) (evx F b) = (do
      let ov ← eval (.Name "self" xp) (evx F b)
      standAt ap.atName
      let (f, first) ← holding [ov] (getMethod ov "need" pl)
      callWith pos f first (backTo pos (starEach [] (evx F b))) [])) : Lx w F b (execs (.Expr (.Call (.Attribute (.Name "self" xp) "need" ap) [] [] pos) pos :: stmts) (evx F b)) φ m ((dx, LD q r o p t) :: rest) := by
  have m1 := hl.inst
  refine sx_expr (lm0 ok (px_name e1 hk hx rfl) (px_meth ok (.tail _ m1) (.head _) rfl (by fail "r") (by fail "r") (by fail "r")) (lx_call ok hk hD (lneed_c (D := 0) hl h0 h1) (fun _ h => h) fun r fp' hp => ?_) (by fail "r") he) hia hs
  subst hp
  exact hq
theorem lat_c {i : Nat} {x : Row} {ti : Tok} (hl : LeafIn rest c dx o r vs n2 R) (hx : R[i]? = some x) : Calls w (D + 1) 307 [.ref c, .int (i : Int) ti] [(dx, LD q r o p t)] rest (fun v fp' => IsB (ikb x.1) v ∧ fp' = [(dx, LD q r o p t)]) := by
  have m1 := hl.inst
  have l2 := hl.small
  obtain ⟨a, t1, t2, n, e1, e2⟩ := hl.row _ _ _ hx
  have h1 := (List.getElem?_eq_some_iff.mp hx).1
  refine' calls_ofG (binds := [("self", .ref c), ("i", .int (i : Int) ti)]) ?ho ?hcd ?hb ?hl ?c1 ?c2 ?c3 ?c4 ?_
  fail "e"
  intro bb ok φ kφ
  exact sx_ret (px_itemT (px_item (px_attr ok rfl (.tail _ m1) (.head _) rfl rfl (by fail "r") (by fail "r") (by fail "r") (by fail "r") rfl rfl rfl rfl) (Px.mono (px_name rfl rfl rfl rfl) isI) (.tail _ hl.lst) (by omega) (by omega) e1 (fun _ => (by fail "r"))) px_int (.tail _ e2) (by decide) (by decide) rfl (fun _ => (by fail "r"))) fun v hv => kφ (.ret v) _ [_] ⟨⟨t1, hv⟩, rfl⟩
theorem lvat_c {i : Nat} {x : Row} {ti : Tok} (hl : LeafIn rest c dx o r vs n2 R) (hx : R[i]? = some x) : Calls w (D + 1) 314 [.ref c, .int (i : Int) ti] [(dx, LD q r o p t)] rest (fun v fp' => IsB x.2 v ∧ fp' = [(dx, LD q r o p t)]) := by
  have m1 := hl.inst
  have l2 := hl.small
  obtain ⟨a, t1, t2, n, e1, e2⟩ := hl.row _ _ _ hx
  have h1 := (List.getElem?_eq_some_iff.mp hx).1
  refine' calls_ofG (binds := [("self", .ref c), ("i", .int (i : Int) ti)]) ?ho ?hcd ?hb ?hl ?c1 ?c2 ?c3 ?c4 ?_
  fail "e"
  intro bb ok φ kφ
  exact sx_ret (px_itemT (px_item (px_attr ok rfl (.tail _ m1) (.head _) rfl rfl (by fail "r") (by fail "r") (by fail "r") (by fail "r") rfl rfl rfl rfl) (Px.mono (px_name rfl rfl rfl rfl) isI) (.tail _ hl.lst) (by omega) (by omega) e1 (fun _ => (by fail "r"))) px_int (.tail _ e2) (by decide) (by decide) rfl (fun _ => (by fail "r"))) fun v hv => kφ (.ret v) _ [_] ⟨⟨t2, hv⟩, rfl⟩
theorem lkey_c {i : Nat} {x : Row} (hl : LeafIn rest c dx o r vs n2 R) (hp : p = (i : Int)) (hx : R[i]? = some x) : Calls w (D + 2 + 1) 370 [.ref c] [(dx, LD q r o p t)] rest (fun v fp' => IsB (ikb x.1) v ∧ fp' = [(dx, LD q r o p t)]) := by
  have m1 := hl.inst
  have h1 := (List.getElem?_eq_some_iff.mp hx).1
  subst hp
  refine' calls_ofG (binds := [("self", .ref c)]) ?ho ?hcd ?hb ?hl ?c1 ?c2 ?c3 ?c4 ?_
  fail "e"
  intro bb ok φ kφ
  refine sx_lneed ok hl (by omega) (by omega) rfl ?_ rfl rfl (by omega) rfl rfl rfl
  refine sx_ret (P := IsB (ikb x.1)) (pm1 ok (px_name rfl rfl rfl rfl) (px_meth ok (.tail _ m1) (.head _) rfl (by fail "r") (by fail "r") (by fail "r")) (px_args1 (px_attr ok rfl (.tail _ m1) (.head _) rfl rfl (by fail "r") (by fail "r") (by fail "r") (by fail "r") rfl rfl rfl rfl) rfl) (fun vs hvs => ?_) (by fail "r") rfl rfl rfl) fun v hv => kφ (.ret v) _ [_] ⟨hv, rfl⟩
  obtain ⟨_, rfl, rfl⟩ := hvs
  exact px_call ok (lat_c (D := 0) (hl.mono fun p hp => .tail _ hp) hx) (fun r fp' h => h.1) (fun p hp => by rw [List.mem_singleton.mp hp]; exact .head _) rfl (by omega)
theorem lvalue_c {i : Nat} {x : Row} (hl : LeafIn rest c dx o r vs n2 R) (hp : p = (i : Int)) (hx : R[i]? = some x) : Calls w (D + 2 + 1) 377 [.ref c] [(dx, LD q r o p t)] rest (fun v fp' => IsB x.2 v ∧ fp' = [(dx, LD q r o p t)]) := by
  have m1 := hl.inst
  have h1 := (List.getElem?_eq_some_iff.mp hx).1
  subst hp
  refine' calls_ofG (binds := [("self", .ref c)]) ?ho ?hcd ?hb ?hl ?c1 ?c2 ?c3 ?c4 ?_
  fail "e"
  intro bb ok φ kφ
  refine sx_lneed ok hl (by omega) (by omega) rfl ?_ rfl rfl (by omega) rfl rfl rfl
  refine sx_ret (P := IsB x.2) (pm1 ok (px_name rfl rfl rfl rfl) (px_meth ok (.tail _ m1) (.head _) rfl (by fail "r") (by fail "r") (by fail "r")) (px_args1 (px_attr ok rfl (.tail _ m1) (.head _) rfl rfl (by fail "r") (by fail "r") (by fail "r") (by fail "r") rfl rfl rfl rfl) rfl) (fun vs hvs => ?_) (by fail "r") rfl rfl rfl) fun v hv => kφ (.ret v) _ [_] ⟨hv, rfl⟩
  obtain ⟨_, rfl, rfl⟩ := hvs
  exact px_call ok (lvat_c (D := 0) (hl.mono fun p hp => .tail _ hp) hx) (fun r fp' h => h.1) (fun p hp => by rw [List.mem_singleton.mp hp]; exact .head _) rfl (by omega)
inductive LpP (q : LP) (r o dx : Addr) (g : Int) : Value → Led → Prop
  | mk (t : Tok) : LpP q r o dx g .none [(dx, LD q r o g t)]
theorem lfirst_c (hl : LeafIn rest c dx o r vs n2 R) (off : ∀ p ∈ rest, p.1 ≠ dx) : Calls w (D + 1) 335 [.ref c] [(dx, LD q r o p t)] rest (LpP q r o dx 0) := by
  refine' calls_ofG (binds := [("self", .ref c)]) ?ho ?hcd ?hb ?hl ?c1 ?c2 ?c3 ?c4 ?_
  fail "e"
  intro bb ok φ kφ
  exact lx_seq (lx_place ok hl.inst off rfl px_int (fun t => lx_nil (kφ .next _ [_] (.mk t))) rfl rfl rfl rfl)
theorem llast_c (hl : LeafIn rest c dx o r vs n2 R) (off : ∀ p ∈ rest, p.1 ≠ dx) : Calls w (D + 1) 342 [.ref c] [(dx, LD q r o p t)] rest (LpP q r o dx ((R.length : Int) - 1)) := by
  have m1 := hl.inst
  have l1 := hl.len
  have l2 := hl.small
  refine' calls_ofG (binds := [("self", .ref c)]) ?ho ?hcd ?hb ?hl ?c1 ?c2 ?c3 ?c4 ?_
  fail "e"
  intro bb ok φ kφ
  exact lx_seq (lx_place ok hl.inst off rfl (px_sub (px_len ok (px_attr ok rfl (.tail _ m1) (.head _) rfl rfl (by fail "r") (by fail "r") (by fail "r") (by fail "r") rfl rfl rfl rfl) (px_builtin ok (by fail "r") (by fail "r") (by decide) rfl rfl rfl) (.tail _ hl.lst) (by omega) rfl rfl) px_int) (fun t => lx_nil (kφ .next _ [_] (by rw [← l1]; exact .mk t))) rfl rfl rfl rfl)
theorem lstep_c (hl : LeafIn rest c dx o r vs n2 R) (off : ∀ p ∈ rest, p.1 ≠ dx) (h0 : 0 ≤ p) (h1 : p < R.length) : Calls w (D + 2 + 1) 356 [.ref c] [(dx, LD q r o p t)] rest (LpP q r o dx (p + 1)) := by
  refine' calls_ofG (binds := [("self", .ref c)]) ?ho ?hcd ?hb ?hl ?c1 ?c2 ?c3 ?c4 ?_
  fail "e"
  intro bb ok φ kφ
  exact sx_lneed ok hl h0 h1 rfl (lx_seq (lx_placeAug ok hl.inst off rfl px_int (op_iadd ⟨t, rfl⟩) (fun t => lx_nil (kφ .next _ [_] (.mk t))) rfl rfl rfl)) rfl rfl (by omega) rfl rfl rfl
theorem lback_c (hl : LeafIn rest c dx o r vs n2 R) (off : ∀ p ∈ rest, p.1 ≠ dx) (h0 : 0 ≤ p) (h1 : p < R.length) : Calls w (D + 2 + 1) 363 [.ref c] [(dx, LD q r o p t)] rest (LpP q r o dx (p - 1)) := by
  refine' calls_ofG (binds := [("self", .ref c)]) ?ho ?hcd ?hb ?hl ?c1 ?c2 ?c3 ?c4 ?_
  fail "e"
  intro bb ok φ kφ
  exact sx_lneed ok hl h0 h1 rfl (lx_seq (lx_placeAug ok hl.inst off rfl px_int (op_isub ⟨t, rfl⟩) (fun t => lx_nil (kφ .next _ [_] (.mk t))) rfl rfl rfl)) rfl rfl (by omega) rfl rfl rfl
structure LsJ (led : Led) (c : Addr) (e : IK) (te : Tok) (i : Nat) (len : Nat) (n : Nat) (m : Str → Option Value) (led' : Led) : Prop where
  hl : led' = led
  es : m "self" = some (.ref c)
  et : m "target" = some (.bytes (ikb e) te)
  lh : ∃ lo hi : Int, (∃ v, m "low" = some v ∧ IsI lo v) ∧ (∃ v, m "high" = some v ∧ IsI hi v) ∧ 0 ≤ lo ∧ lo ≤ i ∧ (i : Int) ≤ hi ∧ hi ≤ len ∧ (n : Int) = hi - lo
theorem lseek_c {e : IK} {te : Tok} {i : Nat} (hl : LeafIn rest c dx o r vs n2 R) (off : ∀ p ∈ rest, p.1 ≠ dx) (he : e.Ok) (hi : i ≤ R.length) (hcut : ∀ (j : Nat) (x : Row), R[j]? = some x → (cmpI x.1 e < 0 ↔ j < i)) :
    Calls w (D + 5 + 1) 349 [.ref c, .bytes (ikb e) te] [(dx, LD q r o p t)] rest (LpP q r o dx (i : Int)) := by
  have m1 := hl.inst
  have l1 := hl.len
  have l2 := hl.small
  have ord := hl.ord
  obtain ⟨duo, uo, dd, hh, tt, nn, o1, o2, o3, o4⟩ := id hl.ord
  refine' calls_ofG (binds := [("self", .ref c), ("target", .bytes (ikb e) te)]) ?ho ?hcd ?hb ?hl ?c1 ?c2 ?c3 ?c4 ?_
  fail "e"
  intro bb ok φ kφ
  refine sx_name px_int (fun v hv => ?_) rfl rfl rfl
  refine sx_name (px_len ok (px_attr ok rfl (.tail _ m1) (.head _) rfl rfl (by fail "r") (by fail "r") (by fail "r") (by fail "r") rfl rfl rfl rfl) (px_builtin ok (by fail "r") (by fail "r") (by decide) rfl rfl rfl) (.tail _ hl.lst) (by omega) rfl rfl) (fun v2 hv2 => ?_) rfl rfl rfl
  refine sx_while (LsJ ((dx, LD q r o p t) :: rest) c e te i R.length) (fun m led => led = (dx, LD q r o p t) :: rest ∧ m "self" = some (.ref c) ∧ ∃ v, m "low" = some v ∧ IsI (i : Int) v) R.length ⟨rfl, rfl, rfl, 0, R.length, ⟨v, rfl, hv⟩, ⟨v2, rfl, l1 ▸ hv2⟩, by omega, by omega, by omega, by omega, by omega⟩ ?_ fun m' led' h => ?_
  · clear hv hv2
    intro n m₁ led₁ hx Φ kn kc kb kr
    obtain ⟨rfl, es, et, lo, hi2, el, eh, b1, b2, b3, b4, b5⟩ := hx
    refine ⟨decide (lo < hi2), pc_ltI (px_nameP el rfl rfl rfl) (px_nameP eh rfl rfl rfl) rfl, fun hc => ?_, fun hc => ?_⟩
    · have hlt := of_decide_eq_true hc
      have c1 : lo ≤ (lo + hi2).fdiv 2 ∧ (lo + hi2).fdiv 2 < hi2 := by
        rw [Int.fdiv_eq_ediv_of_nonneg _ (by decide)]; omega
      refine sx_name (px_fdiv (px_add (px_nameP el rfl rfl rfl) (px_nameP eh rfl rfl rfl)) px_int (by decide) (by rw [PyProof.noPylong_small (by omega)]; decide)) (fun v hv => ?_) rfl rfl rfl
      obtain ⟨mid, hmid⟩ : ∃ mid : Nat, (lo + hi2).fdiv 2 = (mid : Int) := ⟨((lo + hi2).fdiv 2).toNat, by omega⟩
      rw [hmid] at c1 hv
      obtain ⟨tm, rfl⟩ := hv
      obtain ⟨y, hy⟩ : ∃ y, R[mid]? = some y := ⟨_, List.getElem?_eq_getElem (by omega)⟩
      have hok : y.1.Ok := hl.ok _ (List.mem_of_getElem? hy)
      have hd := hcut _ _ hy
      refine sx_if (pc_ltI (i := cmpI y.1 e) (pm1 ok (px_attr ok es (.tail _ m1) (.head _) rfl rfl (by fail "r") (by fail "r") (by fail "r") (by fail "r") rfl rfl rfl rfl) (px_meth ok (.tail _ o1) (.tail _ o2) rfl (by fail "r") (by fail "r") (by fail "r")) (px_args2 (P := IsB (ikb y.1)) (pm1 ok (px_name es rfl rfl rfl) (px_meth ok (.tail _ m1) (.head _) rfl (by fail "r") (by fail "r") (by fail "r")) (px_args1 (px_name rfl rfl rfl rfl) rfl) (fun vs hvs => ?_) (by fail "r") rfl rfl rfl) (px_name et rfl rfl rfl) rfl rfl) (fun vs hvs => ?_) (by fail "r") rfl rfl rfl) px_int rfl) (fun h => ?_) fun h => ?_
      · obtain ⟨_, rfl, rfl⟩ := hvs
        exact px_call ok (lat_c (D := 0) (hl.mono fun p hp => .tail _ hp) hy) (fun r fp' h => h.1) (fun p hp => by rw [List.mem_singleton.mp hp]; exact .head _) rfl (by omega)
      · obtain ⟨_, _, rfl, ⟨t', rfl⟩, rfl⟩ := hvs
        exact px_call ok (icmp_c hok he (ord.mono fun p hp => .tail _ hp)) (fun r fp' h => h) (fun _ h => nomatch h) rfl (by omega)
      · have hd2 := hd.mp (of_decide_eq_true h)
        refine sx_name (px_add (Px.mono (px_name rfl rfl rfl rfl) isI) px_int) (fun v hv => ?_) rfl rfl rfl
        exact lx_nil (lx_nil (kn (hi2 - (mid + 1)).toNat _ _ (by omega) ⟨rfl, es, et, mid + 1, hi2, ⟨v, rfl, hv⟩, eh, by omega, by omega, by omega, by omega, by omega⟩))
      · have hd2 := mt hd.mpr (of_decide_eq_false h)
        refine sx_name (px_name rfl rfl rfl rfl) (fun v hv => ?_) rfl rfl rfl
        exact lx_nil (lx_nil (kn (mid - lo).toNat _ _ (by omega) ⟨rfl, es, et, lo, mid, el, ⟨v, rfl, tm, hv⟩, by omega, by omega, by omega, by omega, by omega⟩))
    · have hlt := of_decide_eq_false hc
      have e0 : lo = (i : Int) := by omega
      exact ⟨rfl, es, e0 ▸ el⟩
  · obtain ⟨rfl, es, el⟩ := h
    exact lx_seq (lx_place ok hl.inst off es (px_nameP el rfl rfl rfl) (fun t => lx_nil (kφ .next _ [_] (.mk t))) rfl rfl rfl rfl)
end
open PySem PySem.W PyProof.Rows
structure MP where
  h1 : Int
  h2 : Int
  h3 : Int
  h4 : Int
  h5 : Int
  t1 : Tok
  t2 : Tok
  t3 : Tok
  t4 : Tok
  t5 : Tok
abbrev MD (q : MP) (ch tp o : Addr) (cur : Int) (tc : Tok) (going : Int) (tg : Tok) : Obj :=
  dictOf [⟨q.h1, .str "children" q.t1, .ref ch⟩, ⟨q.h2, .str "tops" q.t2, .ref tp⟩, ⟨q.h3, .str "order" q.t3, .ref o⟩, ⟨q.h4, .str "current" q.t4, .int cur tc⟩, ⟨q.h5, .str "going" q.t5, .int going tg⟩] 5
def TopV (k : Option IK) (v : Value) : Prop := match k with
  | none => v = .none
  | some e => ∃ t, v = .bytes (ikb e) t
def TopsAre (tops : Array Value) (keys : List (Option IK)) : Prop := tops.size = keys.length ∧ ∀ (i : Nat) k, keys[i]? = some k → ∃ v, tops[i]? = some v ∧ TopV k v
def keyAt (keys : List (Option IK)) (b : Int) : Option IK := (keys[b.toNat]?).join
def leastTo (keys : List (Option IK)) : Nat → Int
  | 0 => -1
  | n + 1 => match keyAt keys n with
    | none => leastTo keys n
    | some e => if leastTo keys n < 0 then n else match keyAt keys (leastTo keys n) with
      | none => leastTo keys n
      | some f => if cmpI e f < 0 then n else leastTo keys n
def greatOf (keys : List (Option IK)) : Nat → Int
  | 0 => -1
  | c + 1 => match keyAt keys ((keys.length - (c + 1) : Nat) : Int) with
    | none => greatOf keys c
    | some e => if greatOf keys c < 0 then ((keys.length - (c + 1) : Nat) : Int) else match keyAt keys (greatOf keys c) with
      | none => greatOf keys c
      | some f => if 0 < cmpI e f then ((keys.length - (c + 1) : Nat) : Int) else greatOf keys c
theorem keyAt_nat (keys : List (Option IK)) (n : Nat) : keyAt keys (n : Int) = (keys[n]?).join := rfl
theorem leastTo_spec (keys : List (Option IK)) : ∀ n, leastTo keys n < 0 ∨ (0 ≤ leastTo keys n ∧ leastTo keys n < n ∧ ∃ f, keyAt keys (leastTo keys n) = some f)
  | 0 => .inl (by unfold leastTo; decide)
  | n + 1 => by
    have ih := leastTo_spec keys n
    have up : leastTo keys n < 0 ∨ (0 ≤ leastTo keys n ∧ leastTo keys n < ((n + 1 : Nat) : Int) ∧ ∃ f, keyAt keys (leastTo keys n) = some f) := by
      rcases ih with h | ⟨a, b, c⟩
      · exact .inl h
      · exact .inr ⟨a, by omega, c⟩
    unfold leastTo
    cases he : keyAt keys n with
    | none => exact up
    | some e =>
      have here : (n : Int) < 0 ∨ (0 ≤ (n : Int) ∧ (n : Int) < ((n + 1 : Nat) : Int) ∧ ∃ f, keyAt keys (n : Int) = some f) := .inr ⟨by omega, by omega, e, he⟩
      simp only
      split
      · exact here
      · split
        · exact up
        · split
          · exact here
          · exact up
theorem keyAt_top {tops : Array Value} {keys : List (Option IK)} (ht : TopsAre tops keys) {b : Int} {f : IK} (h : keyAt keys b = some f) : ∃ t, tops[b.toNat]? = some (.bytes (ikb f) t) := by
  unfold keyAt at h
  cases hk : keys[b.toNat]? with
  | none => rw [hk] at h; cases h
  | some k =>
    rw [hk] at h
    have : k = some f := h
    obtain ⟨v, h1, h2⟩ := ht.2 _ _ hk
    rw [this] at h2
    obtain ⟨t, rfl⟩ := h2
    exact ⟨t, h1⟩
theorem keyAt_mem {keys : List (Option IK)} {b : Int} {f : IK} (h : keyAt keys b = some f) : some f ∈ keys := by
  unfold keyAt at h
  cases hk : keys[b.toNat]? with
  | none => rw [hk] at h; cases h
  | some k =>
    rw [hk] at h
    have : k = some f := h
    rw [← this]
    exact List.mem_of_getElem? hk
theorem keyAt_lt {keys : List (Option IK)} {i : Nat} {e : IK} (h : keyAt keys (i : Int) = some e) : i < keys.length := by
  rw [keyAt_nat] at h
  cases hk : keys[i]? with
  | none => rw [hk] at h; cases h
  | some k => exact (List.getElem?_eq_some_iff.mp hk).1
theorem greatOf_spec (keys : List (Option IK)) : ∀ c, greatOf keys c < 0 ∨ (0 ≤ greatOf keys c ∧ greatOf keys c < keys.length ∧ ∃ f, keyAt keys (greatOf keys c) = some f)
  | 0 => .inl (by unfold greatOf; decide)
  | c + 1 => by
    have ih := greatOf_spec keys c
    unfold greatOf
    cases he : keyAt keys ((keys.length - (c + 1) : Nat) : Int) with
    | none => exact ih
    | some e =>
      have hl := keyAt_lt he
      have here : ((keys.length - (c + 1) : Nat) : Int) < 0 ∨ (0 ≤ ((keys.length - (c + 1) : Nat) : Int) ∧ ((keys.length - (c + 1) : Nat) : Int) < keys.length ∧ ∃ f, keyAt keys ((keys.length - (c + 1) : Nat) : Int) = some f) := .inr ⟨by omega, by omega, e, he⟩
      simp only
      split
      · exact here
      · split
        · exact ih
        · split
          · exact here
          · exact ih
structure Moved (f : Nat → KS → Option Nat) (ks ks' : List KS) : Prop where
  len : ks'.length = ks.length
  at_ : ∀ (i : Nat) k, ks[i]? = some k → ∃ fp', ks'[i]? = some { k with fp := fp', st := f i k } ∧ sameAdr fp' k.fp
structure PartMoved (f : Nat → KS → Option Nat) (ks ks' : List KS) (tops0 tops : Array Value) (n : Nat) : Prop where
  len : ks'.length = ks.length
  sz : tops.size = ks.length
  done : ∀ (i : Nat) k, i < n → ks[i]? = some k → ∃ fp', ks'[i]? = some { k with fp := fp', st := f i k } ∧ sameAdr fp' k.fp ∧ ∃ v, tops[i]? = some v ∧ TopV (KS.key { k with fp := fp', st := f i k }) v
  todo : ∀ (i : Nat), n ≤ i → ks'[i]? = ks[i]?
  todoT : ∀ (i : Nat), n ≤ i → tops[i]? = tops0[i]?
theorem PartMoved.step {f : Nat → KS → Option Nat} {ks ks' : List KS} {tops0 tops : Array Value} {n : Nat} {k : KS} {fp' : Led} {v : Value} (P : PartMoved f ks ks' tops0 tops n) (hk : ks[n]? = some k) (ha : sameAdr fp' k.fp) (hv : TopV (KS.key { k with fp := fp', st := f n k }) v) :
    PartMoved f ks (ks'.set n { k with fp := fp', st := f n k }) tops0 (tops.setIfInBounds n v) (n + 1) := by
  have hn := (List.getElem?_eq_some_iff.mp hk).1
  have hn' : n < ks'.length := by rw [P.len]; exact hn
  refine ⟨by rw [List.length_set]; exact P.len, by rw [Array.size_setIfInBounds]; exact P.sz, fun i k2 hi h2 => ?_, fun i hi => ?_, fun i hi => ?_⟩
  · by_cases e : n = i
    · subst e
      rw [hk] at h2; cases h2
      refine ⟨fp', by rw [List.getElem?_set_self hn'], ha, v, ?_, hv⟩
      rw [Array.getElem?_setIfInBounds_self_of_lt (by rw [P.sz]; exact hn)]
    · obtain ⟨fp2, a, b, v2, c, d⟩ := P.done i k2 (by omega) h2
      exact ⟨fp2, by rw [List.getElem?_set_ne e]; exact a, b, v2, by rw [Array.getElem?_setIfInBounds_ne e]; exact c, d⟩
  · rw [List.getElem?_set_ne (by omega)]
    exact P.todo i (by omega)
  · rw [Array.getElem?_setIfInBounds_ne (by omega)]
    exact P.todoT i (by omega)
theorem PartMoved.skip {f : Nat → KS → Option Nat} {ks ks' : List KS} {tops0 tops : Array Value} {n : Nat} {k : KS} {v : Value} (P : PartMoved f ks ks' tops0 tops n) (hk : ks[n]? = some k) (hf : f n k = k.st) (ht : tops0[n]? = some v) (hv : TopV k.key v) :
    PartMoved f ks ks' tops0 tops (n + 1) := by
  refine ⟨P.len, P.sz, fun i k2 hi h2 => ?_, fun i hi => P.todo i (by omega), fun i hi => P.todoT i (by omega)⟩
  by_cases e : n = i
  · subst e
    rw [hk] at h2; cases h2
    refine ⟨k.fp, ?_, rfl, v, ?_, ?_⟩
    · rw [P.todo n (Nat.le_refl _), hk, hf]
    · rw [P.todoT n (Nat.le_refl _), ht]
    · rw [hf]; exact hv
  · exact P.done i k2 (by omega) h2
theorem PartMoved.all {f : Nat → KS → Option Nat} {ks ks' : List KS} {tops0 tops : Array Value} (P : PartMoved f ks ks' tops0 tops ks.length) : Moved f ks ks' ∧ TopsAre tops (ks'.map KS.key) := by
  refine ⟨⟨P.len, fun i k hk => ?_⟩, by rw [List.length_map, P.len, P.sz], fun i k hk => ?_⟩
  · obtain ⟨fp', a, b, _⟩ := P.done i k (List.getElem?_eq_some_iff.mp hk).1 hk
    exact ⟨fp', a, b⟩
  · rw [List.getElem?_map] at hk
    obtain ⟨k', hk', rfl⟩ := Option.map_eq_some_iff.mp hk
    have hi : i < ks.length := by rw [← P.len]; exact (List.getElem?_eq_some_iff.mp hk').1
    obtain ⟨fp', a, b, v, c, d⟩ := P.done i _ hi (List.getElem?_eq_getElem hi)
    rw [hk'] at a
    cases a
    exact ⟨v, c, d⟩
theorem PartMoved.zero {f : Nat → KS → Option Nat} {ks : List KS} {tops : Array Value} (h : tops.size = ks.length) : PartMoved f ks ks tops tops 0 :=
  ⟨rfl, h, fun _ _ h => absurd h (Nat.not_lt_zero _), fun _ _ => rfl, fun _ _ => rfl⟩
theorem off_cons {x : Addr × Obj} {fp T : Led} (h1 : ∀ p ∈ fp, x.1 ≠ p.1) (h2 : Off fp T) : Off fp (x :: T) := fun p hp q hq => by
  rcases List.mem_cons.mp hq with rfl | h
  · exact h1 p hp
  · exact h2 p hp q h
theorem adr_set {ks : List KS} {i : Nat} {k k' : KS} (hk : ks[i]? = some k) (ha : sameAdr k'.fp k.fp) : ∀ p ∈ kfps (ks.set i k'), ∃ p' ∈ kfps ks, p'.1 = p.1 := fun p hp => by
  rcases mem_kfps_set hp with h | h
  · have : p.1 ∈ k.fp.map (·.1) := ha ▸ List.mem_map_of_mem h
    obtain ⟨p', hp', e⟩ := List.mem_map.mp this
    exact ⟨p', mem_kfps (List.mem_of_getElem? hk) p' hp', e⟩
  · exact ⟨p, mem_erase_of h, rfl⟩
structure LoopIn (C : CurP) (rest : Led) (f : Nat → KS → Option Nat) (ks ks₁ : List KS) (tops0 tops₁ : Array Value) (dx tp : Addr) (n : Nat) : Prop where
  kids : KidsIn C rest ks₁
  part : PartMoved f ks ks₁ tops0 tops₁ n
  off : ∀ p ∈ kfps ks₁ ++ rest, p.1 ≠ dx ∧ p.1 ≠ tp
section
variable {w : World} {dp un : Nat} {gd : Option (List Code)} {cn : Str} {cs : Scope} {a : Addr} {ccd : Value} {cl : List (Str × Addr)} {outer : List Env} {A₀ : Around} {base h₀ : Heap} {L : Addr} {m mg mb : Str → Option Value} {mean : ExcName → Option Value} {s : Shared} {rest : Led}
  {Q E : Value → Shared → Prop} {D : Nat} {C : CurP} {x dx ch tp o : Addr} {q : MP} {cur going : Int} {tc tg : Tok} {tops : Array Value} {nt : Nat} {ks : List KS} {kc : KS}
end
open PySem PySem.W PyProof.Rows
def placeOf (R : List Row) (n : Nat) : Option Nat := if n < R.length then some n else none
def ltLen (R : List Row) (e : IK) : Nat := (R.takeWhile fun x => decide (cmpI x.1 e < 0)).length
def eqLen (R : List Row) (e : IK) (i : Nat) : Nat := ((R.drop i).takeWhile fun x => decide (cmpI x.1 e = 0)).length
theorem seekAt_eq (R : List Row) (e : IK) : seekAt R e = placeOf R (ltLen R e) := rfl
def afterAt (R : List Row) (e : IK) : Option Nat := placeOf R (ltLen R e + eqLen R e (ltLen R e))
theorem tw_at {p : Row → Bool} : ∀ {l : List Row} {j : Nat} {x : Row}, l[j]? = some x → j ≤ (l.takeWhile p).length → (j < (l.takeWhile p).length ↔ p x = true)
  | [], _, _, h, _ => by simp at h
  | a :: l, 0, x, h, _ => by
    simp only [List.getElem?_cons_zero, Option.some.injEq] at h
    subst h
    cases ha : p a <;> simp [List.takeWhile_cons, ha]
  | a :: l, j + 1, x, h, hj => by
    simp only [List.getElem?_cons_succ] at h
    cases ha : p a with
    | false => simp [List.takeWhile_cons, ha] at hj
    | true =>
      simp only [List.takeWhile_cons, ha, if_true, List.length_cons] at hj ⊢
      have := tw_at (p := p) h (by omega)
      rw [← this]; omega
theorem tw_le (p : Row → Bool) : ∀ l : List Row, (l.takeWhile p).length ≤ l.length
  | [] => Nat.le_refl _
  | a :: l => by
    cases ha : p a with
    | false => simp [List.takeWhile_cons, ha]
    | true => simp only [List.takeWhile_cons, ha, if_true, List.length_cons]; have := tw_le p l; omega
theorem eqLen_at {R : List Row} {e : IK} {i j : Nat} {x : Row} (h : R[j]? = some x) (hij : i ≤ j) (hj : j ≤ i + eqLen R e i) : (j < i + eqLen R e i ↔ cmpI x.1 e = 0) := by
  have h2 : (R.drop i)[j - i]? = some x := by rw [List.getElem?_drop, show i + (j - i) = j by omega]; exact h
  have := tw_at (p := fun x => decide (cmpI x.1 e = 0)) h2 (by unfold eqLen at hj; omega)
  simp only [decide_eq_true_eq] at this
  rw [← this]; unfold eqLen; omega
theorem ltLen_le (R : List Row) (e : IK) : ltLen R e ≤ R.length := tw_le _ _
theorem eqLen_le (R : List Row) (e : IK) (i : Nat) (hi : i ≤ R.length) : i + eqLen R e i ≤ R.length := by
  have := tw_le (fun x => decide (cmpI x.1 e = 0)) (R.drop i)
  rw [List.length_drop] at this
  unfold eqLen; omega
theorem placeOf_lt {R : List Row} {n : Nat} (h : n < R.length) : placeOf R n = some n := if_pos h
theorem placeOf_ge {R : List Row} {n : Nat} (h : ¬ n < R.length) : placeOf R n = none := if_neg h
theorem nextAt_eq (R : List Row) (i : Nat) : nextAt R i = placeOf R (i + 1) := rfl
section
variable {w : World} {dp un D : Nat} {gd : Option (List Code)} {cn : Str} {cs : Scope} {a f c : Addr} {ccd : Value} {cl : List (Str × Addr)} {outer : List Env} {A₀ A : Around} {base h₀ : Heap} {L : Addr} {m mg mb : Str → Option Value} {mean : ExcName → Option Value} {s : Shared} {news fp rest : Led}
  {E Q : Value → Shared → Prop} {C : CurP} {kd : Bool} {R : List Row} {i : Nat}
end
section
variable {w : World} {dp un : Nat} {gd : Option (List Code)} {cn : Str} {cs : Scope} {a : Addr} {ccd : Value} {cl : List (Str × Addr)} {outer : List Env} {A₀ : Around} {base h₀ : Heap} {L : Addr} {m mg mb : Str → Option Value} {mean : ExcName → Option Value} {s : Shared} {rest : Led}
  {Q E : Value → Shared → Prop} {D : Nat} {C : CurP} {x dx ch tp o : Addr} {q : MP} {cur going : Int} {tc tg : Tok} {tops : Array Value} {nt : Nat} {ks : List KS} {kc : KS}
end
open PySem PySem.W PyProof.Rows
set_option linter.unusedVariables false
set_option maxRecDepth 100000
set_option maxHeartbeats 8000000
def FixC (C : CurP) (r0 : Led) : CurP := fun fp rest c kd R st => C fp r0 c kd R st ∧ ∀ p ∈ r0, p ∈ rest
theorem CurSpec.fix {w : World} {D : Nat} {C : CurP} (S : CurSpec w D C) (r0 : Led) : CurSpec w D (FixC C r0) where
  mono := fun h hs => ⟨h.1, fun p hp => hs p (h.2 p hp)⟩
  obj := fun h => by obtain ⟨dx, es, n, a, b, c⟩ := S.obj h.1; exact ⟨dx, es, n, h.2 _ a, b, c⟩
  ok := fun h => S.ok h.1
  size := fun h => S.size h.1
  valid := fun h hs => S.valid h.1 fun p hp => hs p (h.2 p hp)
  key := fun h hx hs => S.key h.1 hx fun p hp => hs p (h.2 p hp)
  value := fun h hx hs => S.value h.1 hx fun p hp => hs p (h.2 p hp)
  first := fun h hs ho => (S.first h.1 (fun p hp => hs p (h.2 p hp)) ho).post fun r fp' g => ⟨g.1, g.2.1, g.2.2, h.2⟩
  last := fun h hs ho => (S.last h.1 (fun p hp => hs p (h.2 p hp)) ho).post fun r fp' g => ⟨g.1, g.2.1, g.2.2, h.2⟩
  seek := fun h hs ho he => (S.seek h.1 (fun p hp => hs p (h.2 p hp)) ho he).post fun r fp' g => ⟨g.1, g.2.1, g.2.2, h.2⟩
  step := fun h hs ho => (S.step h.1 (fun p hp => hs p (h.2 p hp)) ho).post fun r fp' g => ⟨g.1, g.2.1, g.2.2, h.2⟩
  back := fun h hs ho => (S.back h.1 (fun p hp => hs p (h.2 p hp)) ho).post fun r fp' g => ⟨g.1, g.2.1, g.2.2, h.2⟩
section
variable {w : World} {D : Nat} {T : Led} {x dx ch tp o : Addr} {q : MP} {cur going : Int} {tc tg : Tok} {tops : Array Value} {nt : Nat}
theorem lx_cur {F : FnC} {b : Bx} {m : Str → Option Value} {φ : Flow → (Str → Option Value) → Led → Prop} {g : Int} {xp pos pos' : Pos} {value : Expr} (ok : Okx w D b) (m1 : (x, instObj 506 dx) ∈ T) (off : ∀ p ∈ T, p.1 ≠ dx) (hv : m "self" = some (.ref x))
    (h : Px w F b (eval value (evx F b)) (IsI g) m ((dx, MD q ch tp o cur tc going tg) :: T)) (hq : ∀ t : Tok, φ .next m ((dx, MD q ch tp o g t going tg) :: T)) (hk : F.cs.kind = .function) (hx : (evx F b).kindOf "self" = some .local) (hs : swapsWith value (some (.Attribute (.Name "self" xp) "current" pos')) pos.line (evx F b) = pure false) :
    Lx w F b (exec (.Assign [.Attribute (.Name "self" xp) "current" pos'] value pos) (evx F b)) φ m ((dx, MD q ch tp o cur tc going tg) :: T) :=
  lx_attrP (C := 506) (dx := dx) (r := x) (es' := fun v => [⟨q.h1, .str "children" q.t1, .ref ch⟩, ⟨q.h2, .str "tops" q.t2, .ref tp⟩, ⟨q.h3, .str "order" q.t3, .ref o⟩, ⟨q.h4, .str "current" q.t4, v⟩, ⟨q.h5, .str "going" q.t5, .int going tg⟩]) (n' := 5) (led' := fun v => (dx, dictOf [⟨q.h1, .str "children" q.t1, .ref ch⟩, ⟨q.h2, .str "tops" q.t2, .ref tp⟩, ⟨q.h3, .str "order" q.t3, .ref o⟩, ⟨q.h4, .str "current" q.t4, v⟩, ⟨q.h5, .str "going" q.t5, .int going tg⟩] 5) :: T) ok h (rx_name hv hk hx rfl) (.tail _ m1) (.head _) (by fail "r") (by fail "r") (by fail "r") (by fail "r")
    rfl (fun _ _ => rfl) (fun _ => .head off) (fun _ => by show 5 ≤ 1000; decide) hs (fun v hv => by obtain ⟨t, rfl⟩ := hv; exact hq t)
theorem lx_mgoing {F : FnC} {b : Bx} {m : Str → Option Value} {φ : Flow → (Str → Option Value) → Led → Prop} {g : Int} {xp pos pos' : Pos} {value : Expr} (ok : Okx w D b) (m1 : (x, instObj 506 dx) ∈ T) (off : ∀ p ∈ T, p.1 ≠ dx) (hv : m "self" = some (.ref x))
    (h : Px w F b (eval value (evx F b)) (IsI g) m ((dx, MD q ch tp o cur tc going tg) :: T)) (hq : ∀ t : Tok, φ .next m ((dx, MD q ch tp o cur tc g t) :: T)) (hk : F.cs.kind = .function) (hx : (evx F b).kindOf "self" = some .local) (hs : swapsWith value (some (.Attribute (.Name "self" xp) "going" pos')) pos.line (evx F b) = pure false) :
    Lx w F b (exec (.Assign [.Attribute (.Name "self" xp) "going" pos'] value pos) (evx F b)) φ m ((dx, MD q ch tp o cur tc going tg) :: T) :=
  lx_attrP (C := 506) (dx := dx) (r := x) (es' := fun v => [⟨q.h1, .str "children" q.t1, .ref ch⟩, ⟨q.h2, .str "tops" q.t2, .ref tp⟩, ⟨q.h3, .str "order" q.t3, .ref o⟩, ⟨q.h4, .str "current" q.t4, .int cur tc⟩, ⟨q.h5, .str "going" q.t5, v⟩]) (n' := 5) (led' := fun v => (dx, dictOf [⟨q.h1, .str "children" q.t1, .ref ch⟩, ⟨q.h2, .str "tops" q.t2, .ref tp⟩, ⟨q.h3, .str "order" q.t3, .ref o⟩, ⟨q.h4, .str "current" q.t4, .int cur tc⟩, ⟨q.h5, .str "going" q.t5, v⟩] 5) :: T) ok h (rx_name hv hk hx rfl) (.tail _ m1) (.head _) (by fail "r") (by fail "r") (by fail "r") (by fail "r")
    rfl (fun _ _ => rfl) (fun _ => .head off) (fun _ => by show 5 ≤ 1000; decide) hs (fun v hv => by obtain ⟨t, rfl⟩ := hv; exact hq t)
theorem TopV.isO {k : Option IK} {v : Value} (h : TopV k v) : IsO (k.map ikb) v := by
  cases k with
  | none => exact h
  | some e => exact h
inductive MdP (q : MP) (ch tp o dx : Addr) (g going : Int) (tg : Tok) : Value → Led → Prop
  | mk (t : Tok) : MdP q ch tp o dx g going tg .none [(dx, MD q ch tp o g t going tg)]
structure LeJ (x : Addr) (led : Led) (keys : List (Option IK)) (f : Nat → Int) (i : Nat) (m : Str → Option Value) (led' : Led) : Prop where
  hl : led' = led
  e1 : m "self" = some (.ref x)
  e2 : ∃ v, m "best" = some v ∧ IsI (f i) v
theorem least_c {keys : List (Option IK)} (m1 : (x, instObj 506 dx) ∈ T) (mt : (tp, listOf tops nt) ∈ T) (ord : OrdIn T o) (ht : TopsAre tops keys) (hok : ∀ e, some e ∈ keys → e.Ok) (hn : keys.length ≤ 1000) (off : ∀ p ∈ T, p.1 ≠ dx) :
    Calls w (D + 5 + 1) 412 [.ref x] [(dx, MD q ch tp o cur tc going tg)] T (MdP q ch tp o dx (leastTo keys keys.length) going tg) := by
  obtain ⟨duo, uo, dd, hh, tt, nn, o1, o2, o3, o4⟩ := id ord
  have hsz := ht.1
  refine' calls_ofG (binds := [("self", .ref x)]) ?ho ?hcd ?hb ?hl ?c1 ?c2 ?c3 ?c4 ?_
  fail "e"
  intro bb ok φ kφ
  refine sx_name (px_neg px_int) (fun v hv => ?_) rfl rfl rfl
  refine sx_forUp (n := keys.length) ok (px_builtin ok (by fail "r") (by fail "r") (by decide) rfl rfl rfl) (px_I (px_len ok (px_attr ok rfl (.tail _ m1) (.head _) rfl rfl (by fail "r") (by fail "r") (by fail "r") (by fail "r") rfl rfl rfl rfl) (px_builtin ok (by fail "r") (by fail "r") (by decide) rfl rfl rfl) (.tail _ mt) (by omega) rfl rfl) (by rw [hsz])) (by omega) (LeJ x ((dx, MD q ch tp o cur tc going tg) :: T) keys (leastTo keys)) ⟨rfl, rfl, v, rfl, hv⟩ ?_ ?_ rfl rfl rfl rfl (fun _ => rfl)
  · intro i m₁ led₁ I oI t hi hJ hne Φ kn kr
    obtain ⟨rfl, e1, e2⟩ := hJ
    obtain ⟨k0, hk0⟩ : ∃ k0, keys[i]? = some k0 := ⟨_, List.getElem?_eq_getElem hi⟩
    obtain ⟨v, hv, hv2⟩ := ht.2 _ _ hk0
    have hat : keyAt keys (i : Int) = k0 := by rw [keyAt_nat, hk0]; rfl
    refine sx_name (px_item (v := v) (k := (i : Int)) (px_attr ok e1 (.tail _ (.tail _ m1)) (.tail _ (.head _)) rfl rfl (by fail "r") (by fail "r") (by fail "r") (by fail "r") rfl rfl rfl rfl) (Px.mono (px_name rfl rfl rfl rfl) isI) (.tail _ (.tail _ mt)) (by omega) (by omega) hv (fun _ => (by fail "r"))) (fun v' hv' => ?_) rfl rfl rfl
    subst hv'
    refine sx_if1 (pc_is (Px.mono (px_name rfl rfl rfl rfl) fun a ha => by rw [ha]; exact hv2.isO) px_none rfl) (fun hc => ?_) fun hc => ?_
    · have hk : k0 = none := by cases k0 with | none => rfl | some e => cases hc
      have hL : leastTo keys (i + 1) = leastTo keys i := by rw [leastTo, hat, hk]
      exact lx_seq (lx_continue (kn .cont _ _ _ (.inr rfl) ⟨rfl, e1, hL ▸ e2⟩ (fun p hp => .tail _ hp) (.head _) hne))
    · obtain ⟨e, rfl⟩ : ∃ e, k0 = some e := by cases k0 with | none => cases hc | some e => exact ⟨e, rfl⟩
      obtain ⟨te, rfl⟩ := hv2
      have heo : e.Ok := hok e (List.mem_of_getElem? hk0)
      have fin : ∀ g, g = leastTo keys (i + 1) → ∀ m', m' "self" = some (.ref x) → (∃ v, m' "best" = some v ∧ IsI g v) → Φ .next m' ((I, oI) :: (dx, MD q ch tp o cur tc going tg) :: T) := fun g hg m' e1 e2 =>
        kn .next _ _ _ (.inl rfl) ⟨rfl, e1, hg ▸ e2⟩ (fun p hp => .tail _ hp) (.head _) hne
      rcases leastTo_spec keys i with hb | ⟨b0, b1, f, hf⟩
      · have hL : (i : Int) = leastTo keys (i + 1) := by rw [leastTo, hat]; simp only; rw [if_pos hb]
        refine sx_if1 (pc_or (c2 := true) (pc_ltI (px_nameP e2 rfl rfl rfl) px_int rfl) (fun h => absurd hb (of_decide_eq_false h))) (fun _ => ?_) (fun h => by rw [decide_eq_true hb] at h; cases h)
        refine sx_name (px_name rfl rfl rfl rfl) (fun v' hv' => ?_) rfl rfl rfl
        exact lx_nil (lx_nil (fin _ hL _ e1 ⟨v', rfl, t, hv'⟩))
      · obtain ⟨tf, hft⟩ := keyAt_top ht hf
        have hfo : f.Ok := hok f (keyAt_mem hf)
        have hb : ¬ leastTo keys i < 0 := by omega
        refine sx_if1 (pc_or2 (pc_ltI (px_nameP e2 rfl rfl rfl) px_int rfl) (fun _ => pc_ltI (i := cmpI e f) (pm1 ok (px_attr ok e1 (.tail _ (.tail _ m1)) (.tail _ (.head _)) rfl rfl (by fail "r") (by fail "r") (by fail "r") (by fail "r") rfl rfl rfl rfl) (px_meth ok (.tail _ (.tail _ o1)) (.tail _ (.tail _ o2)) rfl (by fail "r") (by fail "r") (by fail "r")) (px_args2 (px_name rfl rfl rfl rfl) (px_item (k := leastTo keys i) (px_attr ok e1 (.tail _ (.tail _ m1)) (.tail _ (.head _)) rfl rfl (by fail "r") (by fail "r") (by fail "r") (by fail "r") rfl rfl rfl rfl) (px_nameP e2 rfl rfl rfl) (.tail _ (.tail _ mt)) b0 (by omega) hft (fun _ => (by fail "r"))) rfl rfl) (fun vs hvs => ?_) (by fail "r") rfl rfl rfl) px_int rfl)) (fun h => ?_) fun h => ?_
        · obtain ⟨_, _, rfl, rfl, rfl⟩ := hvs
          exact px_call ok (icmp_c heo hfo (ord.mono fun p hp => .tail _ (.tail _ hp))) (fun r fp' h => h) (fun _ h => nomatch h) rfl (by omega)
        · have hc : cmpI e f < 0 := by simpa [hb] using h
          have hL : (i : Int) = leastTo keys (i + 1) := by rw [leastTo, hat]; simp only; rw [if_neg hb, hf]; simp only; rw [if_pos hc]
          refine sx_name (px_name rfl rfl rfl rfl) (fun v' hv' => ?_) rfl rfl rfl
          exact lx_nil (lx_nil (fin _ hL _ e1 ⟨v', rfl, t, hv'⟩))
        · have hc : ¬ cmpI e f < 0 := by simpa [hb] using h
          have hL : leastTo keys i = leastTo keys (i + 1) := by rw [leastTo, hat]; simp only; rw [if_neg hb, hf]; simp only; rw [if_neg hc]
          exact lx_nil (fin _ hL _ e1 e2)
  · intro m' led' h
    obtain ⟨rfl, e1, e2⟩ := h
    exact lx_seq (lx_cur ok m1 off e1 (px_nameP e2 rfl rfl rfl) (fun t => lx_nil (kφ .next _ [_] (.mk t))) rfl rfl rfl)
end
open PySem PySem.W PyProof.Rows
section
variable {w : World} {dp un D : Nat} {gd : Option (List Code)} {cn : Str} {cs : Scope} {a f : Addr} {ccd : Value} {cl : List (Str × Addr)} {outer : List Env} {A₀ : Around} {base h₀ : Heap} {L : Addr} {m mg mb : Str → Option Value} {mean : ExcName → Option Value} {s : Shared} {news ext rest : Led}
  {Q E : Value → Shared → Prop} {args : List Value} {C : CurP} {ks : List KS} {i : Nat} {k : KS} {st' : Option Nat}
theorem kid_call2 (K : KidsIn C rest ks) (hk : ks[i]? = some k)
    (H : ∀ {E0 : Led}, (∀ p ∈ rest, p ∈ E0) → (∀ p ∈ ext, p ∈ E0) → Off k.fp E0 → Calls w D f args k.fp E0 fun r fp' => r = .none ∧ sameAdr fp' k.fp ∧ C fp' rest k.c k.kd k.R st')
    (B : Below A₀ base outer h₀) (F : Fr h₀ L s.heap m) (X : (Mine.hd.heap_39 w.params).In h₀) (N : News h₀ L s.heap news) (T : Top VW (looseW VW []) mean mg mb h₀) (hkd : cs.kind = .function) (hd : dp + D < recursionLimit) (hu : un + 8 * D < cLine)
    (hs : ∀ p ∈ ext ++ (kfps ks ++ rest), p ∈ news) (hext : Off k.fp ext)
    (kk : ∀ fp' h' tk', Fr h₀ L h' m → News h₀ L h' (ext ++ (kfps (ks.set i { k with fp := fp', st := st' }) ++ rest)) → sameAdr fp' k.fp → KidsIn C rest (ks.set i { k with fp := fp', st := st' }) → Q .none { s with heap := h', toks := tk' }) :
    wpAny (model Challenge.rw_no0415_01.row.prog w) (ktrTop dp un gd cn cs L a ccd cl outer) (call (.ref f) args) Q E s := by
  have hmem := List.mem_of_getElem? hk
  refine (H (E0 := ext ++ (kfps (ks.eraseIdx i) ++ rest)) (fun p hp => List.mem_append_right _ (List.mem_append_right _ hp)) (fun p hp => List.mem_append_left _ hp) ?_).use B F X N T hkd hd hu ?_ ?_
  · intro p hp q hq
    rcases List.mem_append.mp hq with h | h
    · exact hext p hp q h
    · rcases List.mem_append.mp h with h | h
      · exact off_erase K.apart hk p hp q h
      · exact K.off k hmem p hp q h
  · intro p hp
    rcases List.mem_append.mp hp with h | h
    · exact hs p (List.mem_append_right _ (List.mem_append_left _ (mem_kfps hmem p h)))
    · rcases List.mem_append.mp h with h | h
      · exact hs p (List.mem_append_left _ h)
      · rcases List.mem_append.mp h with h | h
        · exact hs p (List.mem_append_right _ (List.mem_append_left _ (mem_erase_of h)))
        · exact hs p (List.mem_append_right _ (List.mem_append_right _ h))
  · intro r fp' h' tk' F' N' hx1
    obtain ⟨rfl, ha, hC⟩ := hx1
    refine kk fp' h' tk' F' (news_of N' fun p hp => ?_) ha (K.set hk ha hC)
    rcases List.mem_append.mp hp with h | h
    · exact List.mem_append_right _ (List.mem_append_left _ h)
    · rcases List.mem_append.mp h with h | h
      · rcases mem_kfps_set h with h | h
        · exact List.mem_append_left _ h
        · exact List.mem_append_right _ (List.mem_append_right _ (List.mem_append_left _ h))
      · exact List.mem_append_right _ (List.mem_append_right _ (List.mem_append_right _ h))
end
def backOf (R : List Row) (st : Option Nat) : Option Nat := match st with | some j => prevAt j | none => lastAt R
section
variable {w : World} {dp un : Nat} {gd : Option (List Code)} {cn : Str} {cs : Scope} {a : Addr} {ccd : Value} {cl : List (Str × Addr)} {outer : List Env} {A₀ : Around} {base h₀ : Heap} {L : Addr} {m mg mb : Str → Option Value} {mean : ExcName → Option Value} {s : Shared} {rest : Led}
  {Q E : Value → Shared → Prop} {D : Nat} {C : CurP} {x dx ch tp o : Addr} {q : MP} {cur going : Int} {tc tg : Tok} {tops : Array Value} {nt : Nat} {ks : List KS} {kc : KS}
end
open PySem PySem.W PyProof.Rows
set_option linter.unusedVariables false
set_option maxRecDepth 100000
set_option maxHeartbeats 8000000
section
variable {w : World} {D D' : Nat} {F : FnC} {b : Bx} {m : Str → Option Value} {led : Led} {pos : Pos} {φ : Flow → (Str → Option Value) → Led → Prop} {x : Str}
theorem sx_forDown {px : Pos} {body rest : List Stmt} {g e e2 e3 : Expr} {cp : Pos} {n : Nat} (ok : Okx w D b) (hr : Px w F b (eval g (evx F b)) (fun a => a = .type "range") m led) (he : Px w F b (eval e (evx F b)) (IsI ((n : Int) - 1)) m led) (he2 : Px w F b (eval e2 (evx F b)) (IsI (-1)) m led) (he3 : Px w F b (eval e3 (evx F b)) (IsI (-1)) m led) (hn : n ≤ 1000000)
    (J : Nat → (Str → Option Value) → Led → Prop) (hj : J n m led)
    (turn : ∀ i m₁ led₁ I o t, i < n → J (i + 1) m₁ led₁ → (∀ p ∈ led₁, p.1 ≠ I) → ∀ Φ : Flow → (Str → Option Value) → Led → Prop,
      (∀ fl m' led' led2, fl = .next ∨ fl = .cont → J i m' led' → (∀ p ∈ led', p ∈ led2) → (I, o) ∈ led2 → (∀ p ∈ led', p.1 ≠ I) → Φ fl m' led2) → (∀ v m' led', φ (.ret v) m' led' → Φ (.ret v) m' led') →
      Lx w F b (execs body (evx F b)) Φ (ms m₁ x (.int (i : Int) t)) ((I, o) :: led₁))
    (hX : ∀ m' led', J 0 m' led' → Lx w F b (execs rest (evx F b)) φ m' led') (hk : F.cs.kind = .function) (hx : (evx F b).kindOf x = some .local)
    (ha : starEach [e, e2, e3] (evx F b) = (false, eval e (evx F b)) :: starEach [e2, e3] (evx F b)) (ha2 : starEach [e2, e3] (evx F b) = (false, eval e2 (evx F b)) :: starEach [e3] (evx F b)) (ha3 : starEach [e3] (evx F b) = (false, eval e3 (evx F b)) :: starEach [] (evx F b))
    (hc : eval (.Call g [e, e2, e3] [] cp) (evx F b) = (do callWith cp (← eval g (evx F b)) [] (backTo cp (starEach [e, e2, e3] (evx F b))) (backToKw cp (keywordEach [] (evx F b)))))
    (hpl : (backTo cp (starEach [e2, e3] (evx F b))).any (·.1) = false)
    (hf : ∀ x, foldedSetIterable (.Call g [e, e2, e3] [] cp) (evx F b) x = pure x) :
    Lx w F b (execs (.For (.Name x px) (.Call g [e, e2, e3] [] cp) body [] pos :: rest) (evx F b)) φ m led := lx_seq fun s Q E f N q => by
  refine wpAny_mono (E := fun _ _ => False) (For_invV b.g (Q := Q) hx (by show (F.cs.kind == .class || (F.cs.kind == .module && b.L != mainGlobals)) = false; rw [hk]; rfl) ?_ hf ?_) (fun _ _ x => x) fun _ _ x => x.elim
  · have hh : (tpx F b).handled = none := rfl
    refine Call_ (hr s _ _ f N fun a h' tk' pa F' N' => ?_) hc
    subst pa
    refine Pv.callWith_type1 (px_args3 he he2 he3 ha ha2 ha3 _ _ _ F' N' fun vs h2' tk2' pa2 F2' N2' => ?_) ha hpl
    obtain ⟨_, _, _, rfl, ⟨t0, rfl⟩, ⟨t1, rfl⟩, ⟨t2, rfl⟩⟩ := pa2
    refine range3_rows F2' N2' (by decide) (fun h3' tk3 t₁ u₁ v₁ R F3' N3' _ => ?_) (.inl (PyProof.noPylong_small (by decide)))
    refine iter_down (n := n) J hh R hn F3' N3' hj (fun i t m₁ news₁ h tk I o hi hJ hne F₁ N₁ => ?_) fun m₁ news₁ h tk hJ F₁ N₁ => q _ _ _ _ _ (hX _ _ hJ) F₁ N₁
    refine turn i m₁ news₁ I o t hi hJ hne (fun fl m' led' => ∀ (h' : Heap) (tk' : Nat), Fr b.g b.L h' m' → News b.g b.L h' led' → TurnJ b.g b.L (J i) I o { s with heap := h, toks := tk } Q fl { s with heap := h', toks := tk' }) ?_ ?_ _ _ _ F₁ N₁ fun fl m' led' h' tk' hp F' N' => hp h' tk' F' N'
    · intro fl m' led' led2 hfl hJ' hsub hI hne' h' tk' F' N'
      rcases hfl with rfl | rfl <;> exact ⟨h', tk', m', led', led2, rfl, F', N', hI, hsub, hne', hJ'⟩
    · intro v m' led' hp h' tk' F' N'
      exact q _ _ _ h' tk' hp F' N'
  · passes_own
end
section
variable {w : World} {D : Nat} {T : Led} {x dx ch tp o : Addr} {q : MP} {cur going : Int} {tc tg : Tok} {tops : Array Value} {nt : Nat}
theorem great_c {keys : List (Option IK)} (m1 : (x, instObj 506 dx) ∈ T) (mt : (tp, listOf tops nt) ∈ T) (ord : OrdIn T o) (ht : TopsAre tops keys) (hok : ∀ e, some e ∈ keys → e.Ok) (hn : keys.length ≤ 1000) (off : ∀ p ∈ T, p.1 ≠ dx) :
    Calls w (D + 5 + 1) 419 [.ref x] [(dx, MD q ch tp o cur tc going tg)] T (MdP q ch tp o dx (greatOf keys keys.length) going tg) := by
  obtain ⟨duo, uo, dd, hh, tt, nn, o1, o2, o3, o4⟩ := id ord
  have hsz := ht.1
  refine' calls_ofG (binds := [("self", .ref x)]) ?ho ?hcd ?hb ?hl ?c1 ?c2 ?c3 ?c4 ?_
  fail "e"
  intro bb ok φ kφ
  refine sx_name (px_neg px_int) (fun v hv => ?_) rfl rfl rfl
  refine sx_forDown (n := keys.length) ok (px_builtin ok (by fail "r") (by fail "r") (by decide) rfl rfl rfl) (px_I (px_sub (px_len ok (px_attr ok rfl (.tail _ m1) (.head _) rfl rfl (by fail "r") (by fail "r") (by fail "r") (by fail "r") rfl rfl rfl rfl) (px_builtin ok (by fail "r") (by fail "r") (by decide) rfl rfl rfl) (.tail _ mt) (by omega) rfl rfl) px_int) (by rw [hsz])) (px_neg px_int) (px_neg px_int) (by omega) (LeJ x ((dx, MD q ch tp o cur tc going tg) :: T) keys (fun j => greatOf keys (keys.length - j))) ⟨rfl, rfl, v, rfl, by simp only [Nat.sub_self]; exact hv⟩ ?_ ?_ rfl rfl rfl rfl rfl rfl rfl (fun _ => rfl)
  · intro i m₁ led₁ I oI t hi hJ hne Φ kn kr
    obtain ⟨rfl, e1, e2⟩ := hJ
    obtain ⟨k0, hk0⟩ : ∃ k0, keys[i]? = some k0 := ⟨_, List.getElem?_eq_getElem hi⟩
    obtain ⟨v, hv, hv2⟩ := ht.2 _ _ hk0
    have hci : keys.length - i = keys.length - (i + 1) + 1 := by omega
    have hcx : keys.length - (keys.length - (i + 1) + 1) = i := by omega
    have hg : greatOf keys (keys.length - i) = match keyAt keys (i : Int) with
      | none => greatOf keys (keys.length - (i + 1))
      | some e => if greatOf keys (keys.length - (i + 1)) < 0 then (i : Int) else match keyAt keys (greatOf keys (keys.length - (i + 1))) with
        | none => greatOf keys (keys.length - (i + 1))
        | some f => if 0 < cmpI e f then (i : Int) else greatOf keys (keys.length - (i + 1)) := by rw [hci, greatOf, hcx] <;> rfl
    have hat : keyAt keys (i : Int) = k0 := by rw [keyAt_nat, hk0]; rfl
    refine sx_name (px_item (v := v) (k := (i : Int)) (px_attr ok e1 (.tail _ (.tail _ m1)) (.tail _ (.head _)) rfl rfl (by fail "r") (by fail "r") (by fail "r") (by fail "r") rfl rfl rfl rfl) (Px.mono (px_name rfl rfl rfl rfl) isI) (.tail _ (.tail _ mt)) (by omega) (by omega) hv (fun _ => (by fail "r"))) (fun v' hv' => ?_) rfl rfl rfl
    subst hv'
    have fin : ∀ g, g = greatOf keys (keys.length - i) → ∀ fl m', fl = .next ∨ fl = .cont → m' "self" = some (.ref x) → (∃ v, m' "best" = some v ∧ IsI g v) → Φ fl m' ((I, oI) :: (dx, MD q ch tp o cur tc going tg) :: T) := fun g hg fl m' hfl e1 e2 =>
      kn fl _ _ _ hfl ⟨rfl, e1, hg ▸ e2⟩ (fun p hp => .tail _ hp) (.head _) hne
    clear kn hne hci hcx
    rw [hat] at hg
    refine sx_if1 (pc_is (Px.mono (px_name rfl rfl rfl rfl) fun a ha => by rw [ha]; exact hv2.isO) px_none rfl) (fun hc => ?_) fun hc => ?_
    · have hk : k0 = none := by cases k0 with | none => rfl | some e => cases hc
      rw [hk] at hg
      exact lx_seq (lx_continue (fin _ hg.symm .cont _ (.inr rfl) e1 e2))
    · obtain ⟨e, rfl⟩ : ∃ e, k0 = some e := by cases k0 with | none => cases hc | some e => exact ⟨e, rfl⟩
      simp only at hg
      obtain ⟨te, rfl⟩ := hv2
      have heo : e.Ok := hok e (List.mem_of_getElem? hk0)
      rcases greatOf_spec keys (keys.length - (i + 1)) with hb | ⟨b0, b1, f, hf⟩
      · rw [if_pos hb] at hg
        refine sx_if1 (pc_or (c2 := true) (pc_ltI (px_nameP e2 rfl rfl rfl) px_int rfl) (fun h => absurd hb (of_decide_eq_false h))) (fun _ => ?_) (fun h => by rw [decide_eq_true hb] at h; cases h)
        refine sx_name (px_name rfl rfl rfl rfl) (fun v' hv' => ?_) rfl rfl rfl
        exact lx_nil (lx_nil (fin _ hg.symm .next _ (.inl rfl) e1 ⟨v', rfl, t, hv'⟩))
      · obtain ⟨tf, hft⟩ := keyAt_top ht hf
        have hfo : f.Ok := hok f (keyAt_mem hf)
        have hb : ¬ greatOf keys (keys.length - (i + 1)) < 0 := by omega
        rw [if_neg hb, hf] at hg
        simp only at hg
        refine sx_if1 (pc_or2 (pc_ltI (px_nameP e2 rfl rfl rfl) px_int rfl) (fun _ => pc_gtI (i := cmpI e f) (pm1 ok (px_attr ok e1 (.tail _ (.tail _ m1)) (.tail _ (.head _)) rfl rfl (by fail "r") (by fail "r") (by fail "r") (by fail "r") rfl rfl rfl rfl) (px_meth ok (.tail _ (.tail _ o1)) (.tail _ (.tail _ o2)) rfl (by fail "r") (by fail "r") (by fail "r")) (px_args2 (px_name rfl rfl rfl rfl) (px_item (k := greatOf keys (keys.length - (i + 1))) (px_attr ok e1 (.tail _ (.tail _ m1)) (.tail _ (.head _)) rfl rfl (by fail "r") (by fail "r") (by fail "r") (by fail "r") rfl rfl rfl rfl) (px_nameP e2 rfl rfl rfl) (.tail _ (.tail _ mt)) b0 (by omega) hft (fun _ => (by fail "r"))) rfl rfl) (fun vs hvs => ?_) (by fail "r") rfl rfl rfl) px_int rfl)) (fun h => ?_) fun h => ?_
        · obtain ⟨_, _, rfl, rfl, rfl⟩ := hvs
          exact px_call ok (icmp_c heo hfo (ord.mono fun p hp => .tail _ (.tail _ hp))) (fun r fp' h => h) (fun _ h => nomatch h) rfl (by omega)
        · have hc : 0 < cmpI e f := by simpa [hb] using h
          rw [if_pos hc] at hg
          refine sx_name (px_name rfl rfl rfl rfl) (fun v' hv' => ?_) rfl rfl rfl
          exact lx_nil (lx_nil (fin _ hg.symm .next _ (.inl rfl) e1 ⟨v', rfl, t, hv'⟩))
        · have hc : ¬ 0 < cmpI e f := by simpa [hb] using h
          rw [if_neg hc] at hg
          exact lx_nil (fin _ hg.symm .next _ (.inl rfl) e1 e2)
  · intro m' led' h
    obtain ⟨rfl, e1, e2⟩ := h
    rw [Nat.sub_zero] at e2
    exact lx_seq (lx_cur ok m1 off e1 (px_nameP e2 rfl rfl rfl) (fun t => lx_nil (kφ .next _ [_] (.mk t))) rfl rfl rfl)
inductive LkP (tp : Addr) (tops : Array Value) (nt i : Nat) (k : Option IK) : Value → Led → Prop
  | mk (v : Value) (hv : TopV k v) : LkP tp tops nt i k .none [(tp, listOf (tops.setIfInBounds i v) nt)]
theorem look_c {C : CurP} {rest : Led} {kc : KS} {i : Nat} {ti : Tok} {cv : Array Value} {nc : Nat} (S : CurSpec w D C) (hC : C kc.fp rest kc.c kc.kd kc.R kc.st) (hT : ∀ p ∈ kc.fp ++ rest, p ∈ T) (m1 : (x, instObj 506 dx) ∈ T) (m0 : (dx, MD q ch tp o cur tc going tg) ∈ T) (m2 : (ch, listOf cv nc) ∈ T) (hcv : cv[i]? = some (.ref kc.c)) (hi : i < tops.size) (hn : tops.size ≤ 1000) (off : ∀ p ∈ T, p.1 ≠ tp) :
    Calls w (D + 1) 405 [.ref x, .int (i : Int) ti] [(tp, listOf tops nt)] T (LkP tp tops nt i kc.key) := by
  refine' calls_ofG (binds := [("self", .ref x), ("i", .int (i : Int) ti)]) ?ho ?hcd ?hb ?hl ?c1 ?c2 ?c3 ?c4 ?_
  fail "e"
  intro bb ok φ kφ
  refine sx_name (px_item (v := .ref kc.c) (k := (i : Int)) (px_attr ok rfl (.tail _ m1) (.tail _ m0) rfl rfl (by fail "r") (by fail "r") (by fail "r") (by fail "r") rfl rfl rfl rfl) (Px.mono (px_name rfl rfl rfl rfl) isI) (.tail _ m2) (by omega) (by omega) hcv (fun _ => (by fail "r"))) (fun v hv => ?_) rfl rfl rfl
  subst hv
  refine sx_if (pc_val (pm0 ok (px_name rfl rfl rfl rfl) (px_cur ok S hC (fun p hp => .tail _ (hT p hp)) .valid) (px_call ok (S.valid hC fun p hp => .tail _ (hT p (List.mem_append_right _ hp))) (fun r fp' h => h.1) (fun p hp => .tail _ (hT p (List.mem_append_left _ hp))) rfl (Nat.le_refl _)) (keep_cur _ _ _) rfl) rfl) (fun hc => ?_) fun hc => ?_
  · obtain ⟨j, hj⟩ := Option.isSome_iff_exists.mp hc
    rw [hj] at hC
    obtain ⟨y, hy⟩ : ∃ y, kc.R[j]? = some y := ⟨_, List.getElem?_eq_getElem ((S.size hC).2 j rfl)⟩
    have hk : kc.key = some y.1 := by unfold KS.key; rw [hj, Option.bind_some, hy]; rfl
    refine lx_seq (lx_setitem (k := (i : Int)) (P := IsB (ikb y.1)) (led' := fun v => (tp, listOf (tops.setIfInBounds i v) nt) :: T) (pm0 ok (px_name rfl rfl rfl rfl) (px_cur ok S hC (fun p hp => .tail _ (hT p hp)) .key) (px_call ok (S.key hC hy fun p hp => .tail _ (hT p (List.mem_append_right _ hp))) (fun r fp' h => h.1) (fun p hp => .tail _ (hT p (List.mem_append_left _ hp))) rfl (Nat.le_refl _)) (keep_cur _ _ _) rfl) (px_attr ok rfl (.tail _ m1) (.tail _ m0) rfl rfl (by fail "r") (by fail "r") (by fail "r") (by fail "r") rfl rfl rfl rfl) (Px.mono (px_name rfl rfl rfl rfl) isI) (fun v => .head off) (by omega) (by omega) (by omega) (fun v hv => ?_) rfl)
    exact lx_nil (lx_nil (kφ .next _ [_] (.mk v (hk ▸ hv))))
  · have hj : kc.st = none := by
      cases h : kc.st with
      | none => rfl
      | some j => rw [h] at hc; cases hc
    have hk : kc.key = none := by unfold KS.key; rw [hj]; rfl
    refine lx_seq (lx_setitem (k := (i : Int)) (P := fun v => v = .none) (led' := fun v => (tp, listOf (tops.setIfInBounds i v) nt) :: T) px_none (px_attr ok rfl (.tail _ m1) (.tail _ m0) rfl rfl (by fail "r") (by fail "r") (by fail "r") (by fail "r") rfl rfl rfl rfl) (Px.mono (px_name rfl rfl rfl rfl) isI) (fun v => .head off) (by omega) (by omega) (by omega) (fun v hv => ?_) rfl)
    exact lx_nil (lx_nil (kφ .next _ [_] (.mk v (hk ▸ hv))))
theorem mvalid_c (m1 : (x, instObj 506 dx) ∈ T) : Calls w (D + 1) 426 [.ref x] [(dx, MD q ch tp o cur tc going tg)] T (fun r fp' => r = .bool (decide (0 ≤ cur)) ∧ fp' = [(dx, MD q ch tp o cur tc going tg)]) := by
  refine' calls_ofG (binds := [("self", .ref x)]) ?ho ?hcd ?hb ?hl ?c1 ?c2 ?c3 ?c4 ?_
  fail "e"
  intro bb ok φ kφ
  exact sx_ret (pv_cmp (Px.mono (px_attr ok rfl (.tail _ m1) (.head _) rfl rfl (by fail "r") (by fail "r") (by fail "r") (by fail "r") rfl rfl rfl rfl) isI) px_int op_geI rfl) fun v hv => kφ (.ret v) _ [_] ⟨hv, rfl⟩
theorem mneed_c (m1 : (x, instObj 506 dx) ∈ T) (h0 : 0 ≤ cur) : Calls w (D + 1) 433 [.ref x] [(dx, MD q ch tp o cur tc going tg)] T (fun r fp' => fp' = [(dx, MD q ch tp o cur tc going tg)]) := by
  refine' calls_ofG (binds := [("self", .ref x)]) ?ho ?hcd ?hb ?hl ?c1 ?c2 ?c3 ?c4 ?_
  fail "e"
  intro bb ok φ kφ
  exact sx_if1 (pc_ltI (Px.mono (px_attr ok rfl (.tail _ m1) (.head _) rfl rfl (by fail "r") (by fail "r") (by fail "r") (by fail "r") rfl rfl rfl rfl) isI) px_int rfl) (fun h => by have := of_decide_eq_true h; omega) fun _ => lx_nil (kφ .next _ [_] rfl)
theorem sx_mneed {F : FnC} {b : Bx} {m : Str → Option Value} {φ : Flow → (Str → Option Value) → Led → Prop} {pl : Sem Bool} {xp ap pos : Pos} {stmts : List Stmt} (ok : Okx w D b) (m1 : (x, instObj 506 dx) ∈ T) (h0 : 0 ≤ cur) (e1 : m "self" = some (.ref x)) (hq : Lx w F b (execs stmts (evx F b)) φ m ((dx, MD q ch tp o cur tc going tg) :: T)) (hk : F.cs.kind = .function) (hx : (evx F b).kindOf "self" = some .local) (hD : 1 ≤ D) (hia : interactive (evx F b) = false)
    (hs : swapsWith (.Call (.Attribute (.Name "self" xp) "need" ap) [] [] pos) none pos.line (evx F b) = pure false) (he : eval (.Call (.Attribute (.Name "self" xp) "need" ap) [] [] pos) (evx F b) = (do
      let ov ← eval (.Name "self" xp) (evx F b)
      standAt ap.atName
      let (f, first) ← holding [ov] (getMethod ov "need" pl)
      callWith pos f first (backTo pos (starEach [] (evx F b))) [])) : Lx w F b (execs (.Expr (.Call (.Attribute (.Name "self" xp) "need" ap) [] [] pos) pos :: stmts) (evx F b)) φ m ((dx, MD q ch tp o cur tc going tg) :: T) := by
  refine sx_expr (lm0 ok (px_name e1 hk hx rfl) (px_meth ok (.tail _ m1) (.head _) rfl (by fail "r") (by fail "r") (by fail "r")) (lx_call ok hk hD (mneed_c (D := 0) m1 h0) (fun _ h => h) fun r fp' hp => ?_) (by fail "r") he) hia hs
  subst hp
  exact hq
theorem mkey_c {v : Value} (m1 : (x, instObj 506 dx) ∈ T) (mt : (tp, listOf tops nt) ∈ T) (h0 : 0 ≤ cur) (h1 : cur < 10000) (hv : tops[cur.toNat]? = some v) : Calls w (D + 1 + 1) 496 [.ref x] [(dx, MD q ch tp o cur tc going tg)] T (fun r fp' => r = v ∧ fp' = [(dx, MD q ch tp o cur tc going tg)]) := by
  refine' calls_ofG (binds := [("self", .ref x)]) ?ho ?hcd ?hb ?hl ?c1 ?c2 ?c3 ?c4 ?_
  fail "e"
  intro bb ok φ kφ
  refine sx_mneed ok m1 h0 rfl ?_ rfl rfl (by omega) rfl rfl rfl
  exact sx_ret (px_item (px_attr ok rfl (.tail _ m1) (.head _) rfl rfl (by fail "r") (by fail "r") (by fail "r") (by fail "r") rfl rfl rfl rfl) (Px.mono (px_attr ok rfl (.tail _ m1) (.head _) rfl rfl (by fail "r") (by fail "r") (by fail "r") (by fail "r") rfl rfl rfl rfl) isI) (.tail _ mt) h0 (by omega) hv (fun _ => (by fail "r"))) fun v hv => kφ (.ret v) _ [_] ⟨hv, rfl⟩
theorem mvalue_c {C : CurP} {rest : Led} {kc : KS} {i : Nat} {y : Row} {cv : Array Value} {nc : Nat} (S : CurSpec w D C) (hC : C kc.fp rest kc.c kc.kd kc.R (some i)) (hT : ∀ p ∈ kc.fp ++ rest, p ∈ T) (hy : kc.R[i]? = some y) (m1 : (x, instObj 506 dx) ∈ T) (m2 : (ch, listOf cv nc) ∈ T) (h0 : 0 ≤ cur) (h1 : cur < 10000) (hcv : cv[cur.toNat]? = some (.ref kc.c)) :
    Calls w (D + 1 + 1) 503 [.ref x] [(dx, MD q ch tp o cur tc going tg)] T (fun r fp' => IsB y.2 r ∧ fp' = [(dx, MD q ch tp o cur tc going tg)]) := by
  refine' calls_ofG (binds := [("self", .ref x)]) ?ho ?hcd ?hb ?hl ?c1 ?c2 ?c3 ?c4 ?_
  fail "e"
  intro bb ok φ kφ
  refine sx_mneed ok m1 h0 rfl ?_ rfl rfl (by omega) rfl rfl rfl
  exact sx_ret (pm0 ok (px_item (px_attr ok rfl (.tail _ m1) (.head _) rfl rfl (by fail "r") (by fail "r") (by fail "r") (by fail "r") rfl rfl rfl rfl) (Px.mono (px_attr ok rfl (.tail _ m1) (.head _) rfl rfl (by fail "r") (by fail "r") (by fail "r") (by fail "r") rfl rfl rfl rfl) isI) (.tail _ m2) h0 (by omega) hcv (fun _ => (by fail "r"))) (px_cur ok S hC (fun p hp => .tail _ (hT p hp)) .value) (px_call ok (S.value hC hy fun p hp => .tail _ (hT p (List.mem_append_right _ hp))) (fun r fp' h => h.1) (fun p hp => .tail _ (hT p (List.mem_append_left _ hp))) rfl (by omega)) (keep_cur _ _ _) rfl) fun v hv => kφ (.ret v) _ [_] ⟨hv, rfl⟩
end
open PySem PySem.W PyProof.Rows
set_option linter.unusedVariables false
set_option maxRecDepth 100000
set_option maxHeartbeats 8000000
structure MK where
  q : MP
  x : Addr
  dx : Addr
  ch : Addr
  tp : Addr
  o : Addr
  cv : Array Value
  nc : Nat
  nt : Nat
abbrev MK.obj (c : MK) (cur : Int) (tc : Tok) (going : Int) (tg : Tok) : Obj := MD c.q c.ch c.tp c.o cur tc going tg
def ML (c : MK) (cur : Int) (tc : Tok) (going : Int) (tg : Tok) (tops : Array Value) (ks : List KS) (E : Led) : Led := (c.dx, c.obj cur tc going tg) :: (c.tp, listOf tops c.nt) :: (kfps ks ++ E)
structure Me (c : MK) (r0 E : Led) : Prop where
  inst : (c.x, instObj 506 c.dx) ∈ E
  lst : (c.ch, listOf c.cv c.nc) ∈ E
  ord : OrdIn E c.o
  off3 : @Ne Nat c.dx c.tp
  offE : ∀ p ∈ E, p.1 ≠ c.dx ∧ p.1 ≠ c.tp
  sub : ∀ p ∈ r0, p ∈ E
structure Kd (C : CurP) (r0 : Led) (c : MK) (E : Led) (ks : List KS) : Prop where
  kids : KidsIn (FixC C r0) E ks
  hcl : c.cv.size = ks.length
  hcv : ∀ (i : Nat) k, ks[i]? = some k → c.cv[i]? = some (.ref k.c)
  offk : ∀ p ∈ kfps ks, p.1 ≠ c.dx ∧ p.1 ≠ c.tp
  hn : ks.length ≤ 1000
theorem Me.cons {c : MK} {r0 E : Led} {I : Addr} {oI : Obj} (M : Me c r0 E) (h1 : @Ne Nat c.dx I) (h2 : @Ne Nat c.tp I) : Me c r0 ((I, oI) :: E) :=
  ⟨.tail _ M.inst, .tail _ M.lst, M.ord.mono fun _ h => .tail _ h, M.off3, fun p hp => by
    rcases List.mem_cons.mp hp with rfl | h
    · exact ⟨fun e => h1 e.symm, fun e => h2 e.symm⟩
    · exact M.offE p h, fun p hp => .tail _ (M.sub p hp)⟩
theorem Kd.chg {C : CurP} {r0 E E' : Led} {c : MK} {ks : List KS} (K : Kd C r0 c E ks) (hs : ∀ p ∈ r0, p ∈ E') (ho : ∀ k ∈ ks, Off k.fp E') : Kd C r0 c E' ks :=
  ⟨⟨fun k hk => ⟨(K.kids.cur k hk).1, hs⟩, ho, K.kids.apart⟩, K.hcl, K.hcv, K.offk, K.hn⟩
theorem Kd.cons {C : CurP} {r0 E : Led} {c : MK} {ks : List KS} {I : Addr} {oI : Obj} (K : Kd C r0 c E ks) (M : Me c r0 E) (h : ∀ p ∈ kfps ks, p.1 ≠ I) : Kd C r0 c ((I, oI) :: E) ks :=
  K.chg (fun p hp => .tail _ (M.sub p hp)) fun k hk => off_cons (fun p hp e => h p (mem_kfps hk p hp) e.symm) (K.kids.off k hk)
theorem Kd.uncons {C : CurP} {r0 E : Led} {c : MK} {ks : List KS} {x : Addr × Obj} (K : Kd C r0 c (x :: E) ks) (M : Me c r0 E) : Kd C r0 c E ks :=
  K.chg M.sub fun k hk p hp q hq => K.kids.off k hk p hp q (.tail _ hq)
theorem Kd.set {C : CurP} {r0 E : Led} {c : MK} {ks : List KS} {i : Nat} {k : KS} {fp' : Led} {st' : Option Nat} (K : Kd C r0 c E ks) (hk : ks[i]? = some k) (ha : sameAdr fp' k.fp) (hK : KidsIn (FixC C r0) E (ks.set i { k with fp := fp', st := st' })) : Kd C r0 c E (ks.set i { k with fp := fp', st := st' }) := by
  refine ⟨hK, by rw [List.length_set]; exact K.hcl, fun j k2 h => ?_, fun p hp => ?_, by rw [List.length_set]; exact K.hn⟩
  · by_cases e : i = j
    · subst e
      rw [List.getElem?_set_self (List.getElem?_eq_some_iff.mp hk).1] at h
      cases h
      exact K.hcv i k hk
    · rw [List.getElem?_set_ne e] at h
      exact K.hcv j k2 h
  · obtain ⟨p', hp', e⟩ := adr_set (k' := { k with fp := fp', st := st' }) hk ha p hp
    rw [← e]; exact K.offk p' hp'
inductive MlJ (C : CurP) (r0 : Led) (c : MK) (E : Led) (f : Nat → KS → Option Nat) (ks : List KS) (tops0 : Array Value) (ex : (Str → Option Value) → Prop) (cur : Int) (tc : Tok) (going : Int) (tg : Tok) : Nat → (Str → Option Value) → Led → Prop
  | mk {i m} (ks₁ : List KS) (tops₁ : Array Value) (e1 : m "self" = some (.ref c.x)) (ex1 : ex m) (K : Kd C r0 c E ks₁) (P : PartMoved f ks ks₁ tops0 tops₁ i) : MlJ C r0 c E f ks tops0 ex cur tc going tg i m (ML c cur tc going tg tops₁ ks₁ E)
section
variable {w : World} {D D' : Nat} {C : CurP} {r0 E : Led} {c : MK} {ks : List KS} {i : Nat} {k : KS} {st' : Option Nat} {cur going : Int} {tc tg : Tok} {tops : Array Value} {F : FnC} {b : Bx} {m : Str → Option Value} {φ : Flow → (Str → Option Value) → Led → Prop} {pl : Sem Bool} {xp ap pos np : Pos} {stmts : List Stmt} {y : Str}
theorem ML.in_E {p : Addr × Obj} (h : p ∈ E) : p ∈ ML c cur tc going tg tops ks E := .tail _ (.tail _ (List.mem_append_right _ h))
theorem ML.in_k {p : Addr × Obj} (h : p ∈ kfps ks) : p ∈ ML c cur tc going tg tops ks E := .tail _ (.tail _ (List.mem_append_left _ h))
theorem ML.in_t : (c.tp, listOf tops c.nt) ∈ ML c cur tc going tg tops ks E := .tail _ (.head _)
theorem ML.in_o : (c.dx, c.obj cur tc going tg) ∈ ML c cur tc going tg tops ks E := .head _
theorem Kd.offd (K : Kd C r0 c E ks) (M : Me c r0 E) : ∀ p ∈ (c.tp, listOf tops c.nt) :: (kfps ks ++ E), p.1 ≠ c.dx := fun p hp => by
  rcases List.mem_cons.mp hp with rfl | h
  · exact fun e => M.off3 e.symm
  · rcases List.mem_append.mp h with h | h
    · exact (K.offk p h).1
    · exact (M.offE p h).1
theorem Kd.offt (K : Kd C r0 c E ks) (M : Me c r0 E) : ∀ p ∈ (c.dx, c.obj cur tc going tg) :: (kfps ks ++ E), p.1 ≠ c.tp := fun p hp => by
  rcases List.mem_cons.mp hp with rfl | h
  · exact M.off3
  · rcases List.mem_append.mp h with h | h
    · exact (K.offk p h).2
    · exact (M.offE p h).2
theorem lx_kid {f : Addr} {args : List Value} {ψ : Value → (Str → Option Value) → Led → Prop} (ok : Okx w D b) (K : Kd C r0 c E ks) (hk : ks[i]? = some k)
    (H : ∀ {E0 : Led}, (∀ p ∈ E, p ∈ E0) → (∀ p ∈ [(c.dx, c.obj cur tc going tg), (c.tp, listOf tops c.nt)], p ∈ E0) → Off k.fp E0 → Calls w D' f args k.fp E0 fun r fp' => r = .none ∧ sameAdr fp' k.fp ∧ FixC C r0 fp' E k.c k.kd k.R st')
    (hq : ∀ fp', sameAdr fp' k.fp → Kd C r0 c E (ks.set i { k with fp := fp', st := st' }) → ψ .none m (ML c cur tc going tg tops (ks.set i { k with fp := fp', st := st' }) E)) (hf : F.cs.kind = .function) (hD : D' ≤ D) :
    Lx w F b (call (.ref f) args) ψ m (ML c cur tc going tg tops ks E) := fun s Q E' f' N q =>
  kid_call2 (ext := [(c.dx, c.obj cur tc going tg), (c.tp, listOf tops c.nt)]) K.kids hk H ok.B f' ok.X N ok.T hf (by have := ok.hd; omega) (by have := ok.hu; omega) (fun p hp => hp) (fun p hp p' hp' => by
    have z := K.offk p (mem_kfps (List.mem_of_getElem? hk) p hp)
    simp only [List.mem_cons, List.not_mem_nil, or_false] at hp'
    rcases hp' with rfl | rfl
    · exact fun e => z.1 e.symm
    · exact fun e => z.2 e.symm) fun fp' h' tk' F' N' ha K' => q _ _ _ h' tk' (hq fp' ha (K.set hk ha K')) F' N'
theorem px_kid (ok : Okx w D b) (M : Me c r0 E) (K : Kd C r0 c E ks) (hk : ks[i]? = some k) (e1 : m "self" = some (.ref c.x)) (ey : ∃ v, m y = some v ∧ IsI (i : Int) v) (hf : F.cs.kind = .function) (hx : (evx F b).kindOf "self" = some .local) (hy : (evx F b).kindOf y = some .local) (hyd : (y == ("__debug__" : Str)) = false)
    (hs : ∀ u, subscripted (.Name y np) false (.ref c.ch) (.int (i : Int) u) = operate [.ref c.ch, .int (i : Int) u] (getItem (.ref c.ch) (.int (i : Int) u))) :
    Px w F b (eval (.Subscript (.Attribute (.Name "self" xp) "children" ap) (.Name y np) pos) (evx F b)) (fun a => a = .ref k.c) m (ML c cur tc going tg tops ks E) :=
  px_item (px_attr ok e1 (ML.in_E M.inst) ML.in_o rfl rfl (by fail "r") (by fail "r") (by fail "r") (by fail "r") hf hx rfl rfl) (px_nameP ey hf hy hyd) (ML.in_E M.lst) (by omega) (by have := (List.getElem?_eq_some_iff.mp hk).1; have := K.hn; omega) (K.hcv i k hk) hs
theorem sx_look (ok : Okx w D b) (S : CurSpec w D' C) (M : Me c r0 E) (K : Kd C r0 c E ks) (hts : tops.size = ks.length) (hk : ks[i]? = some k) (e1 : m "self" = some (.ref c.x)) (ey : ∃ v, m y = some v ∧ IsI (i : Int) v)
    (hq : ∀ v, TopV k.key v → Lx w F b (execs stmts (evx F b)) φ m (ML c cur tc going tg (tops.setIfInBounds i v) ks E)) (hf : F.cs.kind = .function) (hx : (evx F b).kindOf "self" = some .local) (hy : (evx F b).kindOf y = some .local) (hyd : (y == ("__debug__" : Str)) = false) (hD : D' + 1 ≤ D) (hia : interactive (evx F b) = false)
    (hs : swapsWith (.Call (.Attribute (.Name "self" xp) "look" ap) [.Name y np] [] pos) none pos.line (evx F b) = pure false)
    (ha : starEach [.Name y np] (evx F b) = (false, eval (.Name y np) (evx F b)) :: starEach [] (evx F b))
    (he : eval (.Call (.Attribute (.Name "self" xp) "look" ap) [.Name y np] [] pos) (evx F b) = (do
      let ov ← eval (.Name "self" xp) (evx F b)
      standAt ap.atName
      let (f, first) ← holding [ov] (getMethod ov "look" pl)
      callWith pos f first (backTo pos (starEach [.Name y np] (evx F b))) [])) :
    Lx w F b (execs (.Expr (.Call (.Attribute (.Name "self" xp) "look" ap) [.Name y np] [] pos) pos :: stmts) (evx F b)) φ m (ML c cur tc going tg tops ks E) := by
  have hi := (List.getElem?_eq_some_iff.mp hk).1
  have hn := K.hn
  have hmem := List.mem_of_getElem? hk
  refine sx_expr (lm1 ok (px_name e1 hf hx rfl) (px_meth ok (ML.in_E M.inst) ML.in_o rfl (by fail "r") (by fail "r") (by fail "r")) (px_args1 (px_nameP ey hf hy hyd) ha) (fun vs hvs => ?_) (by fail "r") ha rfl he) hia hs
  obtain ⟨_, rfl, ⟨t, rfl⟩⟩ := hvs
  refine lx_call ok hf hD (look_c (tops := tops) (nt := c.nt) (T := (c.dx, c.obj cur tc going tg) :: (kfps ks ++ E)) (i := i) (ti := t) S ((K.kids.cur k hmem).1) (fun p hp => .tail _ ?_) (.tail _ (List.mem_append_right _ M.inst)) (.head _) (.tail _ (List.mem_append_right _ M.lst)) (K.hcv i k hk) (by omega) (by omega) (K.offt M)) (fun p hp => ?_) fun r fp' hp => ?_
  · rcases List.mem_append.mp hp with h | h
    · exact List.mem_append_left _ (mem_kfps hmem p h)
    · exact List.mem_append_right _ (M.sub p h)
  · rcases List.mem_cons.mp hp with rfl | h
    · exact ML.in_t
    · rcases List.mem_cons.mp h with rfl | h
      · exact ML.in_o
      · exact .tail _ (.tail _ h)
  · obtain ⟨v, hv⟩ := hp
    refine Lx.sub (fun p hp => ?_) (hq v hv)
    rcases List.mem_cons.mp hp with rfl | h
    · exact .tail _ (.head _)
    · rcases List.mem_cons.mp h with rfl | h
      · exact .head _
      · exact .tail _ (.tail _ h)
theorem keys_ok (S : CurSpec w D C) (K : Kd C r0 c E ks) : ∀ e, some e ∈ ks.map KS.key → e.Ok := fun e he => by
  obtain ⟨kk, hkk, ek⟩ := List.mem_map.mp he
  unfold KS.key at ek
  obtain ⟨j, -, h2⟩ := Option.bind_eq_some_iff.mp ek
  obtain ⟨z, hz, rfl⟩ := Option.map_eq_some_iff.mp h2
  exact S.ok (K.kids.cur kk hkk).1 z (List.mem_of_getElem? hz)
theorem sx_least (ok : Okx w D b) (S : CurSpec w D' C) (M : Me c r0 E) (K : Kd C r0 c E ks) (ht : TopsAre tops (ks.map KS.key)) (e1 : m "self" = some (.ref c.x))
    (hq : ∀ t, Lx w F b (execs stmts (evx F b)) φ m (ML c (leastTo (ks.map KS.key) (ks.map KS.key).length) t going tg tops ks E)) (hf : F.cs.kind = .function) (hx : (evx F b).kindOf "self" = some .local) (hD : 6 ≤ D) (hia : interactive (evx F b) = false)
    (hs : swapsWith (.Call (.Attribute (.Name "self" xp) "find_least" ap) [] [] pos) none pos.line (evx F b) = pure false)
    (he : eval (.Call (.Attribute (.Name "self" xp) "find_least" ap) [] [] pos) (evx F b) = (do
      let ov ← eval (.Name "self" xp) (evx F b)
      standAt ap.atName
      let (f, first) ← holding [ov] (getMethod ov "find_least" pl)
      callWith pos f first (backTo pos (starEach [] (evx F b))) [])) :
    Lx w F b (execs (.Expr (.Call (.Attribute (.Name "self" xp) "find_least" ap) [] [] pos) pos :: stmts) (evx F b)) φ m (ML c cur tc going tg tops ks E) := by
  refine sx_expr (lm0 ok (px_name e1 hf hx rfl) (px_meth ok (ML.in_E M.inst) ML.in_o rfl (by fail "r") (by fail "r") (by fail "r")) (lx_call ok hf hD (least_c (D := 0) (T := (c.tp, listOf tops c.nt) :: (kfps ks ++ E)) (.tail _ (List.mem_append_right _ M.inst)) (.head _) (M.ord.mono fun p h => .tail _ (List.mem_append_right _ h)) ht (keys_ok S K) (by rw [List.length_map]; exact K.hn) (K.offd M)) (fun _ h => h) fun r fp' hp => ?_) (by fail "r") he) hia hs
  obtain ⟨t⟩ := hp
  exact hq t
theorem sx_great (ok : Okx w D b) (S : CurSpec w D' C) (M : Me c r0 E) (K : Kd C r0 c E ks) (ht : TopsAre tops (ks.map KS.key)) (e1 : m "self" = some (.ref c.x))
    (hq : ∀ t, Lx w F b (execs stmts (evx F b)) φ m (ML c (greatOf (ks.map KS.key) (ks.map KS.key).length) t going tg tops ks E)) (hf : F.cs.kind = .function) (hx : (evx F b).kindOf "self" = some .local) (hD : 6 ≤ D) (hia : interactive (evx F b) = false)
    (hs : swapsWith (.Call (.Attribute (.Name "self" xp) "find_greatest" ap) [] [] pos) none pos.line (evx F b) = pure false)
    (he : eval (.Call (.Attribute (.Name "self" xp) "find_greatest" ap) [] [] pos) (evx F b) = (do
      let ov ← eval (.Name "self" xp) (evx F b)
      standAt ap.atName
      let (f, first) ← holding [ov] (getMethod ov "find_greatest" pl)
      callWith pos f first (backTo pos (starEach [] (evx F b))) [])) :
    Lx w F b (execs (.Expr (.Call (.Attribute (.Name "self" xp) "find_greatest" ap) [] [] pos) pos :: stmts) (evx F b)) φ m (ML c cur tc going tg tops ks E) := by
  refine sx_expr (lm0 ok (px_name e1 hf hx rfl) (px_meth ok (ML.in_E M.inst) ML.in_o rfl (by fail "r") (by fail "r") (by fail "r")) (lx_call ok hf hD (great_c (D := 0) (T := (c.tp, listOf tops c.nt) :: (kfps ks ++ E)) (.tail _ (List.mem_append_right _ M.inst)) (.head _) (M.ord.mono fun p h => .tail _ (List.mem_append_right _ h)) ht (keys_ok S K) (by rw [List.length_map]; exact K.hn) (K.offd M)) (fun _ h => h) fun r fp' hp => ?_) (by fail "r") he) hia hs
  obtain ⟨t⟩ := hp
  exact hq t
theorem sx_cur {g : Int} {value : Expr} {pos' : Pos} (ok : Okx w D b) (M : Me c r0 E) (K : Kd C r0 c E ks) (e1 : m "self" = some (.ref c.x)) (h : Px w F b (eval value (evx F b)) (IsI g) m (ML c cur tc going tg tops ks E)) (hq : ∀ t : Tok, Lx w F b (execs stmts (evx F b)) φ m (ML c g t going tg tops ks E)) (hk : F.cs.kind = .function) (hx : (evx F b).kindOf "self" = some .local) (hs : swapsWith value (some (.Attribute (.Name "self" xp) "current" pos')) pos.line (evx F b) = pure false) :
    Lx w F b (execs (.Assign [.Attribute (.Name "self" xp) "current" pos'] value pos :: stmts) (evx F b)) φ m (ML c cur tc going tg tops ks E) :=
  lx_seq (lx_cur ok (.tail _ (List.mem_append_right _ M.inst)) (K.offd M) e1 h hq hk hx hs)
theorem sx_going {g : Int} {value : Expr} {pos' : Pos} (ok : Okx w D b) (M : Me c r0 E) (K : Kd C r0 c E ks) (e1 : m "self" = some (.ref c.x)) (h : Px w F b (eval value (evx F b)) (IsI g) m (ML c cur tc going tg tops ks E)) (hq : ∀ t : Tok, Lx w F b (execs stmts (evx F b)) φ m (ML c cur tc g t tops ks E)) (hk : F.cs.kind = .function) (hx : (evx F b).kindOf "self" = some .local) (hs : swapsWith value (some (.Attribute (.Name "self" xp) "going" pos')) pos.line (evx F b) = pure false) :
    Lx w F b (execs (.Assign [.Attribute (.Name "self" xp) "going" pos'] value pos :: stmts) (evx F b)) φ m (ML c cur tc going tg tops ks E) :=
  lx_seq (lx_mgoing ok (.tail _ (List.mem_append_right _ M.inst)) (K.offd M) e1 h hq hk hx hs)
theorem sx_kids {px lp cp sp : Pos} {body rest : List Stmt} {f : Nat → KS → Option Nat} (ok : Okx w D b) (M : Me c r0 E) (K : Kd C r0 c E ks) (hts : tops.size = ks.length) (ex : (Str → Option Value) → Prop) (e1 : m "self" = some (.ref c.x)) (hex : ex m)
    (hr : Px w F b (eval (.Name "range" xp) (evx F b)) (fun a => a = .type "range") m (ML c cur tc going tg tops ks E)) (hl : Px w F b (eval (.Name "len" lp) (evx F b)) (fun a => a = .builtin "len") m (ML c cur tc going tg tops ks E))
    (turn : ∀ i k ks₁ tops₁ I oI m₁ t, ks[i]? = some k → ks₁[i]? = some k → Me c r0 ((I, oI) :: E) → Kd C r0 c ((I, oI) :: E) ks₁ → PartMoved f ks ks₁ tops tops₁ i → m₁ "self" = some (.ref c.x) → ex m₁ → ∀ Φ : Flow → (Str → Option Value) → Led → Prop,
      (∀ m' ks₂ tops₂, m' "self" = some (.ref c.x) → ex m' → Kd C r0 c ((I, oI) :: E) ks₂ → PartMoved f ks ks₂ tops tops₂ (i + 1) → Φ .next m' (ML c cur tc going tg tops₂ ks₂ ((I, oI) :: E))) →
      Lx w F b (execs body (evx F b)) Φ (ms m₁ "i" (.int (i : Int) t)) (ML c cur tc going tg tops₁ ks₁ ((I, oI) :: E)))
    (hX : ∀ m' ks' tops', m' "self" = some (.ref c.x) → ex m' → Kd C r0 c E ks' → Moved f ks ks' → TopsAre tops' (ks'.map KS.key) → Lx w F b (execs rest (evx F b)) φ m' (ML c cur tc going tg tops' ks' E))
    (hf : F.cs.kind = .function) (hx : (evx F b).kindOf "self" = some .local) (hxi : (evx F b).kindOf "i" = some .local)
    (ha : starEach [.Call (.Name "len" lp) [.Attribute (.Name "self" sp) "children" ap] [] cp] (evx F b) = (false, eval (.Call (.Name "len" lp) [.Attribute (.Name "self" sp) "children" ap] [] cp) (evx F b)) :: starEach [] (evx F b))
    (ha2 : starEach [.Attribute (.Name "self" sp) "children" ap] (evx F b) = (false, eval (.Attribute (.Name "self" sp) "children" ap) (evx F b)) :: starEach [] (evx F b))
    (hc : eval (.Call (.Name "range" xp) [.Call (.Name "len" lp) [.Attribute (.Name "self" sp) "children" ap] [] cp] [] pos) (evx F b) = (do callWith pos (← eval (.Name "range" xp) (evx F b)) [] (backTo pos (starEach [.Call (.Name "len" lp) [.Attribute (.Name "self" sp) "children" ap] [] cp] (evx F b))) (backToKw pos (keywordEach [] (evx F b)))))
    (hc2 : eval (.Call (.Name "len" lp) [.Attribute (.Name "self" sp) "children" ap] [] cp) (evx F b) = (do callWith cp (← eval (.Name "len" lp) (evx F b)) [] (backTo cp (starEach [.Attribute (.Name "self" sp) "children" ap] (evx F b))) (backToKw cp (keywordEach [] (evx F b)))))
    (hfo : ∀ x, foldedSetIterable (.Call (.Name "range" xp) [.Call (.Name "len" lp) [.Attribute (.Name "self" sp) "children" ap] [] cp] [] pos) (evx F b) x = pure x) :
    Lx w F b (execs (.For (.Name "i" px) (.Call (.Name "range" xp) [.Call (.Name "len" lp) [.Attribute (.Name "self" sp) "children" ap] [] cp] [] pos) body [] np :: rest) (evx F b)) φ m (ML c cur tc going tg tops ks E) := by
  have hn := K.hn
  have hcl := K.hcl
  refine sx_forUp (n := ks.length) ok hr (px_I (px_len ok (px_attr ok e1 (ML.in_E M.inst) ML.in_o rfl rfl (by fail "r") (by fail "r") (by fail "r") (by fail "r") hf hx rfl rfl) hl (ML.in_E M.lst) (by omega) ha2 hc2) (by rw [hcl])) (by omega) (MlJ C r0 c E f ks tops ex cur tc going tg) (.mk ks tops e1 hex K (.zero hts)) ?_ ?_ hf hxi ha hc hfo
  · intro i m₁ led₁ I oI t hi hJ hne Φ kn kr
    obtain ⟨ks₁, tops₁, n1, n2, K1, P⟩ := hJ
    obtain ⟨k, hk⟩ : ∃ k, ks[i]? = some k := ⟨_, List.getElem?_eq_getElem hi⟩
    have hk1 : ks₁[i]? = some k := by rw [P.todo i (Nat.le_refl _)]; exact hk
    have hd := hne _ ML.in_o
    have ht := hne _ ML.in_t
    refine Lx.sub (led' := ML c cur tc going tg tops₁ ks₁ ((I, oI) :: E)) (fun p hp => ?_) (turn i k ks₁ tops₁ I oI m₁ t hk hk1 (M.cons hd ht) (K1.cons M fun p hp => hne p (ML.in_k hp)) P n1 n2 Φ fun m' ks₂ tops₂ o1 o2 K2 P2 => ?_)
    · rcases List.mem_cons.mp hp with rfl | h
      · exact .tail _ (.head _)
      · rcases List.mem_cons.mp h with rfl | h
        · exact .tail _ (.tail _ (.head _))
        · rcases List.mem_append.mp h with h | h
          · exact .tail _ (ML.in_k h)
          · rcases List.mem_cons.mp h with rfl | h
            · exact .head _
            · exact .tail _ (ML.in_E h)
    · refine kn .next m' (ML c cur tc going tg tops₂ ks₂ E) _ (.inl rfl) (.mk ks₂ tops₂ o1 o2 (K2.uncons M) P2) (fun p hp => ?_) (ML.in_E (.head _)) fun p hp => ?_
      · rcases List.mem_cons.mp hp with rfl | h
        · exact .head _
        · rcases List.mem_cons.mp h with rfl | h
          · exact .tail _ (.head _)
          · rcases List.mem_append.mp h with h | h
            · exact ML.in_k h
            · exact ML.in_E (.tail _ h)
      · rcases List.mem_cons.mp hp with rfl | h
        · exact hd
        · rcases List.mem_cons.mp h with rfl | h
          · exact ht
          · rcases List.mem_append.mp h with h | h
            · obtain ⟨kk, hkk, hp⟩ := List.mem_flatMap.mp h
              exact fun e => K2.kids.off kk hkk p hp (I, oI) (.head _) e.symm
            · exact hne p (ML.in_E h)
  · intro m' led' h
    obtain ⟨ks₁, tops₁, n1, n2, K1, P⟩ := h
    obtain ⟨mv, ht⟩ := P.all
    exact hX m' ks₁ tops₁ n1 n2 K1 mv ht
end
open PySem PySem.W PyProof.Rows
set_option linter.unusedVariables false
set_option maxRecDepth 100000
set_option maxHeartbeats 8000000
inductive MmP (C : CurP) (r0 : Led) (c : MK) (E : Led) (f : Nat → KS → Option Nat) (ks : List KS) (cur : List KS → Int) (going : Int) : Value → Led → Prop
  | mk (t t2 : Tok) (tops' : Array Value) (ks' : List KS) (K : Kd C r0 c E ks') (mv : Moved f ks ks') (ht : TopsAre tops' (ks'.map KS.key)) : MmP C r0 c E f ks cur going .none ((c.dx, c.obj (cur ks') t going t2) :: (c.tp, listOf tops' c.nt) :: kfps ks')
section
variable {w : World} {D D' : Nat} {C : CurP} {r0 E : Led} {c : MK} {ks : List KS} {i : Nat} {k : KS} {st' : Option Nat} {cur going : Int} {tc tg : Tok} {tops : Array Value} {F : FnC} {b : Bx} {m : Str → Option Value} {φ : Flow → (Str → Option Value) → Led → Prop} {pl pl2 : Sem Bool} {xp ap pos np xp2 ap2 pos2 np2 sp qp : Pos} {stmts : List Stmt} {y : Str}
theorem Kd.subk (K : Kd C r0 c E ks) (M : Me c r0 E) (hk : ks[i]? = some k) : ∀ p ∈ k.fp ++ r0, p ∈ ML c cur tc going tg tops ks E := fun p hp => by
  rcases List.mem_append.mp hp with h | h
  · exact ML.in_k (mem_kfps (List.mem_of_getElem? hk) p h)
  · exact ML.in_E (M.sub p h)
theorem PartMoved.szk {f : Nat → KS → Option Nat} {ks ks₁ : List KS} {tops0 tops : Array Value} {i : Nat} (P : PartMoved f ks ks₁ tops0 tops i) : tops.size = ks₁.length := P.sz.trans P.len.symm
theorem sx_lookP {f : Nat → KS → Option Nat} {ks₁ : List KS} {tops₁ : Array Value} {fp' : Led} (ok : Okx w D b) (S : CurSpec w D' C) (M : Me c r0 E) (hk : ks[i]? = some k) (P : PartMoved f ks ks₁ tops tops₁ i) (ha : sameAdr fp' k.fp) (K : Kd C r0 c E (ks₁.set i { k with fp := fp', st := f i k })) (e1 : m "self" = some (.ref c.x)) (ey : ∃ v, m y = some v ∧ IsI (i : Int) v)
    (hq : ∀ tops₂, PartMoved f ks (ks₁.set i { k with fp := fp', st := f i k }) tops tops₂ (i + 1) → Lx w F b (execs stmts (evx F b)) φ m (ML c cur tc going tg tops₂ (ks₁.set i { k with fp := fp', st := f i k }) E)) (hf : F.cs.kind = .function) (hx : (evx F b).kindOf "self" = some .local) (hy : (evx F b).kindOf y = some .local) (hyd : (y == ("__debug__" : Str)) = false) (hD : D' + 1 ≤ D) (hia : interactive (evx F b) = false)
    (hs : swapsWith (.Call (.Attribute (.Name "self" xp) "look" ap) [.Name y np] [] pos) none pos.line (evx F b) = pure false)
    (ha2 : starEach [.Name y np] (evx F b) = (false, eval (.Name y np) (evx F b)) :: starEach [] (evx F b))
    (he : eval (.Call (.Attribute (.Name "self" xp) "look" ap) [.Name y np] [] pos) (evx F b) = (do
      let ov ← eval (.Name "self" xp) (evx F b)
      standAt ap.atName
      let (f, first) ← holding [ov] (getMethod ov "look" pl)
      callWith pos f first (backTo pos (starEach [.Name y np] (evx F b))) [])) :
    Lx w F b (execs (.Expr (.Call (.Attribute (.Name "self" xp) "look" ap) [.Name y np] [] pos) pos :: stmts) (evx F b)) φ m (ML c cur tc going tg tops₁ (ks₁.set i { k with fp := fp', st := f i k }) E) := by
  have hk1 : ks₁[i]? = some k := by rw [P.todo i (Nat.le_refl _)]; exact hk
  have hi := (List.getElem?_eq_some_iff.mp hk1).1
  refine sx_look (k := { k with fp := fp', st := f i k }) ok S M K (by rw [List.length_set]; exact P.szk) (List.getElem?_set_self hi) e1 ey (fun v hv => hq _ (P.step hk ha hv)) hf hx hy hyd hD hia hs ha2 he
theorem sx_mvlook {f : Nat → KS → Option Nat} {ks₁ : List KS} {tops₁ : Array Value} {mn : MN} (ok : Okx w D b) (S : CurSpec w D' C) (M : Me c r0 E) (K : Kd C r0 c E ks₁) (hk : ks[i]? = some k) (P : PartMoved f ks ks₁ tops tops₁ i) (e1 : m "self" = some (.ref c.x)) (ey : ∃ v, m "i" = some v ∧ IsI (i : Int) v)
    (H : ∀ {E0 : Led}, (∀ p ∈ E, p ∈ E0) → Off k.fp E0 → Calls w D' (adr k.kd mn) [.ref k.c] k.fp E0 fun r fp' => r = .none ∧ sameAdr fp' k.fp ∧ FixC C r0 fp' E k.c k.kd k.R (f i k))
    (hq : ∀ ks₂ tops₂, Kd C r0 c E ks₂ → PartMoved f ks ks₂ tops tops₂ (i + 1) → φ .next m (ML c cur tc going tg tops₂ ks₂ E)) (hf : F.cs.kind = .function) (hx : (evx F b).kindOf "self" = some .local) (hy : (evx F b).kindOf "i" = some .local) (hD : D' + 1 ≤ D) (hia : interactive (evx F b) = false)
    (hsub : ∀ u, subscripted (.Name "i" np) false (.ref c.ch) (.int (i : Int) u) = operate [.ref c.ch, .int (i : Int) u] (getItem (.ref c.ch) (.int (i : Int) u)))
    (hs : swapsWith (.Call (.Attribute (.Name "self" xp) "look" ap) [.Name "i" np2] [] pos) none pos.line (evx F b) = pure false)
    (hs2 : swapsWith (.Call (.Attribute (.Subscript (.Attribute (.Name "self" xp2) "children" ap2) (.Name "i" np) sp) mn.name qp) [] [] pos2) none pos2.line (evx F b) = pure false)
    (ha2 : starEach [.Name "i" np2] (evx F b) = (false, eval (.Name "i" np2) (evx F b)) :: starEach [] (evx F b))
    (he : eval (.Call (.Attribute (.Name "self" xp) "look" ap) [.Name "i" np2] [] pos) (evx F b) = (do
      let ov ← eval (.Name "self" xp) (evx F b)
      standAt ap.atName
      let (f, first) ← holding [ov] (getMethod ov "look" pl)
      callWith pos f first (backTo pos (starEach [.Name "i" np2] (evx F b))) []))
    (he2 : eval (.Call (.Attribute (.Subscript (.Attribute (.Name "self" xp2) "children" ap2) (.Name "i" np) sp) mn.name qp) [] [] pos2) (evx F b) = (do
      let ov ← eval (.Subscript (.Attribute (.Name "self" xp2) "children" ap2) (.Name "i" np) sp) (evx F b)
      standAt qp.atName
      let (f, first) ← holding [ov] (getMethod ov mn.name pl2)
      callWith pos2 f first (backTo pos2 (starEach [] (evx F b))) [])) :
    Lx w F b (execs [.Expr (.Call (.Attribute (.Subscript (.Attribute (.Name "self" xp2) "children" ap2) (.Name "i" np) sp) mn.name qp) [] [] pos2) pos2, .Expr (.Call (.Attribute (.Name "self" xp) "look" ap) [.Name "i" np2] [] pos) pos] (evx F b)) φ m (ML c cur tc going tg tops₁ ks₁ E) := by
  have hk1 : ks₁[i]? = some k := by rw [P.todo i (Nat.le_refl _)]; exact hk
  exact sx_expr (lm0 ok (px_kid ok M K hk1 e1 ey hf hx hy rfl hsub) (px_cur ok S ((K.kids.cur k (List.mem_of_getElem? hk1)).1) (K.subk M hk1) mn) (lx_kid ok K hk1 (fun h1 _ h3 => H h1 h3) (fun fp' ha K2 => sx_lookP ok S M hk P ha K2 e1 ey (fun tops₂ P2 => lx_nil (hq _ _ K2 P2)) hf hx hy rfl hD hia hs ha2 he) hf (by omega)) (keep_cur _ _ _) he2) hia hs2
theorem mfirst_c (S : CurSpec w D C) (M : Me c r0 E) (K : Kd C r0 c E ks) (hts : tops.size = ks.length) : Calls w (D + 9 + 1) 440 [.ref c.x] ((c.dx, c.obj cur tc going tg) :: (c.tp, listOf tops c.nt) :: kfps ks) E (MmP C r0 c E (fun _ k => firstAt k.R) ks (fun ks' => leastTo (ks'.map KS.key) (ks'.map KS.key).length) 0) := by
  have SF := S.fix r0
  refine' calls_ofG (binds := [("self", .ref c.x)]) ?ho ?hcd ?hb ?hl ?c1 ?c2 ?c3 ?c4 ?_
  fail "e"
  intro bb ok φ kφ
  show Lx w _ bb _ φ _ (ML c cur tc going tg tops ks E)
  refine sx_cur ok M K rfl (px_neg px_int) (fun tc1 => ?_) rfl rfl rfl
  refine sx_kids (f := fun _ k => firstAt k.R) ok M K hts (fun _ => True) rfl trivial (px_builtin ok (by fail "r") (by fail "r") (by decide) rfl rfl rfl) (px_builtin ok (by fail "r") (by fail "r") (by decide) rfl rfl rfl) (fun i k ks₁ tops₁ I oI m₁ t hk hk1 M1 K1 P e1 _ Φ kn => ?_) (fun m' ks' tops' e1 _ K1 mv ht => ?_) rfl rfl rfl rfl rfl rfl rfl (fun _ => rfl)
  · exact sx_mvlook (mn := .first) ok S M1 K1 hk P e1 ⟨_, rfl, t, rfl⟩ (fun h1 h3 => SF.first (K1.kids.cur k (List.mem_of_getElem? hk1)) h1 h3) (fun ks₂ tops₂ K2 P2 => kn _ ks₂ tops₂ e1 trivial K2 P2) rfl rfl rfl (by omega) rfl (fun _ => (by fail "r")) rfl rfl rfl rfl rfl
  · refine sx_going ok M K1 e1 (px_globI ok (by fail "r") rfl rfl rfl) (fun t2 => ?_) rfl rfl rfl
    refine sx_least ok S M K1 ht e1 (fun t => ?_) rfl rfl (by omega) rfl rfl rfl
    exact lx_nil (kφ .next m' (_ :: _ :: kfps ks') (.mk t t2 tops' ks' K1 mv ht))
theorem mlast_c (S : CurSpec w D C) (M : Me c r0 E) (K : Kd C r0 c E ks) (hts : tops.size = ks.length) : Calls w (D + 9 + 1) 447 [.ref c.x] ((c.dx, c.obj cur tc going tg) :: (c.tp, listOf tops c.nt) :: kfps ks) E (MmP C r0 c E (fun _ k => lastAt k.R) ks (fun ks' => greatOf (ks'.map KS.key) (ks'.map KS.key).length) 1) := by
  have SF := S.fix r0
  refine' calls_ofG (binds := [("self", .ref c.x)]) ?ho ?hcd ?hb ?hl ?c1 ?c2 ?c3 ?c4 ?_
  fail "e"
  intro bb ok φ kφ
  show Lx w _ bb _ φ _ (ML c cur tc going tg tops ks E)
  refine sx_cur ok M K rfl (px_neg px_int) (fun tc1 => ?_) rfl rfl rfl
  refine sx_kids (f := fun _ k => lastAt k.R) ok M K hts (fun _ => True) rfl trivial (px_builtin ok (by fail "r") (by fail "r") (by decide) rfl rfl rfl) (px_builtin ok (by fail "r") (by fail "r") (by decide) rfl rfl rfl) (fun i k ks₁ tops₁ I oI m₁ t hk hk1 M1 K1 P e1 _ Φ kn => ?_) (fun m' ks' tops' e1 _ K1 mv ht => ?_) rfl rfl rfl rfl rfl rfl rfl (fun _ => rfl)
  · exact sx_mvlook (mn := .last) ok S M1 K1 hk P e1 ⟨_, rfl, t, rfl⟩ (fun h1 h3 => SF.last (K1.kids.cur k (List.mem_of_getElem? hk1)) h1 h3) (fun ks₂ tops₂ K2 P2 => kn _ ks₂ tops₂ e1 trivial K2 P2) rfl rfl rfl (by omega) rfl (fun _ => (by fail "r")) rfl rfl rfl rfl rfl
  · refine sx_going ok M K1 e1 (px_globI ok (by fail "r") rfl rfl rfl) (fun t2 => ?_) rfl rfl rfl
    refine sx_great ok S M K1 ht e1 (fun t => ?_) rfl rfl (by omega) rfl rfl rfl
    exact lx_nil (kφ .next m' (_ :: _ :: kfps ks') (.mk t t2 tops' ks' K1 mv ht))
theorem mseek_c {e : IK} {te : Tok} (S : CurSpec w D C) (M : Me c r0 E) (K : Kd C r0 c E ks) (hts : tops.size = ks.length) (he : e.Ok) : Calls w (D + 9 + 1) 454 [.ref c.x, .bytes (ikb e) te] ((c.dx, c.obj cur tc going tg) :: (c.tp, listOf tops c.nt) :: kfps ks) E (MmP C r0 c E (fun _ k => seekAt k.R e) ks (fun ks' => leastTo (ks'.map KS.key) (ks'.map KS.key).length) 0) := by
  have SF := S.fix r0
  refine' calls_ofG (binds := [("self", .ref c.x), ("target", .bytes (ikb e) te)]) ?ho ?hcd ?hb ?hl ?c1 ?c2 ?c3 ?c4 ?_
  fail "e"
  intro bb ok φ kφ
  show Lx w _ bb _ φ _ (ML c cur tc going tg tops ks E)
  refine sx_cur ok M K rfl (px_neg px_int) (fun tc1 => ?_) rfl rfl rfl
  refine sx_kids (f := fun _ k => seekAt k.R e) ok M K hts (fun m => m "target" = some (.bytes (ikb e) te)) rfl rfl (px_builtin ok (by fail "r") (by fail "r") (by decide) rfl rfl rfl) (px_builtin ok (by fail "r") (by fail "r") (by decide) rfl rfl rfl) (fun i k ks₁ tops₁ I oI m₁ t hk hk1 M1 K1 P e1 e2 Φ kn => ?_) (fun m' ks' tops' e1 _ K1 mv ht => ?_) rfl rfl rfl rfl rfl rfl rfl (fun _ => rfl)
  · refine sx_expr (lm1 ok (px_kid ok M1 K1 hk1 e1 ⟨_, rfl, t, rfl⟩ rfl rfl rfl rfl (fun _ => (by fail "r"))) (px_cur ok S ((K1.kids.cur k (List.mem_of_getElem? hk1)).1) (K1.subk M1 hk1) .seek) (px_args1 (px_name e2 rfl rfl rfl) rfl) (fun vs hvs => ?_) (keep_cur _ _ _) rfl rfl rfl) rfl rfl
    obtain ⟨_, rfl, rfl⟩ := hvs
    exact lx_kid ok K1 hk1 (fun h1 _ h3 => SF.seek (K1.kids.cur k (List.mem_of_getElem? hk1)) h1 h3 he) (fun fp' ha K2 => sx_lookP ok S M1 hk P ha K2 e1 ⟨_, rfl, t, rfl⟩ (fun tops₂ P2 => lx_nil (kn _ _ tops₂ e1 e2 K2 P2)) rfl rfl rfl rfl (by omega) rfl rfl rfl rfl) rfl (by omega)
  · refine sx_going ok M K1 e1 (px_globI ok (by fail "r") rfl rfl rfl) (fun t2 => ?_) rfl rfl rfl
    refine sx_least ok S M K1 ht e1 (fun t => ?_) rfl rfl (by omega) rfl rfl rfl
    exact lx_nil (kφ .next m' (_ :: _ :: kfps ks') (.mk t t2 tops' ks' K1 mv ht))
structure SoJ (C : CurP) (rest E0 : Led) (x : Addr) (e : IK) (te : Tok) (kc : KS) (n : Nat) (m : Str → Option Value) (led : Led) : Prop where
  e1 : m "self" = some (.ref x)
  e2 : m "here" = some (.bytes (ikb e) te)
  e3 : m "child" = some (.ref kc.c)
  at_ : ∃ (j : Nat) (fp₁ : Led), led = fp₁ ++ E0 ∧ sameAdr fp₁ kc.fp ∧ C fp₁ rest kc.c kc.kd kc.R (placeOf kc.R j) ∧ ltLen kc.R e ≤ j ∧ j + n = ltLen kc.R e + eqLen kc.R e (ltLen kc.R e)
theorem sother_c {i : Nat} {ti te : Tok} {e : IK} {pe : Bool} {kc : KS} {E0 rest : Led} {x dx ch tp o : Addr} {q : MP} {cv : Array Value} {nc : Nat} (S : CurSpec w D C) (hC : C kc.fp rest kc.c kc.kd kc.R kc.st) (hsub : ∀ p ∈ rest, p ∈ E0) (hoff : Off kc.fp E0) (he : e.Ok)
    (m1 : (x, instObj 506 dx) ∈ E0) (m0 : (dx, MD q ch tp o cur tc going tg) ∈ E0) (m2 : (ch, listOf cv nc) ∈ E0) (hcv : cv[i]? = some (.ref kc.c)) (ord : OrdIn E0 o) (hi : i ≤ 1000) :
    Calls w (D + 5 + 1) 461 [.ref x, .int (i : Int) ti, .bytes (ikb e) te, .bool pe] kc.fp E0 fun r fp' => r = .none ∧ sameAdr fp' kc.fp ∧ C fp' rest kc.c kc.kd kc.R (if pe then afterAt kc.R e else seekAt kc.R e) := by
  have sub2 : ∀ {fp : Led} {p}, p ∈ E0 → p ∈ fp ++ E0 := fun h => List.mem_append_right _ h
  refine' calls_ofG (binds := [("self", .ref x), ("i", .int (i : Int) ti), ("here", .bytes (ikb e) te), ("past_equal", .bool pe)]) ?ho ?hcd ?hb ?hl ?c1 ?c2 ?c3 ?c4 ?_
  fail "e"
  intro bb ok φ kφ
  refine sx_name (px_item (v := .ref kc.c) (k := (i : Int)) (px_attr ok rfl (sub2 m1) (sub2 m0) rfl rfl (by fail "r") (by fail "r") (by fail "r") (by fail "r") rfl rfl rfl rfl) (Px.mono (px_name rfl rfl rfl rfl) isI) (sub2 m2) (by omega) (by omega) hcv (fun _ => (by fail "r"))) (fun v hv => ?_) rfl rfl rfl
  subst hv
  refine sx_expr (lm1 ok (px_name rfl rfl rfl rfl) (px_cur ok S hC (fun p hp => (List.mem_append.mp hp).elim (fun h => List.mem_append_left _ h) fun h => sub2 (hsub p h)) .seek) (px_args1 (px_name rfl rfl rfl rfl) rfl) (fun vs hvs => ?_) (keep_cur _ _ _) rfl rfl rfl) rfl rfl
  obtain ⟨_, rfl, rfl⟩ := hvs
  refine lx_call (D' := D) ok rfl (by omega) (S.seek (t := te) hC hsub hoff he) (fun _ h => h) fun r fp' hp => ?_
  obtain ⟨-, ha, hC'⟩ := hp
  clear hC
  cases pe with
  | false => exact sx_if1 (pc_val (px_name rfl rfl rfl rfl) rfl) (fun h => by cases h) fun _ => lx_nil (kφ .next _ fp' ⟨rfl, ha, hC'⟩)
  | true =>
    refine sx_if1 (pc_val (px_name rfl rfl rfl rfl) rfl) (fun _ => ?_) fun h => by cases h
    refine sx_while (SoJ C rest E0 x e te kc) (fun m led => ∃ fp₁, led = fp₁ ++ E0 ∧ sameAdr fp₁ kc.fp ∧ C fp₁ rest kc.c kc.kd kc.R (afterAt kc.R e)) (eqLen kc.R e (ltLen kc.R e)) ⟨rfl, rfl, rfl, _, fp', rfl, ha, hC', Nat.le_refl _, rfl⟩ ?_ fun m' led' h => ?_
    · clear hC' ha fp'
      intro n m₁ led₁ hx Φ kn kc1 kb kr
      obtain ⟨e1, e2, e3, j, fp₁, rfl, ha, hC', hj1, hj2⟩ := hx
      have hjR := eqLen_le kc.R e _ (ltLen_le kc.R e)
      have hT : ∀ p ∈ fp₁ ++ rest, p ∈ fp₁ ++ E0 := fun p hp => (List.mem_append.mp hp).elim (fun h => List.mem_append_left _ h) fun h => sub2 (hsub p h)
      have hval := fun (st : Option Nat) (hC : C fp₁ rest kc.c kc.kd kc.R st) => (S.valid hC (E0 := fp₁ ++ E0) fun p hp => sub2 (hsub p hp))
      by_cases hjl : j < kc.R.length
      · rw [placeOf_lt hjl] at hC'
        obtain ⟨xr, hx⟩ : ∃ xr, kc.R[j]? = some xr := ⟨_, List.getElem?_eq_getElem hjl⟩
        have hxo : xr.1.Ok := S.ok hC' _ (List.mem_of_getElem? hx)
        have hat := eqLen_at (e := e) hx hj1 (by omega)
        obtain ⟨duo, uo, dd, hh, tt, nn, o1, o2, o3, o4⟩ := id ord
        refine ⟨cmpI xr.1 e == 0, pc_and2 (c := true) (pc_val (pm0 ok (px_name e3 rfl rfl rfl) (px_cur ok S hC' hT .valid) (px_call ok (hval _ hC') (fun r fp' h => h.1) (fun p hp => List.mem_append_left _ hp) rfl (by omega)) (keep_cur _ _ _) rfl) rfl) (fun _ => pc_eqI (pm1 ok (px_attr ok e1 (sub2 m1) (sub2 m0) rfl rfl (by fail "r") (by fail "r") (by fail "r") (by fail "r") rfl rfl rfl rfl) (px_meth ok (sub2 o1) (sub2 o2) rfl (by fail "r") (by fail "r") (by fail "r")) (px_args2 (P := IsB (ikb xr.1)) (pm0 ok (px_name e3 rfl rfl rfl) (px_cur ok S hC' hT .key) (px_call ok (S.key hC' hx fun p hp => sub2 (hsub p hp)) (fun r fp' h => h.1) (fun p hp => List.mem_append_left _ hp) rfl (by omega)) (keep_cur _ _ _) rfl) (px_name e2 rfl rfl rfl) rfl rfl) (fun vs hvs => ?_) (by fail "r") rfl rfl rfl) px_int rfl), fun hc => ?_, fun hc => ?_⟩
        · obtain ⟨_, _, rfl, ⟨t', rfl⟩, rfl⟩ := hvs
          exact px_call ok (icmp_c hxo he (ord.mono fun p hp => sub2 hp)) (fun r fp' h => h) (fun _ h => nomatch h) rfl (by omega)
        · have hat2 := hat.mpr (by simpa using hc)
          refine sx_expr (lm0 ok (px_name e3 rfl rfl rfl) (px_cur ok S hC' hT .step) (lx_call (D' := D) ok rfl (by omega) (S.step hC' hsub (hoff.adr ha)) (fun _ h => h) fun r fp₂ hp => ?_) (keep_cur _ _ _) rfl) rfl rfl
          obtain ⟨-, ha2, hC2⟩ := hp
          exact lx_nil (kn (n - 1) _ _ (by omega) ⟨e1, e2, e3, j + 1, fp₂, rfl, ha2.trans ha, by rw [← nextAt_eq]; exact hC2, by omega, by omega⟩)
        · have hat2 := mt hat.mp (by simpa using hc)
          have hn : j = ltLen kc.R e + eqLen kc.R e (ltLen kc.R e) := by omega
          exact ⟨fp₁, rfl, ha, by unfold afterAt; rw [← hn, placeOf_lt hjl]; exact hC'⟩
      · have hn : j = ltLen kc.R e + eqLen kc.R e (ltLen kc.R e) := by omega
        rw [placeOf_ge hjl] at hC'
        exact ⟨false, pc_and (c := false) (c2 := true) (pc_val (pm0 ok (px_name e3 rfl rfl rfl) (px_cur ok S hC' hT .valid) (px_call ok (hval _ hC') (fun r fp' h => h.1) (fun p hp => List.mem_append_left _ hp) rfl (by omega)) (keep_cur _ _ _) rfl) rfl) (fun h => by cases h), (fun h => by cases h), fun _ => ⟨fp₁, rfl, ha, by unfold afterAt; rw [← hn, placeOf_ge hjl]; exact hC'⟩⟩
    · obtain ⟨fp₁, rfl, ha, hC⟩ := h
      exact lx_nil (lx_nil (kφ .next _ fp₁ ⟨rfl, ha, hC⟩))
end
open PySem PySem.W PyProof.Rows
set_option linter.unusedVariables false
set_option maxRecDepth 100000
set_option maxHeartbeats 8000000
theorem nat_of_ne {i av : Nat} (h : ((i : Int) != (av : Int)) = false) : i = av := by
  have : (i : Int) = (av : Int) := by simpa using h
  omega
def fwdTo (av : Nat) (e : IK) (i : Nat) (k : KS) : Option Nat := if i = av then k.st else if i < av then afterAt k.R e else seekAt k.R e
def bwdTo (av : Nat) (e : IK) (i : Nat) (k : KS) : Option Nat := if i = av then k.st else backOf k.R (if i < av then afterAt k.R e else seekAt k.R e)
theorem pe_eq {i av : Nat} {a b : Option Nat} : (if decide ((i : Int) < (av : Int)) then a else b) = (if i < av then a else b) := by simp only [decide_eq_true_eq, Int.ofNat_lt]
structure TnX (av : Nat) (tc te : Tok) (e : IK) (m : Str → Option Value) : Prop where
  e2 : m "at" = some (.int ((av : Nat) : Int) tc)
  e3 : m "here" = some (.bytes (ikb e) te)
inductive BkT (C : CurP) (r0 : Led) (c : MK) (E : Led) (cur : Int) (tc : Tok) (going : Int) (tg : Tok) (tops : Array Value) (ks : List KS) (i : Nat) (k : KS) (st : Option Nat) (M : Str → Option Value) : Flow → (Str → Option Value) → Led → Prop
  | mk (fp2 : Led) (ha : sameAdr fp2 k.fp) (K : Kd C r0 c E (ks.set i { k with fp := fp2, st := st })) : BkT C r0 c E cur tc going tg tops ks i k st M .next M (ML c cur tc going tg tops (ks.set i { k with fp := fp2, st := st }) E)
section
variable {w : World} {D D' : Nat} {C : CurP} {r0 E : Led} {c : MK} {ks : List KS} {i : Nat} {k : KS} {st' : Option Nat} {cur going : Int} {tc tg : Tok} {tops : Array Value} {F : FnC} {b : Bx} {m : Str → Option Value} {φ : Flow → (Str → Option Value) → Led → Prop}
theorem Kd.other {e : IK} {pe : Bool} {ti te : Tok} (S : CurSpec w D C) (M : Me c r0 E) (K : Kd C r0 c E ks) (hk : ks[i]? = some k) (he : e.Ok) {E0 : Led} (h1 : ∀ p ∈ E, p ∈ E0) (h2 : ∀ p ∈ [(c.dx, c.obj cur tc going tg), (c.tp, listOf tops c.nt)], p ∈ E0) (h3 : Off k.fp E0) :
    Calls w (D + 5 + 1) 461 [.ref c.x, .int (i : Int) ti, .bytes (ikb e) te, .bool pe] k.fp E0 fun r fp' => r = .none ∧ sameAdr fp' k.fp ∧ FixC C r0 fp' E k.c k.kd k.R (if pe then afterAt k.R e else seekAt k.R e) :=
  sother_c (S.fix r0) (K.kids.cur k (List.mem_of_getElem? hk)) h1 h3 he (h1 _ M.inst) (h2 _ (.head _)) (h1 _ M.lst) (K.hcv i k hk) (M.ord.mono h1) (by have := (List.getElem?_eq_some_iff.mp hk).1; have := K.hn; omega)
theorem tfwd_c {ka : KS} {av : Nat} {e : IK} {te : Tok} (S : CurSpec w D C) (M : Me c r0 E) (K : Kd C r0 c E ks) (hts : tops.size = ks.length) (hka : ks[av]? = some ka) (hkey : ka.key = some e) (he : e.Ok) (htv : tops[av]? = some (.bytes (ikb e) te)) :
    Calls w (D + 11 + 1) 468 [.ref c.x] ((c.dx, c.obj ((av : Nat) : Int) tc going tg) :: (c.tp, listOf tops c.nt) :: kfps ks) E (MmP C r0 c E (fwdTo av e) ks (fun _ => ((av : Nat) : Int)) 0) := by
  have hav := (List.getElem?_eq_some_iff.mp hka).1
  have hn := K.hn
  refine' calls_ofG (binds := [("self", .ref c.x)]) ?ho ?hcd ?hb ?hl ?c1 ?c2 ?c3 ?c4 ?_
  fail "e"
  intro bb ok φ kφ
  show Lx w _ bb _ φ _ (ML c ((av : Nat) : Int) tc going tg tops ks E)
  refine sx_name (px_attr ok rfl (ML.in_E M.inst) ML.in_o rfl rfl (by fail "r") (by fail "r") (by fail "r") (by fail "r") rfl rfl rfl rfl) (fun v hv => ?_) rfl rfl rfl
  subst hv
  refine sx_name (px_item (k := ((av : Nat) : Int)) (px_attr ok rfl (ML.in_E M.inst) ML.in_o rfl rfl (by fail "r") (by fail "r") (by fail "r") (by fail "r") rfl rfl rfl rfl) (Px.mono (px_name rfl rfl rfl rfl) isI) ML.in_t (by omega) (by omega) htv (fun _ => (by fail "r"))) (fun v hv => ?_) rfl rfl rfl
  subst hv
  refine sx_cur ok M K rfl (px_neg px_int) (fun tc1 => ?_) rfl rfl rfl
  refine sx_kids (f := fwdTo av e) ok M K hts (TnX av tc te e) rfl ⟨rfl, rfl⟩ (px_builtin ok (by fail "r") (by fail "r") (by decide) rfl rfl rfl) (px_builtin ok (by fail "r") (by fail "r") (by decide) rfl rfl rfl) (fun i k ks₁ tops₁ I oI m₁ t hk hk1 M1 K1 P e1 x Φ kn => ?_) (fun m' ks' tops' e1 x K1 mv ht => ?_) rfl rfl rfl rfl rfl rfl rfl (fun _ => rfl)
  · refine sx_if1 (pc_neI (i := (i : Int)) (Px.mono (px_name rfl rfl rfl rfl) isI) (Px.mono (px_name x.e2 rfl rfl rfl) isI) rfl) (fun hc => ?_) fun hc => ?_
    · have hia : i ≠ av := fun e => by rw [e] at hc; simp at hc
      refine sx_expr (lm1 ok (px_name e1 rfl rfl rfl) (px_meth ok (ML.in_E M1.inst) ML.in_o rfl (by fail "r") (by fail "r") (by fail "r")) (px_args3 (px_name rfl rfl rfl rfl) (px_name x.e3 rfl rfl rfl) (pv_cmp (Px.mono (px_name rfl rfl rfl rfl) isI) (Px.mono (px_name x.e2 rfl rfl rfl) isI) op_ltI rfl) rfl rfl rfl) (fun vs hvs => ?_) (by fail "r") rfl rfl rfl) rfl rfl
      obtain ⟨_, _, _, rfl, rfl, rfl, rfl⟩ := hvs
      have hf : (if decide ((i : Int) < (av : Int)) then afterAt k.R e else seekAt k.R e) = fwdTo av e i k := by unfold fwdTo; rw [pe_eq, if_neg hia]
      exact lx_kid (D' := D + 5 + 1) ok K1 hk1 (fun h1 h2 h3 => hf ▸ K1.other S M1 hk1 he h1 h2 h3) (fun fp' ha K2 => sx_lookP ok S M1 hk P ha K2 e1 ⟨_, rfl, t, rfl⟩ (fun tops₂ P2 => lx_nil (lx_nil (kn _ _ tops₂ e1 ⟨x.e2, x.e3⟩ K2 P2))) rfl rfl rfl rfl (by omega) rfl rfl rfl rfl) rfl (by omega)
    · have hia : i = av := nat_of_ne hc
      subst hia
      rw [hka] at hk
      cases hk
      exact lx_nil (kn _ ks₁ tops₁ e1 ⟨x.e2, x.e3⟩ K1 (P.skip hka (if_pos rfl) htv (by rw [hkey]; exact ⟨te, rfl⟩)))
  · refine sx_cur ok M K1 e1 (Px.mono (px_name x.e2 rfl rfl rfl) isI) (fun t => ?_) rfl rfl rfl
    refine sx_going ok M K1 e1 (px_globI ok (by fail "r") rfl rfl rfl) (fun t2 => ?_) rfl rfl rfl
    exact lx_nil (kφ .next m' (_ :: _ :: kfps ks') (.mk t t2 tops' ks' K1 mv ht))
theorem tbwd_c {ka : KS} {av : Nat} {e : IK} {te : Tok} (S : CurSpec w D C) (M : Me c r0 E) (K : Kd C r0 c E ks) (hts : tops.size = ks.length) (hka : ks[av]? = some ka) (hkey : ka.key = some e) (he : e.Ok) (htv : tops[av]? = some (.bytes (ikb e) te)) :
    Calls w (D + 11 + 1) 475 [.ref c.x] ((c.dx, c.obj ((av : Nat) : Int) tc going tg) :: (c.tp, listOf tops c.nt) :: kfps ks) E (MmP C r0 c E (bwdTo av e) ks (fun _ => ((av : Nat) : Int)) 1) := by
  have hav := (List.getElem?_eq_some_iff.mp hka).1
  have hn := K.hn
  have SF := S.fix r0
  refine' calls_ofG (binds := [("self", .ref c.x)]) ?ho ?hcd ?hb ?hl ?c1 ?c2 ?c3 ?c4 ?_
  fail "e"
  intro bb ok φ kφ
  show Lx w _ bb _ φ _ (ML c ((av : Nat) : Int) tc going tg tops ks E)
  refine sx_name (px_attr ok rfl (ML.in_E M.inst) ML.in_o rfl rfl (by fail "r") (by fail "r") (by fail "r") (by fail "r") rfl rfl rfl rfl) (fun v hv => ?_) rfl rfl rfl
  subst hv
  refine sx_name (px_item (k := ((av : Nat) : Int)) (px_attr ok rfl (ML.in_E M.inst) ML.in_o rfl rfl (by fail "r") (by fail "r") (by fail "r") (by fail "r") rfl rfl rfl rfl) (Px.mono (px_name rfl rfl rfl rfl) isI) ML.in_t (by omega) (by omega) htv (fun _ => (by fail "r"))) (fun v hv => ?_) rfl rfl rfl
  subst hv
  refine sx_cur ok M K rfl (px_neg px_int) (fun tc1 => ?_) rfl rfl rfl
  refine sx_kids (f := bwdTo av e) ok M K hts (TnX av tc te e) rfl ⟨rfl, rfl⟩ (px_builtin ok (by fail "r") (by fail "r") (by decide) rfl rfl rfl) (px_builtin ok (by fail "r") (by fail "r") (by decide) rfl rfl rfl) (fun i k ks₁ tops₁ I oI m₁ t hk hk1 M1 K1 P e1 x Φ kn => ?_) (fun m' ks' tops' e1 x K1 mv ht => ?_) rfl rfl rfl rfl rfl rfl rfl (fun _ => rfl)
  · refine sx_if1 (pc_neI (i := (i : Int)) (Px.mono (px_name rfl rfl rfl rfl) isI) (Px.mono (px_name x.e2 rfl rfl rfl) isI) rfl) (fun hc => ?_) fun hc => ?_
    · have hia : i ≠ av := fun e => by rw [e] at hc; simp at hc
      refine sx_expr (lm1 ok (px_name e1 rfl rfl rfl) (px_meth ok (ML.in_E M1.inst) ML.in_o rfl (by fail "r") (by fail "r") (by fail "r")) (px_args3 (px_name rfl rfl rfl rfl) (px_name x.e3 rfl rfl rfl) (pv_cmp (Px.mono (px_name rfl rfl rfl rfl) isI) (Px.mono (px_name x.e2 rfl rfl rfl) isI) op_ltI rfl) rfl rfl rfl) (fun vs hvs => ?_) (by fail "r") rfl rfl rfl) rfl rfl
      obtain ⟨_, _, _, rfl, rfl, rfl, rfl⟩ := hvs
      generalize hst : (if decide ((i : Int) < (av : Int)) then afterAt k.R e else seekAt k.R e) = st1
      have hf : backOf k.R st1 = bwdTo av e i k := by unfold bwdTo; rw [← hst, pe_eq, if_neg hia]
      refine lx_kid (D' := D + 5 + 1) ok K1 hk1 (fun h1 h2 h3 => hst ▸ K1.other S M1 hk1 he h1 h2 h3) (fun fp' ha K2 => ?_) rfl (by omega)
      have hi1 := (List.getElem?_eq_some_iff.mp hk1).1
      have hk2 : (ks₁.set i { k with fp := fp', st := st1 })[i]? = some { k with fp := fp', st := st1 } := List.getElem?_set_self hi1
      refine sx_name (px_kid ok M1 K2 hk2 e1 ⟨_, rfl, t, rfl⟩ rfl rfl rfl rfl (fun _ => (by fail "r"))) (fun v hv => ?_) rfl rfl rfl
      subst hv
      have hC2 := (K2.kids.cur _ (List.mem_of_getElem? hk2))
      have hcall := S.valid hC2.1 (E0 := ML c (-1) tc1 going tg tops₁ (ks₁.set i { k with fp := fp', st := st1 }) ((I, oI) :: E)) fun p hp => ML.in_E (M1.sub p hp)
      refine sx_ifjG (BkT C r0 c ((I, oI) :: E) (-1) tc1 going tg tops₁ ks₁ i k (bwdTo av e i k) (ms (ms m₁ "i" (.int (i : Int) t)) "child" (.ref k.c))) (pc_val (pm0 ok (px_name rfl rfl rfl rfl) (px_cur ok S hC2.1 (K2.subk M1 hk2) .valid) (px_call ok hcall (fun r fp' h => h.1) (fun p hp => K2.subk M1 hk2 p (List.mem_append_left _ hp)) rfl (by omega)) (keep_cur _ _ _) rfl) rfl) (fun hc ψ kψ => ?_) (fun hc ψ kψ => ?_) (fun m' led' h => ?_) fun f m' led' hfl h => ?_
      · obtain ⟨j, rfl⟩ := Option.isSome_iff_exists.mp hc
        refine sx_expr (lm0 ok (px_name rfl rfl rfl rfl) (px_cur ok S hC2.1 (K2.subk M1 hk2) .back) (lx_kid (D' := D) ok K2 hk2 (fun h1 _ h3 => SF.back hC2 h1 h3) (fun fp2 ha2 K3 => ?_) rfl (by omega)) (keep_cur _ _ _) rfl) rfl rfl
        rw [List.set_set] at K3 ⊢
        exact lx_nil (kψ .next _ _ (hf ▸ .mk fp2 (ha2.trans ha) K3))
      · obtain rfl : st1 = none := by cases st1 with | none => rfl | some j => cases hc
        refine sx_expr (lm0 ok (px_name rfl rfl rfl rfl) (px_cur ok S hC2.1 (K2.subk M1 hk2) .last) (lx_kid (D' := D) ok K2 hk2 (fun h1 _ h3 => SF.last hC2 h1 h3) (fun fp2 ha2 K3 => ?_) rfl (by omega)) (keep_cur _ _ _) rfl) rfl rfl
        rw [List.set_set] at K3 ⊢
        exact lx_nil (kψ .next _ _ (hf ▸ .mk fp2 (ha2.trans ha) K3))
      · obtain ⟨fp2, ha2, K3⟩ := h
        exact sx_lookP ok S M1 hk P ha2 K3 e1 ⟨_, rfl, t, rfl⟩ (fun tops₂ P2 => lx_nil (lx_nil (kn _ _ tops₂ e1 ⟨x.e2, x.e3⟩ K3 P2))) rfl rfl rfl rfl (by omega) rfl rfl rfl rfl
      · cases h
        exact absurd rfl hfl
    · have hia : i = av := nat_of_ne hc
      subst hia
      rw [hka] at hk
      cases hk
      exact lx_nil (kn _ ks₁ tops₁ e1 ⟨x.e2, x.e3⟩ K1 (P.skip hka (if_pos rfl) htv (by rw [hkey]; exact ⟨te, rfl⟩)))
  · refine sx_cur ok M K1 e1 (Px.mono (px_name x.e2 rfl rfl rfl) isI) (fun t => ?_) rfl rfl rfl
    refine sx_going ok M K1 e1 (px_globI ok (by fail "r") rfl rfl rfl) (fun t2 => ?_) rfl rfl rfl
    exact lx_nil (kφ .next m' (_ :: _ :: kfps ks') (.mk t t2 tops' ks' K1 mv ht))
end
open PySem PySem.W PyProof.Rows
theorem Moved.one {ks : List KS} {av : Nat} {ka : KS} {fp' : Led} {st' : Option Nat} (hk : ks[av]? = some ka) (ha : sameAdr fp' ka.fp) : Moved (fun i k => if i = av then st' else k.st) ks (ks.set av { ka with fp := fp', st := st' }) where
  len := by rw [List.length_set]
  at_ := fun i k hi => by
    by_cases e : av = i
    · subst e
      rw [hk] at hi; cases hi
      refine ⟨fp', ?_, ha⟩
      rw [List.getElem?_set_self (List.getElem?_eq_some_iff.mp hk).1, if_pos rfl]
    · refine ⟨k.fp, ?_, rfl⟩
      rw [List.getElem?_set_ne e, hi, if_neg (fun h => e h.symm)]
theorem TopsAre.set {tops : Array Value} {ks : List KS} {av : Nat} {k2 : KS} {v : Value} (h : TopsAre tops (ks.map KS.key)) (hv : TopV k2.key v) : TopsAre (tops.setIfInBounds av v) ((ks.set av k2).map KS.key) := by
  refine ⟨by rw [Array.size_setIfInBounds, List.length_map, List.length_set]; simpa using h.1, fun i k hk => ?_⟩
  rw [List.getElem?_map] at hk
  by_cases e : av = i
  · subst e
    obtain ⟨k', hk', rfl⟩ := Option.map_eq_some_iff.mp hk
    have hl : av < ks.length := by
      have := (List.getElem?_eq_some_iff.mp hk').1
      rwa [List.length_set] at this
    rw [List.getElem?_set_self hl] at hk'
    cases hk'
    have hs : av < tops.size := by have := h.1; rw [List.length_map] at this; omega
    exact ⟨v, by rw [Array.getElem?_setIfInBounds_self_of_lt hs], hv⟩
  · rw [List.getElem?_set_ne e] at hk
    obtain ⟨v2, a, b⟩ := h.2 i k (by rw [List.getElem?_map]; exact hk)
    exact ⟨v2, by rw [Array.getElem?_setIfInBounds_ne e]; exact a, b⟩
theorem Moved.adr {f : Nat → KS → Option Nat} {ks ks' : List KS} (h : Moved f ks ks') : ∀ p ∈ kfps ks', ∃ p' ∈ kfps ks, p'.1 = p.1 := fun p hp => by
  obtain ⟨k, hk, hp⟩ := List.mem_flatMap.mp hp
  obtain ⟨i, hi⟩ := List.mem_iff_getElem?.mp hk
  have hl : i < ks.length := by rw [← h.len]; exact (List.getElem?_eq_some_iff.mp hi).1
  obtain ⟨fp', a, b⟩ := h.at_ i _ (List.getElem?_eq_getElem hl)
  rw [hi] at a
  cases a
  have : p.1 ∈ (ks[i]).fp.map (·.1) := b ▸ List.mem_map_of_mem hp
  obtain ⟨p', hp', e⟩ := List.mem_map.mp this
  exact ⟨p', mem_kfps (List.getElem_mem hl) p' hp', e⟩
section
variable {w : World} {dp un : Nat} {gd : Option (List Code)} {cn : Str} {cs : Scope} {a : Addr} {ccd : Value} {cl : List (Str × Addr)} {outer : List Env} {A₀ : Around} {base h₀ : Heap} {L : Addr} {m mg mb : Str → Option Value} {mean : ExcName → Option Value} {s : Shared} {rest : Led}
  {Q E : Value → Shared → Prop} {D : Nat} {C : CurP} {x dx ch tp o : Addr} {q : MP} {cur going : Int} {tc tg : Tok} {tops : Array Value} {nt : Nat} {ks : List KS} {kc : KS}
end
open PySem PySem.W PyProof.Rows
set_option linter.unusedVariables false
set_option maxRecDepth 100000
set_option maxHeartbeats 8000000
def stay (_ : Nat) (k : KS) : Option Nat := k.st
theorem Moved.stay {ks : List KS} : Moved stay ks ks := ⟨rfl, fun i k h => ⟨k.fp, h, rfl⟩⟩
def fwdG (going : Int) (av : Nat) (e : IK) : Nat → KS → Option Nat := if going = 0 then stay else fwdTo av e
def bwdG (going : Int) (av : Nat) (e : IK) : Nat → KS → Option Nat := if going = 1 then stay else bwdTo av e
theorem fwdG_av {going : Int} {av : Nat} {e : IK} {k : KS} : fwdG going av e av k = k.st := by unfold fwdG; split; rfl; exact if_pos rfl
theorem bwdG_av {going : Int} {av : Nat} {e : IK} {k : KS} : bwdG going av e av k = k.st := by unfold bwdG; split; rfl; exact if_pos rfl
inductive StT (C : CurP) (r0 : Led) (c : MK) (E : Led) (cur going : Int) (g : Nat → KS → Option Nat) (ks : List KS) (M : Str → Option Value) : Flow → (Str → Option Value) → Led → Prop
  | mk (tc tg : Tok) (tops₁ : Array Value) (ks₁ : List KS) (K : Kd C r0 c E ks₁) (mv : Moved g ks ks₁) (ht : TopsAre tops₁ (ks₁.map KS.key)) : StT C r0 c E cur going g ks M .next M (ML c cur tc going tg tops₁ ks₁ E)
inductive MsP (C : CurP) (r0 : Led) (c : MK) (E : Led) (g f : Nat → KS → Option Nat) (ks : List KS) (cur : List KS → Int) (going : Int) : Value → Led → Prop
  | mk (t t2 : Tok) (tops' : Array Value) (ks₁ ks' : List KS) (K : Kd C r0 c E ks') (mv1 : Moved g ks ks₁) (mv : Moved f ks₁ ks') (ht : TopsAre tops' (ks'.map KS.key)) : MsP C r0 c E g f ks cur going .none ((c.dx, c.obj (cur ks') t going t2) :: (c.tp, listOf tops' c.nt) :: kfps ks')
theorem TopsAre.sz {tops : Array Value} {ks : List KS} (h : TopsAre tops (ks.map KS.key)) : tops.size = ks.length := by have := h.1; rwa [List.length_map] at this
section
variable {w : World} {D D' : Nat} {C : CurP} {r0 E : Led} {c : MK} {ks : List KS} {going : Int} {tc tg : Tok} {tops : Array Value}
theorem top_at {ka : KS} {av ia : Nat} {y : Row} (hka : ks[av]? = some ka) (hst : ka.st = some ia) (hy : ka.R[ia]? = some y) (ht : TopsAre tops (ks.map KS.key)) : ka.key = some y.1 ∧ ∃ te, tops[av]? = some (.bytes (ikb y.1) te) := by
  have hkey : ka.key = some y.1 := by unfold KS.key; rw [hst, Option.bind_some, hy]; rfl
  obtain ⟨v, hv, hv2⟩ := ht.2 av ka.key (by rw [List.getElem?_map, hka]; rfl)
  rw [hkey] at hv2
  obtain ⟨te, rfl⟩ := hv2
  exact ⟨hkey, te, hv⟩
theorem mstep_c {ka : KS} {av ia : Nat} {y : Row} (S : CurSpec w D C) (M : Me c r0 E) (K : Kd C r0 c E ks) (hka : ks[av]? = some ka) (hst : ka.st = some ia) (hy : ka.R[ia]? = some y) (ht : TopsAre tops (ks.map KS.key)) (hg : going = 0 ∨ going = 1) :
    Calls w (D + 13 + 1) 482 [.ref c.x] ((c.dx, c.obj ((av : Nat) : Int) tc going tg) :: (c.tp, listOf tops c.nt) :: kfps ks) E (MsP C r0 c E (fwdG going av y.1) (fun i k => if i = av then nextAt ka.R ia else k.st) ks (fun ks' => leastTo (ks'.map KS.key) (ks'.map KS.key).length) 0) := by
  obtain ⟨hkey, te, htv⟩ := top_at hka hst hy ht
  have hye : y.1.Ok := S.ok (K.kids.cur ka (List.mem_of_getElem? hka)).1 y (List.mem_of_getElem? hy)
  have SF := S.fix r0
  refine' calls_ofG (binds := [("self", .ref c.x)]) ?ho ?hcd ?hb ?hl ?c1 ?c2 ?c3 ?c4 ?_
  fail "e"
  intro bb ok φ kφ
  show Lx w _ bb _ φ _ (ML c ((av : Nat) : Int) tc going tg tops ks E)
  refine sx_mneed ok (.tail _ (List.mem_append_right _ M.inst)) (by omega) rfl ?_ rfl rfl (by omega) rfl rfl rfl
  refine sx_ifjG (StT C r0 c E ((av : Nat) : Int) 0 (fwdG going av y.1) ks (fun y => ([("self", Value.ref c.x)] : List (Str × Value)).reverse.lookup y)) (pc_neI (Px.mono (px_attr ok rfl (.tail _ (.tail _ (List.mem_append_right _ M.inst))) (.head _) rfl rfl (by fail "r") (by fail "r") (by fail "r") (by fail "r") rfl rfl rfl rfl) isI) (px_globI ok (by fail "r") rfl rfl rfl) rfl) (fun hc ψ kψ => ?_) (fun hc ψ kψ => lx_nil (kψ .next _ _ ?_)) (fun m' led' h => ?_) fun f m' led' hfl h => ?_
  · have h1 : going = 1 := by
      rcases hg with rfl | h
      · cases hc
      · exact h
    subst h1
    refine sx_expr (lm0 ok (px_name rfl rfl rfl rfl) (px_meth ok (.tail _ (.tail _ (List.mem_append_right _ M.inst))) (.head _) rfl (by fail "r") (by fail "r") (by fail "r")) (lx_call ok rfl (by omega) (tfwd_c S M K ht.sz hka hkey hye htv) (fun _ h => h) fun r fp' hp => ?_) (by fail "r") rfl) rfl rfl
    obtain ⟨t, t2, tops', ks', K', mv, ht'⟩ := hp
    exact lx_nil (kψ .next _ _ (.mk t t2 tops' ks' K' mv ht'))
  · have h0 : going = 0 := by
      rcases hg with h | rfl
      · exact h
      · cases hc
    subst h0
    exact .mk tc tg tops ks K .stay ht
  · obtain ⟨tc1, tg1, tops₁, ks₁, K1, mv1, ht1⟩ := h
    obtain ⟨fp1, hk1, ha1⟩ := mv1.at_ av ka hka
    rw [fwdG_av, hst] at hk1
    refine sx_name (px_attr ok rfl (ML.in_E M.inst) ML.in_o rfl rfl (by fail "r") (by fail "r") (by fail "r") (by fail "r") rfl rfl rfl rfl) (fun v hv => ?_) rfl rfl rfl
    subst hv
    refine sx_cur ok M K1 rfl (px_neg px_int) (fun tc2 => ?_) rfl rfl rfl
    have hC1 := K1.kids.cur _ (List.mem_of_getElem? hk1)
    refine sx_expr (lm0 ok (px_kid ok M K1 hk1 rfl ⟨_, rfl, _, rfl⟩ rfl rfl rfl rfl (fun _ => (by fail "r"))) (px_cur ok S hC1.1 (K1.subk M hk1) .step) (lx_kid (D' := D) ok K1 hk1 (fun h1 _ h3 => SF.step hC1 h1 h3) (fun fp2 ha2 K2 => ?_) rfl (by omega)) (keep_cur _ _ _) rfl) rfl rfl
    have hk2 := List.getElem?_set_self (l := ks₁) (i := av) (a := ({ ka with fp := fp2, st := nextAt ka.R ia } : KS)) (List.getElem?_eq_some_iff.mp hk1).1
    refine sx_look (k := { ka with fp := fp2, st := nextAt ka.R ia }) ok S M K2 (by rw [List.length_set]; exact ht1.sz) hk2 rfl ⟨_, rfl, _, rfl⟩ (fun v hv => ?_) rfl rfl rfl rfl (by omega) rfl rfl rfl rfl
    refine sx_least ok S M K2 (ht1.set hv) rfl (fun t => ?_) rfl rfl (by omega) rfl rfl rfl
    exact lx_nil (kφ .next _ (_ :: _ :: kfps _) (.mk t tg1 _ ks₁ _ K2 mv1 (Moved.one hk1 ha2) (ht1.set hv)))
  · cases h
    exact absurd rfl hfl
theorem mback_c {ka : KS} {av ia : Nat} {y : Row} (S : CurSpec w D C) (M : Me c r0 E) (K : Kd C r0 c E ks) (hka : ks[av]? = some ka) (hst : ka.st = some ia) (hy : ka.R[ia]? = some y) (ht : TopsAre tops (ks.map KS.key)) (hg : going = 0 ∨ going = 1) :
    Calls w (D + 13 + 1) 489 [.ref c.x] ((c.dx, c.obj ((av : Nat) : Int) tc going tg) :: (c.tp, listOf tops c.nt) :: kfps ks) E (MsP C r0 c E (bwdG going av y.1) (fun i k => if i = av then prevAt ia else k.st) ks (fun ks' => greatOf (ks'.map KS.key) (ks'.map KS.key).length) 1) := by
  obtain ⟨hkey, te, htv⟩ := top_at hka hst hy ht
  have hye : y.1.Ok := S.ok (K.kids.cur ka (List.mem_of_getElem? hka)).1 y (List.mem_of_getElem? hy)
  have SF := S.fix r0
  refine' calls_ofG (binds := [("self", .ref c.x)]) ?ho ?hcd ?hb ?hl ?c1 ?c2 ?c3 ?c4 ?_
  fail "e"
  intro bb ok φ kφ
  show Lx w _ bb _ φ _ (ML c ((av : Nat) : Int) tc going tg tops ks E)
  refine sx_mneed ok (.tail _ (List.mem_append_right _ M.inst)) (by omega) rfl ?_ rfl rfl (by omega) rfl rfl rfl
  refine sx_ifjG (StT C r0 c E ((av : Nat) : Int) 1 (bwdG going av y.1) ks (fun y => ([("self", Value.ref c.x)] : List (Str × Value)).reverse.lookup y)) (pc_neI (Px.mono (px_attr ok rfl (.tail _ (.tail _ (List.mem_append_right _ M.inst))) (.head _) rfl rfl (by fail "r") (by fail "r") (by fail "r") (by fail "r") rfl rfl rfl rfl) isI) (px_globI ok (by fail "r") rfl rfl rfl) rfl) (fun hc ψ kψ => ?_) (fun hc ψ kψ => lx_nil (kψ .next _ _ ?_)) (fun m' led' h => ?_) fun f m' led' hfl h => ?_
  · have h1 : going = 0 := by
      rcases hg with h | rfl
      · exact h
      · cases hc
    subst h1
    refine sx_expr (lm0 ok (px_name rfl rfl rfl rfl) (px_meth ok (.tail _ (.tail _ (List.mem_append_right _ M.inst))) (.head _) rfl (by fail "r") (by fail "r") (by fail "r")) (lx_call ok rfl (by omega) (tbwd_c S M K ht.sz hka hkey hye htv) (fun _ h => h) fun r fp' hp => ?_) (by fail "r") rfl) rfl rfl
    obtain ⟨t, t2, tops', ks', K', mv, ht'⟩ := hp
    exact lx_nil (kψ .next _ _ (.mk t t2 tops' ks' K' mv ht'))
  · have h0 : going = 1 := by
      rcases hg with rfl | h
      · cases hc
      · exact h
    subst h0
    exact .mk tc tg tops ks K .stay ht
  · obtain ⟨tc1, tg1, tops₁, ks₁, K1, mv1, ht1⟩ := h
    obtain ⟨fp1, hk1, ha1⟩ := mv1.at_ av ka hka
    rw [bwdG_av, hst] at hk1
    refine sx_name (px_attr ok rfl (ML.in_E M.inst) ML.in_o rfl rfl (by fail "r") (by fail "r") (by fail "r") (by fail "r") rfl rfl rfl rfl) (fun v hv => ?_) rfl rfl rfl
    subst hv
    refine sx_cur ok M K1 rfl (px_neg px_int) (fun tc2 => ?_) rfl rfl rfl
    have hC1 := K1.kids.cur _ (List.mem_of_getElem? hk1)
    refine sx_expr (lm0 ok (px_kid ok M K1 hk1 rfl ⟨_, rfl, _, rfl⟩ rfl rfl rfl rfl (fun _ => (by fail "r"))) (px_cur ok S hC1.1 (K1.subk M hk1) .back) (lx_kid (D' := D) ok K1 hk1 (fun h1 _ h3 => SF.back hC1 h1 h3) (fun fp2 ha2 K2 => ?_) rfl (by omega)) (keep_cur _ _ _) rfl) rfl rfl
    have hk2 := List.getElem?_set_self (l := ks₁) (i := av) (a := ({ ka with fp := fp2, st := prevAt ia } : KS)) (List.getElem?_eq_some_iff.mp hk1).1
    refine sx_look (k := { ka with fp := fp2, st := prevAt ia }) ok S M K2 (by rw [List.length_set]; exact ht1.sz) hk2 rfl ⟨_, rfl, _, rfl⟩ (fun v hv => ?_) rfl rfl rfl rfl (by omega) rfl rfl rfl rfl
    refine sx_great ok S M K2 (ht1.set hv) rfl (fun t => ?_) rfl rfl (by omega) rfl rfl rfl
    exact lx_nil (kφ .next _ (_ :: _ :: kfps _) (.mk t tg1 _ ks₁ _ K2 mv1 (Moved.one hk1 ha2) (ht1.set hv)))
  · cases h
    exact absurd rfl hfl
end
open PySem PySem.W PyProof.Rows
/-! the order of octets and of internal keys -/
theorem order_refl : ∀ a : List UInt8, Builtin.Bytes.order a a = .eq
  | [] => rfl
  | x :: a => by
    simp only [Builtin.Bytes.order]
    rw [if_neg (UInt8.lt_irrefl x), if_neg (UInt8.lt_irrefl x), order_refl a]
theorem order_eq : ∀ a b : List UInt8, Builtin.Bytes.order a b = .eq → a = b
  | [], [], _ => rfl
  | [], _ :: _, h => by cases h
  | _ :: _, [], h => by cases h
  | x :: a, y :: b, h => by
    simp only [Builtin.Bytes.order] at h
    by_cases h1 : x < y
    · rw [if_pos h1] at h; cases h
    · rw [if_neg h1] at h
      by_cases h2 : y < x
      · rw [if_pos h2] at h; cases h
      · rw [if_neg h2] at h
        have e := order_eq a b h
        have e2 : x = y := UInt8.le_antisymm (UInt8.not_lt.mp h2) (UInt8.not_lt.mp h1)
        rw [e, e2]
theorem order_trans : ∀ a b c : List UInt8, Builtin.Bytes.order a b = .lt → Builtin.Bytes.order b c = .lt → Builtin.Bytes.order a c = .lt
  | [], [], _, h, _ => by cases h
  | [], _ :: _, [], _, h => by cases h
  | [], _ :: _, _ :: _, _, _ => rfl
  | _ :: _, [], _, h, _ => by cases h
  | _ :: _, _ :: _, [], _, h => by cases h
  | x :: a, y :: b, z :: c, h, g => by
    simp only [Builtin.Bytes.order] at h g ⊢
    by_cases h1 : x < y
    · by_cases g1 : y < z
      · rw [if_pos (UInt8.lt_trans h1 g1)]
      · rw [if_neg g1] at g
        by_cases g2 : z < y
        · rw [if_pos g2] at g; cases g
        · have e : y = z := UInt8.le_antisymm (UInt8.not_lt.mp g2) (UInt8.not_lt.mp g1)
          rw [← e, if_pos h1]
    · rw [if_neg h1] at h
      by_cases h2 : y < x
      · rw [if_pos h2] at h; cases h
      · rw [if_neg h2] at h
        have e : x = y := UInt8.le_antisymm (UInt8.not_lt.mp h2) (UInt8.not_lt.mp h1)
        rw [e]
        by_cases g1 : y < z
        · rw [if_pos g1]
        · rw [if_neg g1] at g ⊢
          by_cases g2 : z < y
          · rw [if_pos g2] at g; cases g
          · rw [if_neg g2] at g ⊢
            exact order_trans a b c h g
theorem ltB_iff (a b : Array UInt8) : ltB a b = true ↔ Builtin.Bytes.order a.toList b.toList = .lt := by
  unfold ltB; cases Builtin.Bytes.order a.toList b.toList <;> decide
theorem ltB_irrefl (a : Array UInt8) : ltB a a = false := by unfold ltB; rw [order_refl]; rfl
theorem ltB_trans {a b c : Array UInt8} (h : ltB a b = true) (g : ltB b c = true) : ltB a c = true :=
  (ltB_iff _ _).mpr (order_trans _ _ _ ((ltB_iff _ _).mp h) ((ltB_iff _ _).mp g))
theorem ltB_asymm {a b : Array UInt8} (h : ltB a b = true) : ltB b a = false := by
  cases g : ltB b a with
  | false => rfl
  | true => have := ltB_trans h g; rw [ltB_irrefl] at this; cases this
theorem ltB_conn {a b : Array UInt8} (h : ltB a b = false) (g : ltB b a = false) : a = b := by
  apply Array.toList_inj.mp
  apply order_eq
  cases e : Builtin.Bytes.order a.toList b.toList with
  | eq => rfl
  | lt => unfold ltB at h; rw [e] at h; cases h
  | gt =>
    have := order_swap a.toList b.toList
    rw [e] at this
    unfold ltB at g
    rw [← this] at g
    cases g
theorem ltB_le_trans {a b c : Array UInt8} (h : ltB b a = false) (g : ltB c b = false) : ltB c a = false := by
  cases e : ltB c a with
  | false => rfl
  | true =>
    cases f : ltB a b with
    | true => have := ltB_trans e f; rw [this] at g; cases g
    | false => have := ltB_conn h f; rw [this, e] at g; cases g
theorem cmpI_lt (a b : IK) : cmpI a b < 0 ↔ ltB a.u b.u = true ∨ (a.u = b.u ∧ b.tag < a.tag) := by
  unfold cmpI
  by_cases h1 : ltB a.u b.u = true
  · simp [h1]
  · by_cases h2 : ltB b.u a.u = true
    · rw [if_neg h1, if_pos h2]
      have : a.u ≠ b.u := fun e => by rw [e, ltB_irrefl] at h2; cases h2
      simp [h1, this]
    · have e : a.u = b.u := ltB_conn (by simpa using h1) (by simpa using h2)
      rw [if_neg h1, if_neg h2]
      simp only [e, ltB_irrefl, true_and]
      split
      · simp_all
      · split <;> simp_all
theorem cmpI_eq (a b : IK) : cmpI a b = 0 ↔ a.u = b.u ∧ a.tag = b.tag := by
  unfold cmpI
  by_cases h1 : ltB a.u b.u = true
  · have : a.u ≠ b.u := fun e => by rw [e, ltB_irrefl] at h1; cases h1
    simp [h1, this]
  · by_cases h2 : ltB b.u a.u = true
    · rw [if_neg h1, if_pos h2]
      have : a.u ≠ b.u := fun e => by rw [e, ltB_irrefl] at h2; cases h2
      simp [this]
    · have e : a.u = b.u := ltB_conn (by simpa using h1) (by simpa using h2)
      rw [if_neg h1, if_neg h2]
      simp only [e, true_and]
      split
      · constructor <;> intro <;> omega
      · split
        · constructor <;> intro <;> omega
        · constructor <;> intro <;> omega
theorem cmpI_gt (a b : IK) : 0 < cmpI a b ↔ cmpI b a < 0 := by
  have h1 := cmpI_lt a b
  have h2 := cmpI_lt b a
  have h3 := cmpI_eq a b
  constructor
  · intro h
    rw [h2]
    by_cases e1 : ltB b.u a.u = true
    · exact .inl e1
    · right
      by_cases e2 : ltB a.u b.u = true
      · have := h1.mpr (.inl e2); omega
      · have e : a.u = b.u := ltB_conn (by simpa using e2) (by simpa using e1)
        refine ⟨e.symm, ?_⟩
        by_cases g1 : b.tag < a.tag
        · have := h1.mpr (.inr ⟨e, g1⟩); omega
        · by_cases g2 : a.tag = b.tag
          · have := h3.mpr ⟨e, g2⟩; omega
          · omega
  · intro h
    have h' := h2.mp h
    have n1 : ¬ cmpI a b < 0 := fun g => by
      rcases h1.mp g with g | ⟨g, g'⟩ <;> rcases h' with k | ⟨k, k'⟩
      · rw [ltB_asymm g] at k; cases k
      · rw [k, ltB_irrefl] at g; cases g
      · rw [g, ltB_irrefl] at k; cases k
      · omega
    have n2 : ¬ cmpI a b = 0 := fun g => by
      have g := h3.mp g
      rcases h' with k | ⟨k, k'⟩
      · rw [g.1, ltB_irrefl] at k; cases k
      · omega
    omega
theorem cmpI_self (a : IK) : cmpI a a = 0 := (cmpI_eq a a).mpr ⟨rfl, rfl⟩
theorem cmpI_le (a b : IK) : cmpI a b ≤ 0 ↔ ltB b.u a.u = false ∧ (a.u = b.u → b.tag ≤ a.tag) := by
  have h := cmpI_gt a b
  rw [cmpI_lt] at h
  have : cmpI a b ≤ 0 ↔ ¬ (ltB b.u a.u = true ∨ (b.u = a.u ∧ a.tag < b.tag)) := by rw [← h]; omega
  rw [this]
  simp only [not_or, Bool.not_eq_true, not_and, Int.not_lt]
  constructor
  · rintro ⟨x, y⟩; exact ⟨x, fun e => y e.symm⟩
  · rintro ⟨x, y⟩; exact ⟨x, fun e => y e.symm⟩
theorem cmpI_trans {a b c : IK} (h : cmpI a b ≤ 0) (g : cmpI b c ≤ 0) : cmpI a c ≤ 0 := by
  rw [cmpI_le] at h g ⊢
  refine ⟨ltB_le_trans h.1 g.1, fun e => ?_⟩
  have e1 : a.u = b.u := by
    refine ltB_conn ?_ h.1
    rw [e]; exact g.1
  have := h.2 e1
  have := g.2 (e1 ▸ e)
  omega
theorem cmpI_trans_lt {a b c : IK} (h : cmpI a b ≤ 0) (g : cmpI b c < 0) : cmpI a c < 0 := by
  rcases Int.lt_or_le (cmpI a c) 0 with k | k
  · exact k
  · exfalso
    have k2 : cmpI c a ≤ 0 := by have := cmpI_gt c a; omega
    have := cmpI_trans k2 h
    have := cmpI_gt c b
    omega
open PySem PySem.W PyProof.Rows
abbrev MZ := List (Row × Nat)
def Zord (a b : Row × Nat) : Prop := cmpI a.1.1 b.1.1 < 0 ∨ (cmpI a.1.1 b.1.1 = 0 ∧ a.2 ≤ b.2)
def rowsOf (Z : MZ) (k : Nat) : List Row := (Z.filter fun z => z.2 == k).map (·.1)
def cnt (Z : MZ) (k j : Nat) : Nat := (rowsOf (Z.take j) k).length
def befOf (n : Nat) : Option Nat := if n = 0 then none else some (n - 1)
theorem rowsOf_append (A B : MZ) (k : Nat) : rowsOf (A ++ B) k = rowsOf A k ++ rowsOf B k := by simp [rowsOf]
theorem rowsOf_split (Z : MZ) (k j : Nat) : rowsOf Z k = rowsOf (Z.take j) k ++ rowsOf (Z.drop j) k := by rw [← rowsOf_append, List.take_append_drop]
theorem mem_rowsOf {Z : MZ} {k : Nat} {x : Row} : x ∈ rowsOf Z k ↔ (x, k) ∈ Z := by
  unfold rowsOf
  simp only [List.mem_map, List.mem_filter, beq_iff_eq]
  constructor
  · rintro ⟨⟨y, b⟩, ⟨h, rfl⟩, rfl⟩; exact h
  · exact fun h => ⟨(x, k), ⟨h, rfl⟩, rfl⟩
theorem cnt_le (Z : MZ) (k j : Nat) : cnt Z k j ≤ (rowsOf Z k).length := by rw [rowsOf_split Z k j, List.length_append]; unfold cnt; omega
theorem key_fwd (Z : MZ) (k j : Nat) : ((placeOf (rowsOf Z k) (cnt Z k j)).bind fun i => ((rowsOf Z k)[i]?).map (·.1)) = ((rowsOf (Z.drop j) k).head?).map (·.1) := by
  have e : (rowsOf Z k)[cnt Z k j]? = (rowsOf (Z.drop j) k).head? := by
    rw [rowsOf_split Z k j, List.getElem?_append_right (by unfold cnt; exact Nat.le_refl _)]
    unfold cnt
    rw [Nat.sub_self, List.head?_eq_getElem?]
  unfold placeOf
  by_cases h : cnt Z k j < (rowsOf Z k).length
  · rw [if_pos h, Option.bind_some, e]
  · rw [if_neg h, Option.bind_none, ← e, List.getElem?_eq_none (Nat.le_of_not_lt h), Option.map_none]
theorem key_bwd (Z : MZ) (k j : Nat) : ((befOf (cnt Z k j)).bind fun i => ((rowsOf Z k)[i]?).map (·.1)) = ((rowsOf (Z.take j) k).getLast?).map (·.1) := by
  unfold befOf
  by_cases h : cnt Z k j = 0
  · rw [if_pos h, Option.bind_none]
    have : rowsOf (Z.take j) k = [] := List.eq_nil_of_length_eq_zero h
    rw [this]; rfl
  · rw [if_neg h, Option.bind_some]
    congr 1
    have hlt : cnt Z k j - 1 < (rowsOf (Z.take j) k).length := by unfold cnt at *; omega
    rw [rowsOf_split Z k j, List.getElem?_append_left hlt, List.getLast?_eq_getElem?]
    rfl
theorem leastTo_is {keys : List (Option IK)} {b : Nat} {e : IK} (hb : keyAt keys b = some e) (lo : ∀ i : Nat, i < b → ∀ f, keyAt keys i = some f → cmpI e f < 0) :
    ∀ n, b < n → (∀ i : Nat, b < i → i < n → ∀ f, keyAt keys i = some f → ¬ cmpI f e < 0) → leastTo keys n = b
  | 0, h, _ => absurd h (Nat.not_lt_zero _)
  | n + 1, h, hi => by
    rw [leastTo]
    by_cases e1 : b = n
    · subst e1
      rw [hb]
      simp only
      split
      · rfl
      · rename_i h0
        rcases leastTo_spec keys b with s | ⟨s1, s2, f, s3⟩
        · exact absurd s h0
        · rw [s3]
          simp only
          have : leastTo keys b = ((leastTo keys b).toNat : Int) := by omega
          rw [this] at s3
          rw [if_pos (lo _ (by omega) f s3)]
    · have ih := leastTo_is hb lo n (by omega) fun i h1 h2 => hi i h1 (by omega)
      cases he : keyAt keys (n : Int) with
      | none => exact ih
      | some f =>
        simp only
        rw [ih, if_neg (by omega), hb]
        simp only
        rw [if_neg (hi n (by omega) (by omega) f he)]
theorem leastTo_neg {keys : List (Option IK)} : ∀ n, (∀ i : Nat, i < n → keyAt keys i = none) → leastTo keys n = -1
  | 0, _ => rfl
  | n + 1, h => by
    rw [leastTo, h n (by omega)]
    exact leastTo_neg n fun i hi => h i (by omega)
theorem greatOf_spec2 (keys : List (Option IK)) : ∀ c, c ≤ keys.length → greatOf keys c < 0 ∨ (((keys.length - c : Nat) : Int) ≤ greatOf keys c ∧ ∃ f, keyAt keys (greatOf keys c) = some f)
  | 0, _ => .inl (by unfold greatOf; decide)
  | c + 1, hc => by
    have ih := greatOf_spec2 keys c (by omega)
    have up : greatOf keys c < 0 ∨ (((keys.length - (c + 1) : Nat) : Int) ≤ greatOf keys c ∧ ∃ f, keyAt keys (greatOf keys c) = some f) := by
      rcases ih with h | ⟨a, b⟩
      · exact .inl h
      · exact .inr ⟨by omega, b⟩
    unfold greatOf
    cases he : keyAt keys ((keys.length - (c + 1) : Nat) : Int) with
    | none => exact up
    | some e =>
      have here : ((keys.length - (c + 1) : Nat) : Int) < 0 ∨ (((keys.length - (c + 1) : Nat) : Int) ≤ ((keys.length - (c + 1) : Nat) : Int) ∧ ∃ f, keyAt keys ((keys.length - (c + 1) : Nat) : Int) = some f) := .inr ⟨by omega, e, he⟩
      simp only
      split
      · exact here
      · split
        · exact up
        · split
          · exact here
          · exact up
theorem greatOf_is {keys : List (Option IK)} {b : Nat} {e : IK} (hb : keyAt keys b = some e) (hi : ∀ i : Nat, b < i → ∀ f, keyAt keys i = some f → 0 < cmpI e f) :
    ∀ c, c ≤ keys.length → keys.length - c ≤ b → b < keys.length → (∀ i : Nat, i < b → keys.length - c ≤ i → ∀ f, keyAt keys i = some f → ¬ 0 < cmpI f e) → greatOf keys c = b
  | 0, _, h, h', _ => by omega
  | c + 1, hc, h, h', lo => by
    rw [greatOf]
    by_cases e1 : b = keys.length - (c + 1)
    · rw [← e1, hb]
      simp only
      split
      · rfl
      · rename_i h0
        rcases greatOf_spec2 keys c (by omega) with s | ⟨s1, f, s3⟩
        · exact absurd s h0
        · rw [s3]
          simp only
          have : greatOf keys c = ((greatOf keys c).toNat : Int) := by omega
          rw [this] at s3
          rw [if_pos (hi _ (by omega) f s3)]
    · have ih := greatOf_is hb hi c (by omega) (by omega) h' fun i h1 h2 => lo i h1 (by omega)
      cases he : keyAt keys ((keys.length - (c + 1) : Nat) : Int) with
      | none => exact ih
      | some f =>
        simp only
        rw [ih, if_neg (by omega), hb]
        simp only
        rw [if_neg (lo _ (by omega) (by omega) f he)]
theorem greatOf_neg {keys : List (Option IK)} (h : ∀ i : Nat, keyAt keys i = none) : ∀ c, greatOf keys c = -1
  | 0 => rfl
  | c + 1 => by
    rw [greatOf, h]
    exact greatOf_neg h c
theorem keyAt_of {keys : List (Option IK)} {n : Nat} {g : Nat → Option IK} (hn : keys.length = n) (hk : ∀ i, i < n → keys[i]? = some (g i)) (i : Nat) : keyAt keys (i : Int) = if i < n then g i else none := by
  rw [keyAt_nat]
  by_cases h : i < n
  · rw [if_pos h, hk i h]; rfl
  · rw [if_neg h, List.getElem?_eq_none (by omega)]; rfl
theorem fwd_least {keys : List (Option IK)} {n j : Nat} {Z : MZ} (hn : keys.length = n) (hk : ∀ i, i < n → keys[i]? = some (((rowsOf (Z.drop j) i).head?).map (·.1))) (hs : Z.Pairwise Zord) (hz : ∀ z ∈ Z, z.2 < n) :
    leastTo keys n = match Z[j]? with | none => -1 | some z => (z.2 : Int) := by
  have hat := keyAt_of hn hk
  cases hj : Z[j]? with
  | none =>
    have hd : Z.drop j = [] := List.drop_eq_nil_of_le (by have := List.getElem?_eq_none_iff.mp hj; omega)
    refine leastTo_neg n fun i hi => ?_
    rw [hat, if_pos hi, hd]; rfl
  | some z =>
    have hl := (List.getElem?_eq_some_iff.mp hj).1
    have hd : Z.drop j = z :: Z.drop (j + 1) := by rw [List.drop_eq_getElem_cons hl, (List.getElem?_eq_some_iff.mp hj).2]
    have hp : (z :: Z.drop (j + 1)).Pairwise Zord := hd ▸ hs.sublist (List.drop_sublist j Z)
    have hp1 := (List.pairwise_cons.mp hp).1
    have hself : rowsOf (Z.drop j) z.2 = z.1 :: rowsOf (Z.drop (j + 1)) z.2 := by
      rw [hd]; unfold rowsOf; simp
    have hoth : ∀ i, i ≠ z.2 → rowsOf (Z.drop j) i = rowsOf (Z.drop (j + 1)) i := fun i hi => by
      rw [hd]; unfold rowsOf; rw [List.filter_cons, if_neg (by simpa using fun e => hi e.symm)]
    have hz2 : z.2 < n := hz z (List.mem_of_getElem? hj)
    have hof : ∀ i f, i ≠ z.2 → keyAt keys (i : Int) = some f → ∃ y : Row × Nat, y ∈ Z.drop (j + 1) ∧ y.1.1 = f ∧ y.2 = i := fun i f hi hf => by
      rw [hat] at hf
      by_cases hin : i < n
      · rw [if_pos hin, hoth i hi] at hf
        obtain ⟨y, hy, rfl⟩ := Option.map_eq_some_iff.mp hf
        exact ⟨(y, i), mem_rowsOf.mp (List.mem_of_mem_head? hy), rfl, rfl⟩
      · rw [if_neg hin] at hf; cases hf
    show leastTo keys n = ((z.2 : Nat) : Int)
    refine leastTo_is (e := z.1.1) ?_ ?_ n hz2 ?_
    · rw [hat, if_pos hz2, hself]; rfl
    · intro i hi f hf
      obtain ⟨y, hy, rfl, rfl⟩ := hof i f (by omega) hf
      rcases hp1 y hy with h | ⟨_, h⟩
      · exact h
      · omega
    · intro i hi _ f hf
      obtain ⟨y, hy, rfl, rfl⟩ := hof i f (by omega) hf
      have := cmpI_gt z.1.1 y.1.1
      rcases hp1 y hy with h | ⟨h, _⟩ <;> omega
theorem bwd_great {keys : List (Option IK)} {n j : Nat} {Z : MZ} (hn : keys.length = n) (hk : ∀ i, i < n → keys[i]? = some (((rowsOf (Z.take j) i).getLast?).map (·.1))) (hs : Z.Pairwise Zord) (hz : ∀ z ∈ Z, z.2 < n) (hj : j ≤ Z.length) :
    greatOf keys n = match (befOf j).bind fun i => Z[i]? with | none => -1 | some z => (z.2 : Int) := by
  have hat := keyAt_of hn hk
  cases j with
  | zero =>
    refine greatOf_neg (fun i => ?_) n
    rw [hat, List.take_zero]; split <;> rfl
  | succ j =>
    have hl : j < Z.length := by omega
    obtain ⟨z, hj2⟩ : ∃ z, Z[j]? = some z := ⟨_, List.getElem?_eq_getElem hl⟩
    have hd : Z.take (j + 1) = Z.take j ++ [z] := by rw [List.take_add_one, hj2]; rfl
    have hp : (Z.take j ++ [z]).Pairwise Zord := hd ▸ hs.sublist (List.take_sublist (j + 1) Z)
    have hp1 : ∀ y ∈ Z.take j, Zord y z := fun y hy => (List.pairwise_append.mp hp).2.2 y hy z (.head _)
    have hself : rowsOf (Z.take (j + 1)) z.2 = rowsOf (Z.take j) z.2 ++ [z.1] := by
      rw [hd, rowsOf_append]; unfold rowsOf; simp
    have hoth : ∀ i, i ≠ z.2 → rowsOf (Z.take (j + 1)) i = rowsOf (Z.take j) i := fun i hi => by
      rw [hd, rowsOf_append]; unfold rowsOf
      have : ([z].filter fun z => z.2 == i) = [] := by simpa using fun e => hi e.symm
      rw [this]; simp
    have hz2 : z.2 < n := hz z (List.mem_of_getElem? hj2)
    have hof : ∀ i f, i ≠ z.2 → keyAt keys (i : Int) = some f → ∃ y : Row × Nat, y ∈ Z.take j ∧ y.1.1 = f ∧ y.2 = i := fun i f hi hf => by
      rw [hat] at hf
      by_cases hin : i < n
      · rw [if_pos hin, hoth i hi] at hf
        obtain ⟨y, hy, rfl⟩ := Option.map_eq_some_iff.mp hf
        exact ⟨(y, i), mem_rowsOf.mp (List.mem_of_getLast? hy), rfl, rfl⟩
      · rw [if_neg hin] at hf; cases hf
    have hb : (befOf (j + 1)).bind (fun i => Z[i]?) = some z := by
      unfold befOf; rw [if_neg (by omega), Option.bind_some, Nat.add_sub_cancel, hj2]
    rw [hb]
    show greatOf keys n = ((z.2 : Nat) : Int)
    refine greatOf_is (e := z.1.1) ?_ ?_ n (by omega) (by omega) (by omega) ?_
    · rw [hat, if_pos hz2, hself, List.getLast?_append]; rfl
    · intro i hi f hf
      obtain ⟨y, hy, rfl, rfl⟩ := hof i f (by omega) hf
      have := cmpI_gt z.1.1 y.1.1
      rcases hp1 y hy with h | ⟨_, h⟩ <;> omega
    · intro i hi _ f hf
      obtain ⟨y, hy, rfl, rfl⟩ := hof i f (by omega) hf
      rcases hp1 y hy with h | ⟨h, _⟩ <;> omega
theorem tw_split {α : Type} {p : α → Bool} {A B : List α} (ha : ∀ x ∈ A, p x = true) (hb : ∀ x ∈ B, p x = false) : (A ++ B).takeWhile p = A := by
  rw [List.takeWhile_append_of_pos ha]
  cases B with
  | nil => simp
  | cons b B => rw [List.takeWhile_cons, hb b (.head _)]; simp
theorem Zord.le {a b : Row × Nat} (h : Zord a b) : cmpI a.1.1 b.1.1 ≤ 0 := by rcases h with h | ⟨h, _⟩ <;> omega
theorem sorted_cut {Z : MZ} (hs : Z.Pairwise Zord) (e : IK) : ∃ j, j ≤ Z.length ∧ (∀ z ∈ Z.take j, cmpI z.1.1 e < 0) ∧ (∀ z ∈ Z.drop j, ¬ cmpI z.1.1 e < 0) := by
  induction Z with
  | nil => exact ⟨0, by simp⟩
  | cons z Z ih =>
    have h1 := List.pairwise_cons.mp hs
    by_cases hz : cmpI z.1.1 e < 0
    · obtain ⟨j, a, b, c⟩ := ih h1.2
      refine ⟨j + 1, by simpa using a, fun y hy => ?_, by simpa using c⟩
      rw [List.take_succ_cons] at hy
      rcases List.mem_cons.mp hy with rfl | hy
      · exact hz
      · exact b y hy
    · refine ⟨0, by simp, by simp, fun y hy => ?_⟩
      rcases List.mem_cons.mp hy with rfl | hy
      · exact hz
      · intro g
        exact hz (cmpI_trans_lt (h1.1 y hy).le g)
theorem ltLen_all {Z : MZ} {e : IK} {j : Nat} (ha : ∀ z ∈ Z.take j, cmpI z.1.1 e < 0) (hb : ∀ z ∈ Z.drop j, ¬ cmpI z.1.1 e < 0) (hj : j ≤ Z.length) : ltLen (Z.map (·.1)) e = j := by
  unfold ltLen
  rw [← List.take_append_drop j Z, List.map_append, tw_split]
  · rw [List.length_map, List.length_take]; omega
  · intro x hx
    obtain ⟨z, hz, rfl⟩ := List.mem_map.mp hx
    simpa using ha z hz
  · intro x hx
    obtain ⟨z, hz, rfl⟩ := List.mem_map.mp hx
    have := hb z hz
    simp only [decide_eq_false_iff_not]; exact this
theorem ltLen_of {Z : MZ} {e : IK} {j k : Nat} (ha : ∀ z ∈ Z.take j, z.2 = k → cmpI z.1.1 e < 0) (hb : ∀ z ∈ Z.drop j, z.2 = k → ¬ cmpI z.1.1 e < 0) : ltLen (rowsOf Z k) e = cnt Z k j := by
  unfold ltLen cnt
  rw [rowsOf_split Z k j, tw_split]
  · intro x hx
    simpa using ha (x, k) (mem_rowsOf.mp hx) rfl
  · intro x hx
    have := hb (x, k) (mem_rowsOf.mp hx) rfl
    simp only [decide_eq_false_iff_not]; exact this
theorem seek_kid {Z : MZ} (hs : Z.Pairwise Zord) (e : IK) (k : Nat) : ltLen (rowsOf Z k) e = cnt Z k (ltLen (Z.map (·.1)) e) := by
  obtain ⟨j, hj, a, b⟩ := sorted_cut hs e
  rw [ltLen_all a b hj]
  exact ltLen_of (fun z hz _ => a z hz) fun z hz _ => b z hz
theorem turn_later {Z : MZ} (hs : Z.Pairwise Zord) {j k : Nat} {z : Row × Nat} (hj : Z[j]? = some z) (hk : z.2 < k) : ltLen (rowsOf Z k) z.1.1 = cnt Z k j := by
  have hl := (List.getElem?_eq_some_iff.mp hj).1
  have hd : Z.drop j = z :: Z.drop (j + 1) := by rw [List.drop_eq_getElem_cons hl, (List.getElem?_eq_some_iff.mp hj).2]
  have hz : Z = Z.take j ++ z :: Z.drop (j + 1) := by rw [← hd, List.take_append_drop]
  rw [hz] at hs
  have hp := List.pairwise_append.mp hs
  have hp1 := (List.pairwise_cons.mp hp.2.1).1
  refine ltLen_of (fun y hy ey => ?_) fun y hy ey => ?_
  · have := hp.2.2 y hy z (.head _)
    rcases this with h | ⟨_, h⟩
    · exact h
    · exfalso; omega
  · rw [hd] at hy
    rcases List.mem_cons.mp hy with rfl | hy
    · omega
    · have := (hp1 y hy).le
      have := cmpI_gt z.1.1 y.1.1
      omega
theorem turn_earlier {Z : MZ} (hs : Z.Pairwise Zord) {j k : Nat} {z : Row × Nat} (hj : Z[j]? = some z) (hk : k < z.2) :
    ltLen (rowsOf Z k) z.1.1 + eqLen (rowsOf Z k) z.1.1 (ltLen (rowsOf Z k) z.1.1) = cnt Z k j := by
  have hl := (List.getElem?_eq_some_iff.mp hj).1
  have hd : Z.drop j = z :: Z.drop (j + 1) := by rw [List.drop_eq_getElem_cons hl, (List.getElem?_eq_some_iff.mp hj).2]
  have hz : Z = Z.take j ++ z :: Z.drop (j + 1) := by rw [← hd, List.take_append_drop]
  have hs0 := hs
  rw [hz] at hs
  have hp := List.pairwise_append.mp hs
  have hp1 := (List.pairwise_cons.mp hp.2.1).1
  obtain ⟨i, hi, a, b⟩ := sorted_cut hs0 z.1.1
  have e1 : ltLen (rowsOf Z k) z.1.1 = cnt Z k i := ltLen_of (fun y hy _ => a y hy) fun y hy _ => b y hy
  have hij : i ≤ j := by
    apply Nat.le_of_not_lt
    intro h
    have : z ∈ Z.take i := by
      rw [List.mem_take_iff_getElem]
      exact ⟨j, by omega, (List.getElem?_eq_some_iff.mp hj).2⟩
    have := a z this
    rw [cmpI_self] at this
    omega
  rw [e1]
  unfold eqLen cnt
  have e2 : (rowsOf Z k).drop (rowsOf (Z.take i) k).length = rowsOf (Z.drop i) k := by
    rw [rowsOf_split Z k i, List.drop_left]
  have e3 : Z.drop i = (Z.take j).drop i ++ Z.drop j := by
    rw [List.drop_take]
    have : Z.drop j = (Z.drop i).drop (j - i) := by rw [List.drop_drop]; congr 1; omega
    rw [this, List.take_append_drop]
  have e4 : Z.take j = Z.take i ++ (Z.take j).drop i := by
    have : Z.take i = (Z.take j).take i := by rw [List.take_take, Nat.min_eq_left hij]
    rw [this, List.take_append_drop]
  rw [e2, e3, rowsOf_append, tw_split]
  · conv => rhs; rw [e4]
    rw [rowsOf_append, List.length_append]
  · intro x hx
    have hm := mem_rowsOf.mp hx
    have h1 := (hp.2.2 (x, k) (List.mem_of_mem_drop hm) z (.head _)).le
    have h2 := b (x, k) (by rw [e3]; exact List.mem_append_left _ hm)
    simp only [decide_eq_true_eq]
    simp only at h1 h2
    omega
  · intro x hx
    have hm := mem_rowsOf.mp hx
    rw [hd] at hm
    simp only [decide_eq_false_iff_not]
    rcases List.mem_cons.mp hm with h | h
    · subst h; simp at hk
    · have h1 := hp1 _ h
      have := cmpI_gt x.1 z.1.1
      rcases h1 with h1 | ⟨_, h1⟩
      · simp only at h1; omega
      · simp only at h1; omega
theorem cnt_zero (Z : MZ) (k : Nat) : cnt Z k 0 = 0 := by simp [cnt, rowsOf]
theorem cnt_all (Z : MZ) (k j : Nat) (h : Z.length ≤ j) : cnt Z k j = (rowsOf Z k).length := by unfold cnt; rw [List.take_of_length_le h]
theorem cnt_succ_same {Z : MZ} {j : Nat} {z : Row × Nat} (hj : Z[j]? = some z) : cnt Z z.2 (j + 1) = cnt Z z.2 j + 1 := by
  have hd : Z.take (j + 1) = Z.take j ++ [z] := by rw [List.take_add_one, hj]; rfl
  unfold cnt; rw [hd, rowsOf_append, List.length_append]; simp [rowsOf]
theorem cnt_succ_other {Z : MZ} {j k : Nat} {z : Row × Nat} (hj : Z[j]? = some z) (hk : k ≠ z.2) : cnt Z k (j + 1) = cnt Z k j := by
  have hd : Z.take (j + 1) = Z.take j ++ [z] := by rw [List.take_add_one, hj]; rfl
  have : ([z].filter fun z => z.2 == k) = [] := by simpa using fun e => hk e.symm
  unfold cnt; rw [hd, rowsOf_append, List.length_append]; unfold rowsOf; rw [this]; simp
theorem row_at_cnt {Z : MZ} {j : Nat} {z : Row × Nat} (hj : Z[j]? = some z) : (rowsOf Z z.2)[cnt Z z.2 j]? = some z.1 := by
  have hl := (List.getElem?_eq_some_iff.mp hj).1
  have hd : Z.drop j = z :: Z.drop (j + 1) := by rw [List.drop_eq_getElem_cons hl, (List.getElem?_eq_some_iff.mp hj).2]
  rw [rowsOf_split Z z.2 j, List.getElem?_append_right (by unfold cnt; exact Nat.le_refl _)]
  unfold cnt
  rw [Nat.sub_self, hd]; unfold rowsOf; simp
open PySem PySem.W PyProof.Rows
set_option maxRecDepth 100000
set_option maxHeartbeats 8000000
/-! the leaves are cursors -/
def placeI (R : List Row) (p : Int) : Option Nat := if 0 ≤ p ∧ p < R.length then some p.toNat else none
inductive LeafI (rest : Led) (c : Addr) (R : List Row) (st : Option Nat) : Led → Bool → Prop
  | mk (dx o r : Addr) (vs : Array Value) (n2 : Nat) (q : LP) (p : Int) (t : Tok) (h3 : LeafIn rest c dx o r vs n2 R) (h4 : R.Pairwise (fun a b => cmpI a.1 b.1 ≤ 0)) (h5 : st = placeI R p) : LeafI rest c R st [(dx, LD q r o p t)] false
def LeafC : CurP := fun fp rest c kd R st => LeafI rest c R st fp kd
theorem placeI_some {R : List Row} {p : Int} {i : Nat} (h : some i = placeI R p) : 0 ≤ p ∧ p < R.length ∧ i = p.toNat := by
  unfold placeI at h
  split at h
  · rename_i g; cases h; exact ⟨g.1, g.2, rfl⟩
  · cases h
theorem cut_of {e : IK} : ∀ {R : List Row}, R.Pairwise (fun a b => cmpI a.1 b.1 ≤ 0) → ∀ (j : Nat) (x : Row), R[j]? = some x → (cmpI x.1 e < 0 ↔ j < (R.takeWhile fun x => decide (cmpI x.1 e < 0)).length)
  | [], _, j, x, h => by simp at h
  | a :: R, hp, j, x, h => by
    have h1 := List.pairwise_cons.mp hp
    rw [List.takeWhile_cons]
    by_cases ha : cmpI a.1 e < 0
    · simp only [ha, decide_true, if_true, List.length_cons]
      cases j with
      | zero => simp only [List.getElem?_cons_zero, Option.some.injEq] at h; subst h; simp [ha]
      | succ j => rw [List.getElem?_cons_succ] at h; rw [cut_of h1.2 j x h]; omega
    · simp only [ha, decide_false, Bool.false_eq_true, if_false, List.length_nil, Nat.not_lt_zero, iff_false]
      cases j with
      | zero => simp only [List.getElem?_cons_zero, Option.some.injEq] at h; subst h; exact ha
      | succ j =>
        rw [List.getElem?_cons_succ] at h
        exact fun g => ha (cmpI_trans_lt (h1.1 x (List.mem_of_getElem? h)) g)
section
set_option maxRecDepth 100000
set_option maxHeartbeats 8000000
theorem off_leaf {dx : Addr} {o : Obj} {E0 : Led} (h : Off [(dx, o)] E0) : ∀ p ∈ E0, p.1 ≠ dx := fun p hp => h _ (.head _) p hp
end
/-! a cursor whose own part hangs on a given rest -/
theorem leaf_spec (w : World) : CurSpec w 6 LeafC where
  mono := by
    intro fp rest rest' c kd R st hx1 hs
    obtain ⟨dx, o, r, vs, n2, q, p, t, h3, h4, h5⟩ := hx1
    exact .mk dx o r vs n2 q p t (h3.mono hs) h4 h5
  obj := by
    intro fp rest c kd R st hx2
    obtain ⟨dx, o, r, vs, n2, q, p, t, h3, h4, h5⟩ := hx2
    exact ⟨dx, _, _, h3.inst, .head _, fun mn => by cases mn <;> rfl⟩
  ok := by
    intro fp rest c kd R st hx3
    obtain ⟨dx, o, r, vs, n2, q, p, t, h3, h4, h5⟩ := hx3
    exact h3.ok
  size := by
    intro fp rest c kd R st hx4
    obtain ⟨dx, o, r, vs, n2, q, p, t, h3, h4, rfl⟩ := hx4
    refine ⟨by have := h3.small; omega, fun i hi => ?_⟩
    have := placeI_some hi.symm
    omega
  valid := by
    intro fp rest E0 c kd R st hx5 hs
    obtain ⟨dx, o, r, vs, n2, q, p, t, h3, h4, rfl⟩ := hx5
    refine ((lvalid_c (D := 0) (h3.mono hs)).deep (by decide)).post fun v fp' h => ⟨h.1.trans ?_, h.2⟩
    unfold placeI
    split
    · rename_i g; simp [g]
    · rename_i g; rw [Option.isSome_none]; congr 1; simpa using g
  key := by
    intro fp rest E0 c kd R i y hx6 hy hs
    obtain ⟨dx, o, r, vs, n2, q, p, t, h3, h4, h5⟩ := hx6
    obtain ⟨g1, g2, rfl⟩ := placeI_some h5
    exact (lkey_c (D := 0) (h3.mono hs) (Int.toNat_of_nonneg g1).symm hy).deep (by decide)
  value := by
    intro fp rest E0 c kd R i y hx7 hy hs
    obtain ⟨dx, o, r, vs, n2, q, p, t, h3, h4, h5⟩ := hx7
    obtain ⟨g1, g2, rfl⟩ := placeI_some h5
    exact (lvalue_c (D := 0) (h3.mono hs) (Int.toNat_of_nonneg g1).symm hy).deep (by decide)
  first := by
    intro fp rest E0 c kd R st hx8 hs hoff
    obtain ⟨dx, o, r, vs, n2, q, p, t, h3, h4, h5⟩ := hx8
    refine ((lfirst_c (D := 0) (h3.mono hs) (off_leaf hoff)).deep (by decide)).post fun v fp' h => ?_
    obtain ⟨t'⟩ := h
    refine ⟨rfl, rfl, .mk dx o r vs n2 q 0 t' h3 h4 ?_⟩
    unfold firstAt placeI
    cases R <;> simp
  last := by
    intro fp rest E0 c kd R st hx9 hs hoff
    obtain ⟨dx, o, r, vs, n2, q, p, t, h3, h4, h5⟩ := hx9
    refine ((llast_c (D := 0) (h3.mono hs) (off_leaf hoff)).deep (by decide)).post fun v fp' h => ?_
    obtain ⟨t'⟩ := h
    refine ⟨rfl, rfl, .mk dx o r vs n2 q _ t' h3 h4 ?_⟩
    unfold lastAt placeI
    cases R with
    | nil => simp
    | cons y R => rw [if_neg (by simp), if_pos (by simp only [List.length_cons]; omega)]; congr 1; omega
  seek := by
    intro fp rest E0 c kd R st e te hx10 hs hoff he
    obtain ⟨dx, o, r, vs, n2, q, p, t, h3, h4, h5⟩ := hx10
    refine (lseek_c (D := 0) (h3.mono hs) (off_leaf hoff) he (ltLen_le R e) (cut_of h4)).post fun v fp' h => ?_
    obtain ⟨t'⟩ := h
    refine ⟨rfl, rfl, .mk dx o r vs n2 q _ t' h3 h4 ?_⟩
    rw [seekAt_eq]
    unfold placeOf placeI
    by_cases g : ltLen R e < R.length
    · rw [if_pos g, if_pos (by omega)]; rfl
    · rw [if_neg g, if_neg (by omega)]
  step := by
    intro fp rest E0 c kd R i hx11 hs hoff
    obtain ⟨dx, o, r, vs, n2, q, p, t, h3, h4, h5⟩ := hx11
    obtain ⟨g1, g2, rfl⟩ := placeI_some h5
    refine ((lstep_c (D := 0) (h3.mono hs) (off_leaf hoff) g1 g2).deep (by decide)).post fun v fp' h => ?_
    obtain ⟨t'⟩ := h
    refine ⟨rfl, rfl, .mk dx o r vs n2 q _ t' h3 h4 ?_⟩
    unfold nextAt placeI
    by_cases g : p.toNat + 1 < R.length
    · rw [if_pos g, if_pos (by omega)]; congr 1; omega
    · rw [if_neg g, if_neg (by omega)]
  back := by
    intro fp rest E0 c kd R i hx12 hs hoff
    obtain ⟨dx, o, r, vs, n2, q, p, t, h3, h4, h5⟩ := hx12
    obtain ⟨g1, g2, rfl⟩ := placeI_some h5
    refine ((lback_c (D := 0) (h3.mono hs) (off_leaf hoff) g1 g2).deep (by decide)).post fun v fp' h => ?_
    obtain ⟨t'⟩ := h
    refine ⟨rfl, rfl, .mk dx o r vs n2 q _ t' h3 h4 ?_⟩
    unfold prevAt placeI
    by_cases g : p.toNat = 0
    · rw [if_pos g, if_neg (by omega)]
    · rw [if_neg g, if_pos (by omega)]; congr 1; omega
open PySem PySem.W PyProof.Rows
/-! a merge of cursors is a cursor -/
structure MShape (C : CurP) (rest : Led) (x dx ch tp o : Addr) (cv : Array Value) (nc : Nat) (tops : Array Value) (ks : List KS) (Z : MZ) : Prop where
  inst : (x, instObj 506 dx) ∈ rest
  lst : (ch, listOf cv nc) ∈ rest
  ord : OrdIn rest o
  hcl : cv.size = ks.length
  hcv : ∀ (i : Nat) k, ks[i]? = some k → cv[i]? = some (.ref k.c)
  hts : tops.size = ks.length
  hn : ks.length ≤ 1000
  cur : ∀ k ∈ ks, C k.fp rest k.c k.kd k.R k.st
  apart : ks.Pairwise fun a b => Off a.fp b.fp
  offx : ∀ p ∈ kfps ks, p.1 ≠ dx ∧ p.1 ≠ tp
  off3 : @Ne Nat dx tp
  sorted : Z.Pairwise Zord
  src : ∀ z ∈ Z, z.2 < ks.length
  rows : ∀ (i : Nat) k, ks[i]? = some k → k.R = rowsOf Z i
  small : Z.length ≤ 100000
def MPlace (ks : List KS) (Z : MZ) (tops : Array Value) (cur going : Int) (st : Option Nat) : Prop :=
  match st with
  | none => cur = -1
  | some j => ∃ z, Z[j]? = some z ∧ cur = z.2 ∧ TopsAre tops (ks.map KS.key) ∧
      ((going = 0 ∧ ∀ (i : Nat) k, ks[i]? = some k → k.st = placeOf k.R (cnt Z i j)) ∨ (going = 1 ∧ ∀ (i : Nat) k, ks[i]? = some k → k.st = befOf (cnt Z i (j + 1))))
inductive MergeI (C : CurP) (rest : Led) (x : Addr) (st : Option Nat) : Led → Bool → List Row → Prop
  | mk (dx ch tp o : Addr) (q : MP) (cv : Array Value) (nc : Nat) (tops : Array Value) (nt : Nat) (ks : List KS) (Z : MZ) (cur : Int) (tc : Tok) (going : Int) (tg : Tok) (h : MShape C rest x dx ch tp o cv nc tops ks Z) (hp : MPlace ks Z tops cur going st) :
    MergeI C rest x st ((dx, MD q ch tp o cur tc going tg) :: (tp, listOf tops nt) :: kfps ks) true (Z.map (·.1))
def MergeC (C : CurP) : CurP := fun fp rest x kd R st => MergeI C rest x st fp kd R
theorem MShape.mono {w : World} {D : Nat} {C : CurP} (S : CurSpec w D C) {rest rest' : Led} {x dx ch tp o : Addr} {cv : Array Value} {nc : Nat} {tops : Array Value} {ks : List KS} {Z : MZ} (h : MShape C rest x dx ch tp o cv nc tops ks Z) (hs : ∀ p ∈ rest, p ∈ rest') : MShape C rest' x dx ch tp o cv nc tops ks Z :=
  { h with inst := hs _ h.inst, lst := hs _ h.lst, ord := h.ord.mono hs, cur := fun k hk => S.mono (h.cur k hk) hs }
theorem MShape.kids {C : CurP} {rest E0 : Led} {x dx ch tp o : Addr} {cv : Array Value} {nc : Nat} {tops : Array Value} {ks : List KS} {Z : MZ} {a b : Addr × Obj} (h : MShape C rest x dx ch tp o cv nc tops ks Z) (hs : ∀ p ∈ rest, p ∈ E0) (ho : Off (a :: b :: kfps ks) E0) : KidsIn (FixC C rest) E0 ks :=
  ⟨fun k hk => ⟨h.cur k hk, hs⟩, fun k hk p hp q hq => ho p (.tail _ (.tail _ (mem_kfps hk p hp))) q hq, h.apart⟩
theorem MShape.offs {C : CurP} {rest E0 : Led} {x dx ch tp o : Addr} {cv : Array Value} {nc : Nat} {tops : Array Value} {ks : List KS} {Z : MZ} {a b : Obj} (h : MShape C rest x dx ch tp o cv nc tops ks Z) (ho : Off ((dx, a) :: (tp, b) :: kfps ks) E0) : ∀ p ∈ kfps ks ++ E0, p.1 ≠ dx ∧ p.1 ≠ tp := fun p hp => by
  rcases List.mem_append.mp hp with g | g
  · exact h.offx p g
  · exact ⟨ho _ (.head _) p g, ho _ (.tail _ (.head _)) p g⟩
theorem Moved.same {f : Nat → KS → Option Nat} {ks ks' : List KS} (h : Moved f ks ks') {i : Nat} {k' : KS} (hk : ks'[i]? = some k') : ∃ k, ks[i]? = some k ∧ k'.c = k.c ∧ k'.R = k.R ∧ k'.st = f i k ∧ sameAdr k'.fp k.fp := by
  have hl : i < ks.length := by rw [← h.len]; exact (List.getElem?_eq_some_iff.mp hk).1
  obtain ⟨fp', a, b⟩ := h.at_ i _ (List.getElem?_eq_getElem hl)
  rw [hk] at a
  have e := Option.some.inj a
  exact ⟨_, List.getElem?_eq_getElem hl, by rw [e], by rw [e], by rw [e], by rw [e]; exact b⟩
theorem MShape.moved {C : CurP} {rest E0 : Led} {x dx ch tp o : Addr} {cv : Array Value} {nc : Nat} {tops tops' : Array Value} {ks ks' : List KS} {Z : MZ} {f : Nat → KS → Option Nat} (h : MShape C rest x dx ch tp o cv nc tops ks Z) (mv : Moved f ks ks') (K : KidsIn (FixC C rest) E0 ks') (ht : TopsAre tops' (ks'.map KS.key)) :
    MShape C rest x dx ch tp o cv nc tops' ks' Z where
  inst := h.inst
  lst := h.lst
  ord := h.ord
  hcl := h.hcl.trans mv.len.symm
  hcv := fun i k hk => by obtain ⟨k0, a, b, _⟩ := mv.same hk; rw [b]; exact h.hcv i k0 a
  hts := by have := ht.1; rwa [List.length_map] at this
  hn := by rw [mv.len]; exact h.hn
  cur := fun k hk => (K.cur k hk).1
  apart := K.apart
  offx := fun p hp => by obtain ⟨p', hp', e⟩ := mv.adr p hp; rw [← e]; exact h.offx p' hp'
  off3 := h.off3
  sorted := h.sorted
  src := fun z hz => by rw [mv.len]; exact h.src z hz
  rows := fun i k hk => by obtain ⟨k0, a, _, b, _⟩ := mv.same hk; rw [b]; exact h.rows i k0 a
  small := h.small
theorem sameAdr_kfps : ∀ {ks ks' : List KS}, ks'.length = ks.length → (∀ (i : Nat) k k', ks[i]? = some k → ks'[i]? = some k' → sameAdr k'.fp k.fp) → sameAdr (kfps ks') (kfps ks)
  | [], [], _, _ => rfl
  | [], _ :: _, h, _ => by simp at h
  | _ :: _, [], h, _ => by simp at h
  | a :: ks, b :: ks', h, g => by
    have ih := sameAdr_kfps (ks := ks) (ks' := ks') (by simpa using h) fun i k k' h1 h2 => g (i + 1) k k' h1 h2
    have h0 := g 0 a b rfl rfl
    unfold sameAdr kfps at *
    simp only [List.flatMap_cons, List.map_append]
    rw [h0, ih]
theorem Moved.adrs {f : Nat → KS → Option Nat} {ks ks' : List KS} (h : Moved f ks ks') : sameAdr (kfps ks') (kfps ks) :=
  sameAdr_kfps h.len fun i k k' h1 h2 => by
    obtain ⟨k0, a, _, _, _, b⟩ := h.same h2
    rw [h1] at a; cases a; exact b
theorem key_of {ks : List KS} {i : Nat} {k : KS} (h : ks[i]? = some k) : (ks.map KS.key)[i]? = some (k.st.bind fun j => (k.R[j]?).map (·.1)) := by rw [List.getElem?_map, h]; rfl
theorem place_fwd {C : CurP} {rest : Led} {x dx ch tp o : Addr} {cv : Array Value} {nc : Nat} {tops : Array Value} {ks : List KS} {Z : MZ} (h : MShape C rest x dx ch tp o cv nc tops ks Z) (ht : TopsAre tops (ks.map KS.key)) {j : Nat}
    (hp : ∀ (i : Nat) k, ks[i]? = some k → k.st = placeOf k.R (cnt Z i j)) : MPlace ks Z tops (leastTo (ks.map KS.key) (ks.map KS.key).length) 0 (placeOf (Z.map (·.1)) j) := by
  have hl := fwd_least (keys := ks.map KS.key) (n := (ks.map KS.key).length) (j := j) rfl (fun i hi => by
    rw [List.length_map] at hi
    have hk := List.getElem?_eq_getElem hi
    rw [key_of hk, hp i _ hk, h.rows i _ hk, key_fwd]) h.sorted (by rw [List.length_map]; exact h.src)
  rw [hl]
  unfold placeOf
  rw [List.length_map]
  by_cases g : j < Z.length
  · rw [if_pos g]
    have hz := List.getElem?_eq_getElem g
    exact ⟨Z[j], hz, by rw [hz], ht, .inl ⟨rfl, hp⟩⟩
  · rw [if_neg g, List.getElem?_eq_none (by omega)]
    rfl
theorem place_bwd {C : CurP} {rest : Led} {x dx ch tp o : Addr} {cv : Array Value} {nc : Nat} {tops : Array Value} {ks : List KS} {Z : MZ} (h : MShape C rest x dx ch tp o cv nc tops ks Z) (ht : TopsAre tops (ks.map KS.key)) {j : Nat} (hj : j ≤ Z.length)
    (hp : ∀ (i : Nat) k, ks[i]? = some k → k.st = befOf (cnt Z i j)) : MPlace ks Z tops (greatOf (ks.map KS.key) (ks.map KS.key).length) 1 (befOf j) := by
  have hl := bwd_great (keys := ks.map KS.key) (n := (ks.map KS.key).length) (j := j) rfl (fun i hi => by
    rw [List.length_map] at hi
    have hk := List.getElem?_eq_getElem hi
    rw [key_of hk, hp i _ hk, h.rows i _ hk, key_bwd]) h.sorted (by rw [List.length_map]; exact h.src) hj
  rw [hl]
  unfold befOf
  by_cases g : j = 0
  · rw [if_pos g]; rfl
  · rw [if_neg g]
    have hz := List.getElem?_eq_getElem (l := Z) (i := j - 1) (by omega)
    refine ⟨Z[j - 1], hz, by rw [Option.bind_some, hz], ht, .inr ⟨rfl, ?_⟩⟩
    rw [Nat.sub_add_cancel (by omega)]; exact hp
theorem firstAt_eq (R : List Row) : firstAt R = placeOf R 0 := by
  unfold firstAt placeOf; cases R <;> simp
theorem lastAt_eq (R : List Row) : lastAt R = befOf R.length := by
  unfold lastAt befOf; cases R <;> simp
theorem prevAt_eq (i : Nat) : prevAt i = befOf i := rfl
theorem backOf_eq (R : List Row) {n : Nat} (h : n ≤ R.length) : backOf R (placeOf R n) = befOf n := by
  unfold placeOf
  by_cases g : n < R.length
  · rw [if_pos g]; rfl
  · rw [if_neg g]
    have : n = R.length := by omega
    rw [this]; exact lastAt_eq R
section
set_option maxRecDepth 100000
set_option maxHeartbeats 8000000
variable {w : World} {D : Nat} {C : CurP}
theorem merge_made {rest E0 : Led} {x dx ch tp o : Addr} {cv : Array Value} {nc nt : Nat} {tops tops' : Array Value} {ks ks' : List KS} {Z : MZ} {f : Nat → KS → Option Nat} {q : MP} {cur going cur' going' : Int} {tc tg tc' tg' : Tok} {st' : Option Nat}
    (h : MShape C rest x dx ch tp o cv nc tops ks Z) (mv : Moved f ks ks') (K : KidsIn (FixC C rest) E0 ks') (ht : TopsAre tops' (ks'.map KS.key)) (hp : MShape C rest x dx ch tp o cv nc tops' ks' Z → MPlace ks' Z tops' cur' going' st') :
    sameAdr ((dx, MD q ch tp o cur' tc' going' tg') :: (tp, listOf tops' nt) :: kfps ks') ((dx, MD q ch tp o cur tc going tg) :: (tp, listOf tops nt) :: kfps ks) ∧
    MergeC C ((dx, MD q ch tp o cur' tc' going' tg') :: (tp, listOf tops' nt) :: kfps ks') rest x true (Z.map (·.1)) st' := by
  have h' := h.moved mv K ht
  refine ⟨?_, .mk dx ch tp o q cv nc tops' nt ks' Z cur' tc' going' tg' h' (hp h')⟩
  have := mv.adrs
  unfold sameAdr at *
  simp only [List.map_cons, this]
theorem at_kid {rest : Led} {x dx ch tp o : Addr} {cv : Array Value} {nc : Nat} {tops : Array Value} {ks : List KS} {Z : MZ} (h : MShape C rest x dx ch tp o cv nc tops ks Z) {j : Nat} {z : Row × Nat} (hz : Z[j]? = some z) :
    ∃ ka, ks[z.2]? = some ka ∧ ka.R = rowsOf Z z.2 ∧ ka.R[cnt Z z.2 j]? = some z.1 := by
  have hl := h.src z (List.mem_of_getElem? hz)
  have hk := List.getElem?_eq_getElem hl
  exact ⟨_, hk, h.rows _ _ hk, by rw [h.rows _ _ hk]; exact row_at_cnt hz⟩
theorem Calls.wide {f : Addr} {args : List Value} {a : Addr × Obj} {fp2 rest : Led} {P : Value → Prop} (h : Calls w D f args [a] (fp2 ++ rest) fun r fp' => P r ∧ fp' = [a]) : Calls w D f args (a :: fp2) rest fun r fp' => P r ∧ fp' = a :: fp2 := fun dp un gd cn cs ad ccd cl outer A₀ base h₀ L m mg mb mean s Q E B F X N T hk hd hu k =>
  h dp un gd cn cs ad ccd cl outer A₀ base h₀ L m mg mb mean s Q E B F X N T hk hd hu fun r fp' h' tk' F' N' p => by
    obtain ⟨hp, rfl⟩ := p
    exact k r (a :: fp2) h' tk' F' N' ⟨hp, rfl⟩
theorem MShape.me {rest E0 : Led} {x dx ch tp o : Addr} {q : MP} {cv : Array Value} {nc nt : Nat} {tops : Array Value} {ks : List KS} {Z : MZ} {a b : Obj} (h : MShape C rest x dx ch tp o cv nc tops ks Z) (hs : ∀ p ∈ rest, p ∈ E0) (ho : Off ((dx, a) :: (tp, b) :: kfps ks) E0) : Me ⟨q, x, dx, ch, tp, o, cv, nc, nt⟩ rest E0 :=
  ⟨hs _ h.inst, hs _ h.lst, h.ord.mono hs, h.off3, fun p hp => h.offs ho p (List.mem_append_right _ hp), hs⟩
theorem MShape.kd {rest E0 : Led} {x dx ch tp o : Addr} {q : MP} {cv : Array Value} {nc nt : Nat} {tops : Array Value} {ks : List KS} {Z : MZ} {a b : Obj} (h : MShape C rest x dx ch tp o cv nc tops ks Z) (hs : ∀ p ∈ rest, p ∈ E0) (ho : Off ((dx, a) :: (tp, b) :: kfps ks) E0) : Kd C rest ⟨q, x, dx, ch, tp, o, cv, nc, nt⟩ E0 ks :=
  ⟨h.kids hs ho, h.hcl, h.hcv, h.offx, h.hn⟩
theorem at_place {rest : Led} {x dx ch tp o : Addr} {cv : Array Value} {nc : Nat} {tops : Array Value} {ks : List KS} {Z : MZ} {going : Int} (h : MShape C rest x dx ch tp o cv nc tops ks Z) {j : Nat} {z : Row × Nat} (hz : Z[j]? = some z)
    (hg : (going = 0 ∧ ∀ (i : Nat) k, ks[i]? = some k → k.st = placeOf k.R (cnt Z i j)) ∨ (going = 1 ∧ ∀ (i : Nat) k, ks[i]? = some k → k.st = befOf (cnt Z i (j + 1)))) : ∃ ka, ks[z.2]? = some ka ∧ ka.R = rowsOf Z z.2 ∧ ka.R[cnt Z z.2 j]? = some z.1 ∧ ka.st = some (cnt Z z.2 j) := by
  obtain ⟨ka, hka, hR, hat⟩ := at_kid h hz
  refine ⟨ka, hka, hR, hat, ?_⟩
  rcases hg with ⟨_, g⟩ | ⟨_, g⟩
  · rw [g _ _ hka, placeOf_lt (List.getElem?_eq_some_iff.mp hat).1]
  · rw [g _ _ hka, cnt_succ_same hz]; rfl
theorem Moved.comp {ks ks1 ks' : List KS} {g f h : Nat → KS → Option Nat} (m1 : Moved g ks ks1) (m2 : Moved f ks1 ks') (e : ∀ (i : Nat) k fp', ks[i]? = some k → f i { k with fp := fp', st := g i k } = h i k) : Moved h ks ks' := by
  refine ⟨m2.len.trans m1.len, fun i k0 hk0 => ?_⟩
  obtain ⟨fp1, a1, b1⟩ := m1.at_ i k0 hk0
  obtain ⟨fp2, a2, b2⟩ := m2.at_ i _ a1
  exact ⟨fp2, by rw [a2, ← e i k0 fp1 hk0], b2.trans b1⟩
theorem merge_spec (S : CurSpec w D C) : CurSpec w (D + 16) (MergeC C) where
  mono := by
    intro fp rest rest' x kd R st hx1 hs
    obtain ⟨dx, ch, tp, o, q, cv, nc, tops, nt, ks, Z, cur, tc, going, tg, h3, h5⟩ := hx1
    exact .mk dx ch tp o q cv nc tops nt ks Z cur tc going tg (h3.mono S hs) h5
  obj := by
    intro fp rest x kd R st hx2
    obtain ⟨dx, ch, tp, o, q, cv, nc, tops, nt, ks, Z, cur, tc, going, tg, h3, h5⟩ := hx2
    exact ⟨dx, _, _, h3.inst, .head _, fun mn => by cases mn <;> rfl⟩
  ok := by
    intro fp rest x kd R st hx3 y hy
    obtain ⟨dx, ch, tp, o, q, cv, nc, tops, nt, ks, Z, cur, tc, going, tg, h3, h5⟩ := hx3
    obtain ⟨z, hz, rfl⟩ := List.mem_map.mp hy
    have hk := List.getElem?_eq_getElem (h3.src z hz)
    have := S.ok (h3.cur _ (List.mem_of_getElem? hk)) z.1
    rw [h3.rows _ _ hk] at this
    exact this (mem_rowsOf.mpr hz)
  size := by
    intro fp rest x kd R st hx4
    obtain ⟨dx, ch, tp, o, q, cv, nc, tops, nt, ks, Z, cur, tc, going, tg, h3, h5⟩ := hx4
    rw [List.length_map]
    refine ⟨h3.small, fun i hi => ?_⟩
    subst hi
    obtain ⟨z, hz, _⟩ := h5
    exact (List.getElem?_eq_some_iff.mp hz).1
  valid := by
    intro fp rest E0 x kd R st hx5 hs
    obtain ⟨dx, ch, tp, o, q, cv, nc, tops, nt, ks, Z, cur, tc, going, tg, h3, h5⟩ := hx5
    refine (((mvalid_c (D := 0) (T := ((tp, listOf tops nt) :: kfps ks) ++ E0) (.tail _ (List.mem_append_right _ (hs _ h3.inst)))).wide).deep (by omega)).post fun r fp' h => ⟨h.1.trans ?_, h.2⟩
    cases st with
    | none => have : cur = -1 := h5; rw [this]; rfl
    | some j => obtain ⟨z, _, e, _⟩ := h5; rw [e]; simp
  key := by
    intro fp rest E0 x kd R j y hx6 hy hs
    obtain ⟨dx, ch, tp, o, q, cv, nc, tops, nt, ks, Z, cur, tc, going, tg, h3, z, hz, rfl, ht, hg⟩ := hx6
    obtain ⟨ka, hka, hR, hat, hst⟩ := at_place h3 hz hg
    have hl := (List.getElem?_eq_some_iff.mp hka).1
    have hn := h3.hn
    have hy2 : y = z.1 := by rw [List.getElem?_map, hz] at hy; exact (Option.some.inj hy).symm
    obtain ⟨hkey, te, htv⟩ := top_at hka hst hat ht
    refine (((mkey_c (D := 0) (cur := ((z.2 : Nat) : Int)) (T := ((tp, listOf tops nt) :: kfps ks) ++ E0) (.tail _ (List.mem_append_right _ (hs _ h3.inst))) (.head _) (by omega) (by omega) htv).wide).deep (by omega)).post fun r fp' h => ⟨⟨te, by rw [hy2]; exact h.1⟩, h.2⟩
  value := by
    intro fp rest E0 x kd R j y hx7 hy hs
    obtain ⟨dx, ch, tp, o, q, cv, nc, tops, nt, ks, Z, cur, tc, going, tg, h3, z, hz, rfl, ht, hg⟩ := hx7
    obtain ⟨ka, hka, hR, hat, hst⟩ := at_place h3 hz hg
    have hl := (List.getElem?_eq_some_iff.mp hka).1
    have hn := h3.hn
    have hy2 : y = z.1 := by rw [List.getElem?_map, hz] at hy; exact (Option.some.inj hy).symm
    have hmem := List.mem_of_getElem? hka
    have hC := h3.cur ka hmem
    rw [hst] at hC
    refine (((mvalue_c (D := D) (cur := ((z.2 : Nat) : Int)) (T := ((tp, listOf tops nt) :: kfps ks) ++ E0) S hC (fun p hp => ?_) hat (.tail _ (List.mem_append_right _ (hs _ h3.inst))) (.tail _ (List.mem_append_right _ (hs _ h3.lst))) (by omega) (by omega) (h3.hcv _ _ hka)).wide).deep (by omega)).post fun r fp' h => ⟨by rw [hy2]; exact h.1, h.2⟩
    rcases List.mem_append.mp hp with h | h
    · exact .tail _ (List.mem_append_left _ (mem_kfps hmem p h))
    · exact .tail _ (List.mem_append_right _ (hs p h))
  first := by
    intro fp rest E0 x kd R st hx8 hs hoff
    obtain ⟨dx, ch, tp, o, q, cv, nc, tops, nt, ks, Z, cur, tc, going, tg, h3, h5⟩ := hx8
    refine ((mfirst_c S (h3.me (q := q) (nt := nt) hs hoff) (h3.kd hs hoff) h3.hts).deep (by omega)).post fun r fp' h => ?_
    obtain ⟨t, t2, tops', ks', K', mv, ht⟩ := h
    refine ⟨rfl, ?_⟩
    rw [firstAt_eq]
    refine merge_made h3 mv K'.kids ht fun h' => place_fwd h' ht fun i k' hk' => ?_
    obtain ⟨k0, a, _, b, c, _⟩ := mv.same hk'
    rw [c, b, cnt_zero, firstAt_eq]
  last := by
    intro fp rest E0 x kd R st hx9 hs hoff
    obtain ⟨dx, ch, tp, o, q, cv, nc, tops, nt, ks, Z, cur, tc, going, tg, h3, h5⟩ := hx9
    refine ((mlast_c S (h3.me (q := q) (nt := nt) hs hoff) (h3.kd hs hoff) h3.hts).deep (by omega)).post fun r fp' h => ?_
    obtain ⟨t, t2, tops', ks', K', mv, ht⟩ := h
    refine ⟨rfl, ?_⟩
    have e9 : (Z.map (·.1)).length = Z.length := List.length_map _
    rw [lastAt_eq, e9]
    refine merge_made h3 mv K'.kids ht fun h' => place_bwd h' ht (Nat.le_refl _) fun i k' hk' => ?_
    obtain ⟨k0, a, _, b, c, _⟩ := mv.same hk'
    rw [c, cnt_all _ _ _ (Nat.le_refl _), lastAt_eq, h3.rows _ _ a]
  seek := by
    intro fp rest E0 x kd R st e te hx10 hs hoff he
    obtain ⟨dx, ch, tp, o, q, cv, nc, tops, nt, ks, Z, cur, tc, going, tg, h3, h5⟩ := hx10
    refine ((mseek_c S (h3.me (q := q) (nt := nt) hs hoff) (h3.kd hs hoff) h3.hts he).deep (by omega)).post fun r fp' h => ?_
    obtain ⟨t, t2, tops', ks', K', mv, ht⟩ := h
    refine ⟨rfl, ?_⟩
    rw [seekAt_eq]
    refine merge_made h3 mv K'.kids ht fun h' => place_fwd h' ht fun i k' hk' => ?_
    obtain ⟨k0, a, _, b, c, _⟩ := mv.same hk'
    rw [c, b, seekAt_eq, h3.rows _ _ a, seek_kid h3.sorted]
  step := by
    intro fp rest E0 x kd R j hx11 hs hoff
    obtain ⟨dx, ch, tp, o, q, cv, nc, tops, nt, ks, Z, cur, tc, going, tg, h3, z, hz, rfl, ht0, hg⟩ := hx11
    obtain ⟨ka, hka, hR, hat, hst⟩ := at_place h3 hz hg
    refine ((mstep_c S (h3.me (q := q) (nt := nt) hs hoff) (h3.kd hs hoff) hka hst hat ht0 (hg.elim (fun h => .inl h.1) fun h => .inr h.1)).deep (by omega)).post fun r fp' h => ?_
    obtain ⟨t, t2, tops', ks1, ks', K', mv1, mv, ht⟩ := h
    refine ⟨rfl, ?_⟩
    rw [nextAt_eq]
    have mv2 : Moved (fun i k => placeOf k.R (cnt Z i (j + 1))) ks ks' := mv1.comp mv fun i k fp' hk => by
      by_cases e : i = z.2
      · subst e
        rw [hka] at hk; cases hk
        rw [if_pos rfl, nextAt_eq, cnt_succ_same hz]
      · rw [if_neg e, cnt_succ_other hz e]
        show fwdG going z.2 z.1.1 i k = _
        rcases hg with ⟨rfl, g⟩ | ⟨rfl, g⟩
        · exact g _ _ hk
        · show (if i = z.2 then k.st else if i < z.2 then afterAt k.R z.1.1 else seekAt k.R z.1.1) = _
          rw [if_neg e]
          have hr := h3.rows _ _ hk
          by_cases e2 : i < z.2
          · rw [if_pos e2]; unfold afterAt; rw [hr, turn_earlier h3.sorted hz e2]
          · rw [if_neg e2, seekAt_eq, hr, turn_later h3.sorted hz (by omega)]
    refine merge_made h3 mv2 K'.kids ht fun h' => place_fwd h' ht fun i k' hk' => ?_
    obtain ⟨k0, a, _, b, c, _⟩ := mv2.same hk'
    rw [c, b]
  back := by
    intro fp rest E0 x kd R j hx12 hs hoff
    obtain ⟨dx, ch, tp, o, q, cv, nc, tops, nt, ks, Z, cur, tc, going, tg, h3, z, hz, rfl, ht0, hg⟩ := hx12
    obtain ⟨ka, hka, hR, hat, hst⟩ := at_place h3 hz hg
    have hjl := (List.getElem?_eq_some_iff.mp hz).1
    refine ((mback_c S (h3.me (q := q) (nt := nt) hs hoff) (h3.kd hs hoff) hka hst hat ht0 (hg.elim (fun h => .inl h.1) fun h => .inr h.1)).deep (by omega)).post fun r fp' h => ?_
    obtain ⟨t, t2, tops', ks1, ks', K', mv1, mv, ht⟩ := h
    refine ⟨rfl, ?_⟩
    rw [prevAt_eq]
    have mv2 : Moved (fun i k => befOf (cnt Z i j)) ks ks' := mv1.comp mv fun i k fp' hk => by
      by_cases e : i = z.2
      · rw [if_pos e, e, prevAt_eq]
      · rw [if_neg e]
        show bwdG going z.2 z.1.1 i k = _
        rcases hg with ⟨rfl, g⟩ | ⟨rfl, g⟩
        · show (if i = z.2 then k.st else backOf k.R (if i < z.2 then afterAt k.R z.1.1 else seekAt k.R z.1.1)) = _
          rw [if_neg e]
          have hr := h3.rows _ _ hk
          have hc := cnt_le Z i j
          rw [← hr] at hc
          rw [← backOf_eq k.R hc]
          congr 1
          by_cases e2 : i < z.2
          · rw [if_pos e2]; unfold afterAt; rw [hr, turn_earlier h3.sorted hz e2]
          · rw [if_neg e2, seekAt_eq, hr, turn_later h3.sorted hz (by omega)]
        · have := g _ _ hk
          rw [cnt_succ_other hz e] at this
          exact this
    refine merge_made h3 mv2 K'.kids ht fun h' => place_bwd h' ht (by omega) fun i k' hk' => ?_
    obtain ⟨k0, a, _, b, c, _⟩ := mv2.same hk'
    exact c
end
open PySem PySem.W PyProof.Rows
structure UP where
  h1 : Int
  h2 : Int
  h3 : Int
  h4 : Int
  h5 : Int
  h6 : Int
  h7 : Int
  h8 : Int
  t1 : Tok
  t2 : Tok
  t3 : Tok
  t4 : Tok
  t5 : Tok
  t6 : Tok
  t7 : Tok
  t8 : Tok
  tu : Tok
  tl : Tok
  th : Tok
def bndV (b : Option (Array UInt8)) (t : Tok) : Value := match b with | none => .none | some b => .bytes b t
abbrev UD (q : UP) (inner : Addr) (upto : Int) (lo hi : Option (Array UInt8)) (going : Int) (tg : Tok) (good : Bool) (sk : Array UInt8) (tk : Tok) (sv : Array UInt8) (tv : Tok) : Obj :=
  dictOf [⟨q.h1, .str "inner" q.t1, .ref inner⟩, ⟨q.h2, .str "seq" q.t2, .int upto q.tu⟩, ⟨q.h3, .str "low" q.t3, bndV lo q.tl⟩, ⟨q.h4, .str "high" q.t4, bndV hi q.th⟩, ⟨q.h5, .str "going" q.t5, .int going tg⟩, ⟨q.h6, .str "good" q.t6, .bool good⟩, ⟨q.h7, .str "saved_key" q.t7, .bytes sk tk⟩, ⟨q.h8, .str "saved_value" q.t8, .bytes sv tv⟩] 8
def pastHi (hi : Option (Array UInt8)) (u : Array UInt8) : Bool := match hi with | none => false | some h => !ltB u h
def underLo (lo : Option (Array UInt8)) (u : Array UInt8) : Bool := match lo with | none => false | some l => ltB u l
def openTo (skip : Option (Array UInt8)) (u : Array UInt8) : Bool := match skip with | none => true | some s => ltB s u
def IK.seq (e : IK) : Int := e.tag / 256
def IK.kind (e : IK) : Int := e.tag % 256
def ffwd (hi : Option (Array UInt8)) (upto : Int) : List Row → Nat → Option (Array UInt8) → Option Nat
  | [], _, _ => none
  | x :: l, i, skip =>
    if pastHi hi x.1.u then none
    else if x.1.seq ≤ upto then
      if x.1.kind = 0 then ffwd hi upto l (i + 1) (if openTo skip x.1.u then some x.1.u else skip)
      else if openTo skip x.1.u then some i else ffwd hi upto l (i + 1) skip
    else ffwd hi upto l (i + 1) skip
def savedK (R : List Row) (h : Option Nat) : Array UInt8 := match h with | none => #[] | some j => match R[j]? with | none => #[] | some y => y.1.u
def savedV (R : List Row) (h : Option Nat) : Array UInt8 := match h with | none => #[] | some j => match R[j]? with | none => #[] | some y => y.2
def fbwd (lo : Option (Array UInt8)) (upto : Int) (R : List Row) : Nat → Option Nat → Option Nat × Nat
  | 0, have_ => (have_, 0)
  | n + 1, have_ => match R[n]? with
    | none => (have_, n + 1)
    | some x =>
      if underLo lo x.1.u then (have_, n + 1)
      else if x.1.seq ≤ upto then
        if have_.isSome && ltB x.1.u (savedK R have_) then (have_, n + 1)
        else if x.1.kind = 0 then fbwd lo upto R n none else fbwd lo upto R n (some n)
      else fbwd lo upto R n have_
def skipb (R : List Row) (u : Array UInt8) : Nat → Nat
  | 0 => 0
  | n + 1 => match R[n]? with
    | none => n + 1
    | some x => if ltB x.1.u u then n + 1 else skipb R u n
def startOf (R : List Row) (st : Option Nat) : Nat := match st with | some i => i | none => R.length
theorem placeOf_start {R : List Row} {st : Option Nat} (h : ∀ i, st = some i → i < R.length) : placeOf R (startOf R st) = st := by
  cases st with
  | none => exact placeOf_ge (Nat.lt_irrefl _)
  | some i => exact placeOf_lt (h i rfl)
theorem startOf_le {R : List Row} {st : Option Nat} (h : ∀ i, st = some i → i < R.length) : startOf R st ≤ R.length := by
  cases st with
  | none => exact Nat.le_refl _
  | some i => exact Nat.le_of_lt (h i rfl)
theorem tag_pos (e : IK) : 0 ≤ e.tag := by unfold IK.tag; omega
section
variable {hi lo : Option (Array UInt8)} {upto : Int} {x : Row} {l : List Row} {i : Nat} {skip : Option (Array UInt8)}
theorem ff_past (h1 : pastHi hi x.1.u = true) : ffwd hi upto (x :: l) i skip = none := by rw [ffwd, if_pos h1]
theorem ff_inv (h1 : pastHi hi x.1.u = false) (h2 : ¬ x.1.tag / 256 ≤ upto) : ffwd hi upto (x :: l) i skip = ffwd hi upto l (i + 1) skip := by
  rw [ffwd, if_neg (by rw [h1]; decide), if_neg (c := x.1.seq ≤ upto) h2]
theorem ff_delO (h1 : pastHi hi x.1.u = false) (h2 : x.1.tag / 256 ≤ upto) (h3 : x.1.tag % 256 = 0) (h4 : openTo skip x.1.u = true) : ffwd hi upto (x :: l) i skip = ffwd hi upto l (i + 1) (some x.1.u) := by
  rw [ffwd, if_neg (by rw [h1]; decide), if_pos (c := x.1.seq ≤ upto) h2, if_pos (c := x.1.kind = 0) h3, if_pos h4]
theorem ff_delS (h1 : pastHi hi x.1.u = false) (h2 : x.1.tag / 256 ≤ upto) (h3 : x.1.tag % 256 = 0) (h4 : openTo skip x.1.u = false) : ffwd hi upto (x :: l) i skip = ffwd hi upto l (i + 1) skip := by
  rw [ffwd, if_neg (by rw [h1]; decide), if_pos (c := x.1.seq ≤ upto) h2, if_pos (c := x.1.kind = 0) h3, if_neg (by rw [h4]; decide)]
theorem ff_putO (h1 : pastHi hi x.1.u = false) (h2 : x.1.tag / 256 ≤ upto) (h3 : x.1.tag % 256 ≠ 0) (h4 : openTo skip x.1.u = true) : ffwd hi upto (x :: l) i skip = some i := by
  rw [ffwd, if_neg (by rw [h1]; decide), if_pos (c := x.1.seq ≤ upto) h2, if_neg (c := x.1.kind = 0) h3, if_pos h4]
theorem ff_putS (h1 : pastHi hi x.1.u = false) (h2 : x.1.tag / 256 ≤ upto) (h3 : x.1.tag % 256 ≠ 0) (h4 : openTo skip x.1.u = false) : ffwd hi upto (x :: l) i skip = ffwd hi upto l (i + 1) skip := by
  rw [ffwd, if_neg (by rw [h1]; decide), if_pos (c := x.1.seq ≤ upto) h2, if_neg (c := x.1.kind = 0) h3, if_neg (by rw [h4]; decide)]
theorem pastF {hb u : Array UInt8} (h : ltB u hb = true) : pastHi (some hb) u = false := by show (!ltB u hb) = false; rw [h]; rfl
end
section
variable {w : World} {dp un D : Nat} {gd : Option (List Code)} {cn : Str} {cs : Scope} {a f : Addr} {ccd : Value} {cl : List (Str × Addr)} {outer : List Env} {A₀ : Around} {base h₀ : Heap} {L : Addr} {m mg mb : Str → Option Value} {mean : ExcName → Option Value} {s : Shared} {news fp rest : Led}
  {Q E : Value → Shared → Prop} {C : CurP} {R : List Row} {inner du : Addr} {od : Obj} {kd : Bool} {args : List Value} {st' : Option Nat}
theorem inner_call (H : ∀ {E0 : Led}, (∀ p ∈ rest, p ∈ E0) → Off fp E0 → Calls w D f args fp E0 fun r fp' => r = .none ∧ sameAdr fp' fp ∧ C fp' rest inner kd R st') (offi : Off fp rest) (offd : ∀ p ∈ fp ++ rest, p.1 ≠ du)
    (B : Below A₀ base outer h₀) (F : Fr h₀ L s.heap m) (X : (Mine.hd.heap_39 w.params).In h₀) (N : News h₀ L s.heap news) (T : Top VW (looseW VW []) mean mg mb h₀) (hk : cs.kind = .function) (hd : dp + D < recursionLimit) (hu : un + 8 * D < cLine)
    (hdu : (du, od) ∈ news) (hs : ∀ p ∈ fp ++ rest, p ∈ news)
    (k : ∀ fp' h' tk', Fr h₀ L h' m → News h₀ L h' ((du, od) :: (fp' ++ rest)) → sameAdr fp' fp → C fp' rest inner kd R st' → Q .none { s with heap := h', toks := tk' }) :
    wpAny (model Challenge.rw_no0415_01.row.prog w) (ktrTop dp un gd cn cs L a ccd cl outer) (call (.ref f) args) Q E s := by
  refine (H (E0 := (du, od) :: rest) (fun p hp => .tail _ hp) ?_).use B F X N T hk hd hu ?_ ?_
  · intro p hp q hq
    rcases List.mem_cons.mp hq with rfl | h
    · exact fun e => offd p (List.mem_append_left _ hp) e.symm
    · exact offi p hp q h
  · intro p hp
    rcases List.mem_append.mp hp with h | h
    · exact hs p (List.mem_append_left _ h)
    · rcases List.mem_cons.mp h with rfl | h
      · exact hdu
      · exact hs p (List.mem_append_right _ h)
  · intro r fp' h' tk' F' N' hx1
    obtain ⟨rfl, ha, hC⟩ := hx1
    refine k fp' h' tk' F' (news_of N' fun p hp => ?_) ha hC
    rcases List.mem_cons.mp hp with rfl | h
    · exact List.mem_append_right _ (.head _)
    · rcases List.mem_append.mp h with h | h
      · exact List.mem_append_left _ h
      · exact List.mem_append_right _ (.tail _ h)
end
theorem offd_adr {fp fp' rest : Led} {du : Addr} (h : ∀ p ∈ fp ++ rest, p.1 ≠ du) (ha : sameAdr fp' fp) : ∀ p ∈ fp' ++ rest, p.1 ≠ du := fun p hp => by
  rcases List.mem_append.mp hp with g | g
  · have : p.1 ∈ fp.map (·.1) := ha ▸ List.mem_map_of_mem g
    obtain ⟨p', hp', e⟩ := List.mem_map.mp this
    rw [← e]; exact h p' (List.mem_append_left _ hp')
  · exact h p (List.mem_append_right _ g)
section
variable {w : World} {dp un : Nat} {gd : Option (List Code)} {cn : Str} {cs : Scope} {a : Addr} {ccd : Value} {cl : List (Str × Addr)} {outer : List Env} {A₀ : Around} {base h₀ : Heap} {L : Addr} {m mg mb : Str → Option Value} {mean : ExcName → Option Value} {s : Shared} {rest : Led}
  {Q E : Value → Shared → Prop} {D : Nat} {C : CurP} {u du inner : Addr} {kd : Bool} {R : List Row} {st : Option Nat} {fpi : Led} {q : UP} {upto going : Int} {lo hi : Option (Array UInt8)} {tg tsk tsv : Tok} {good : Bool} {sk sv : Array UInt8}
section
variable {w : World} {D : Nat} {F : FnC} {b : Bx} {m : Str → Option Value} {φ : Flow → (Str → Option Value) → Led → Prop} {u du inner : Addr} {rest : Led} {q : UP} {upto going : Int} {lo hi : Option (Array UInt8)} {tg tsk tsv : Tok} {good : Bool} {sk sv : Array UInt8}
set_option maxRecDepth 100000
end
end
open PySem PySem.W PyProof.Rows
set_option linter.unusedVariables false
set_option maxRecDepth 100000
set_option maxHeartbeats 8000000
section
variable {w : World} {D : Nat} {C : CurP} {u du inner : Addr} {kd : Bool} {R : List Row} {st : Option Nat} {fpi rest : Led} {q : UP} {upto going : Int} {lo hi : Option (Array UInt8)} {tg tsk tsv : Tok} {good : Bool} {sk sv : Array UInt8}
theorem handed_bnd {b : Option (Array UInt8)} {t : Tok} : handedIn (bndV b t) = true := by cases b <;> rfl
theorem bnd_isO {b : Option (Array UInt8)} {t : Tok} : ∀ v, v = bndV b t → IsO b v := fun v h => by subst h; cases b with | none => rfl | some x => exact ⟨t, rfl⟩
theorem bnd_isB {b : Option (Array UInt8)} {t : Tok} {x : Array UInt8} (e : b = some x) : ∀ v, v = bndV b t → IsB x v := fun v h => by subst h; subst e; exact ⟨t, rfl⟩
theorem past_and {hi : Option (Array UInt8)} {u : Array UInt8} : (hi.isSome && pastHi hi u) = pastHi hi u := by cases hi <;> rfl
theorem open_or {b : Bool} {s u : Array UInt8} : (!b || ltB s u) = openTo (if b then some s else none) u := by cases b <;> rfl
theorem lx_goingP {F : FnC} {b : Bx} {m : Str → Option Value} {φ : Flow → (Str → Option Value) → Led → Prop} {g : Int} {xp pos pos' : Pos} {value : Expr} {x : Str} {rest : Led} (ok : Okx w D b) (m1 : (u, instObj 611 du) ∈ rest) (off : ∀ p ∈ rest, p.1 ≠ du) (hv : m x = some (.ref u))
    (h : Px w F b (eval value (evx F b)) (IsI g) m ((du, UD q inner upto lo hi going tg good sk tsk sv tsv) :: rest)) (hq : ∀ t : Tok, φ .next m ((du, UD q inner upto lo hi g t good sk tsk sv tsv) :: rest)) (hk : F.cs.kind = .function) (hx : (evx F b).kindOf x = some .local) (hd : (x == ("__debug__" : Str)) = false) (hs : swapsWith value (some (.Attribute (.Name x xp) "going" pos')) pos.line (evx F b) = pure false) :
    Lx w F b (exec (.Assign [.Attribute (.Name x xp) "going" pos'] value pos) (evx F b)) φ m ((du, UD q inner upto lo hi going tg good sk tsk sv tsv) :: rest) :=
  lx_attrP (C := 611) (dx := du) (r := u) (es' := fun v => [⟨q.h1, .str "inner" q.t1, .ref inner⟩, ⟨q.h2, .str "seq" q.t2, .int upto q.tu⟩, ⟨q.h3, .str "low" q.t3, bndV lo q.tl⟩, ⟨q.h4, .str "high" q.t4, bndV hi q.th⟩, ⟨q.h5, .str "going" q.t5, v⟩, ⟨q.h6, .str "good" q.t6, .bool good⟩, ⟨q.h7, .str "saved_key" q.t7, .bytes sk tsk⟩, ⟨q.h8, .str "saved_value" q.t8, .bytes sv tsv⟩]) (n' := 8) (led' := fun v => (du, dictOf [⟨q.h1, .str "inner" q.t1, .ref inner⟩, ⟨q.h2, .str "seq" q.t2, .int upto q.tu⟩, ⟨q.h3, .str "low" q.t3, bndV lo q.tl⟩, ⟨q.h4, .str "high" q.t4, bndV hi q.th⟩, ⟨q.h5, .str "going" q.t5, v⟩, ⟨q.h6, .str "good" q.t6, .bool good⟩, ⟨q.h7, .str "saved_key" q.t7, .bytes sk tsk⟩, ⟨q.h8, .str "saved_value" q.t8, .bytes sv tsv⟩] 8) :: rest) ok h (rx_name hv hk hx hd) (.tail _ m1) (.head _) (by fail "r") (by fail "r") (by fail "r") (by fail "r")
    rfl (fun _ _ => rfl) (fun _ => .head off) (fun _ => by show 8 ≤ 1000; decide) hs (fun v hv => by obtain ⟨t, rfl⟩ := hv; exact hq t)
theorem lx_goodP {F : FnC} {b : Bx} {m : Str → Option Value} {φ : Flow → (Str → Option Value) → Led → Prop} {g : Bool} {xp pos pos' : Pos} {value : Expr} {x : Str} {rest : Led} (ok : Okx w D b) (m1 : (u, instObj 611 du) ∈ rest) (off : ∀ p ∈ rest, p.1 ≠ du) (hv : m x = some (.ref u))
    (h : Px w F b (eval value (evx F b)) (fun v => v = .bool g) m ((du, UD q inner upto lo hi going tg good sk tsk sv tsv) :: rest)) (hq : φ .next m ((du, UD q inner upto lo hi going tg g sk tsk sv tsv) :: rest)) (hk : F.cs.kind = .function) (hx : (evx F b).kindOf x = some .local) (hd : (x == ("__debug__" : Str)) = false) (hs : swapsWith value (some (.Attribute (.Name x xp) "good" pos')) pos.line (evx F b) = pure false) :
    Lx w F b (exec (.Assign [.Attribute (.Name x xp) "good" pos'] value pos) (evx F b)) φ m ((du, UD q inner upto lo hi going tg good sk tsk sv tsv) :: rest) :=
  lx_attrP (C := 611) (dx := du) (r := u) (es' := fun v => [⟨q.h1, .str "inner" q.t1, .ref inner⟩, ⟨q.h2, .str "seq" q.t2, .int upto q.tu⟩, ⟨q.h3, .str "low" q.t3, bndV lo q.tl⟩, ⟨q.h4, .str "high" q.t4, bndV hi q.th⟩, ⟨q.h5, .str "going" q.t5, .int going tg⟩, ⟨q.h6, .str "good" q.t6, v⟩, ⟨q.h7, .str "saved_key" q.t7, .bytes sk tsk⟩, ⟨q.h8, .str "saved_value" q.t8, .bytes sv tsv⟩]) (n' := 8) (led' := fun v => (du, dictOf [⟨q.h1, .str "inner" q.t1, .ref inner⟩, ⟨q.h2, .str "seq" q.t2, .int upto q.tu⟩, ⟨q.h3, .str "low" q.t3, bndV lo q.tl⟩, ⟨q.h4, .str "high" q.t4, bndV hi q.th⟩, ⟨q.h5, .str "going" q.t5, .int going tg⟩, ⟨q.h6, .str "good" q.t6, v⟩, ⟨q.h7, .str "saved_key" q.t7, .bytes sk tsk⟩, ⟨q.h8, .str "saved_value" q.t8, .bytes sv tsv⟩] 8) :: rest) ok h (rx_name hv hk hx hd) (.tail _ m1) (.head _) (by fail "r") (by fail "r") (by fail "r") (by fail "r")
    rfl (fun _ _ => rfl) (fun _ => .head off) (fun _ => by show 8 ≤ 1000; decide) hs (fun v hv => by subst hv; exact hq)
theorem lx_skeyP {F : FnC} {b : Bx} {m : Str → Option Value} {φ : Flow → (Str → Option Value) → Led → Prop} {g : Array UInt8} {xp pos pos' : Pos} {value : Expr} {x : Str} {rest : Led} (ok : Okx w D b) (m1 : (u, instObj 611 du) ∈ rest) (off : ∀ p ∈ rest, p.1 ≠ du) (hv : m x = some (.ref u))
    (h : Px w F b (eval value (evx F b)) (IsB g) m ((du, UD q inner upto lo hi going tg good sk tsk sv tsv) :: rest)) (hq : ∀ t : Tok, φ .next m ((du, UD q inner upto lo hi going tg good g t sv tsv) :: rest)) (hk : F.cs.kind = .function) (hx : (evx F b).kindOf x = some .local) (hd : (x == ("__debug__" : Str)) = false) (hs : swapsWith value (some (.Attribute (.Name x xp) "saved_key" pos')) pos.line (evx F b) = pure false) :
    Lx w F b (exec (.Assign [.Attribute (.Name x xp) "saved_key" pos'] value pos) (evx F b)) φ m ((du, UD q inner upto lo hi going tg good sk tsk sv tsv) :: rest) :=
  lx_attrP (C := 611) (dx := du) (r := u) (es' := fun v => [⟨q.h1, .str "inner" q.t1, .ref inner⟩, ⟨q.h2, .str "seq" q.t2, .int upto q.tu⟩, ⟨q.h3, .str "low" q.t3, bndV lo q.tl⟩, ⟨q.h4, .str "high" q.t4, bndV hi q.th⟩, ⟨q.h5, .str "going" q.t5, .int going tg⟩, ⟨q.h6, .str "good" q.t6, .bool good⟩, ⟨q.h7, .str "saved_key" q.t7, v⟩, ⟨q.h8, .str "saved_value" q.t8, .bytes sv tsv⟩]) (n' := 8) (led' := fun v => (du, dictOf [⟨q.h1, .str "inner" q.t1, .ref inner⟩, ⟨q.h2, .str "seq" q.t2, .int upto q.tu⟩, ⟨q.h3, .str "low" q.t3, bndV lo q.tl⟩, ⟨q.h4, .str "high" q.t4, bndV hi q.th⟩, ⟨q.h5, .str "going" q.t5, .int going tg⟩, ⟨q.h6, .str "good" q.t6, .bool good⟩, ⟨q.h7, .str "saved_key" q.t7, v⟩, ⟨q.h8, .str "saved_value" q.t8, .bytes sv tsv⟩] 8) :: rest) ok h (rx_name hv hk hx hd) (.tail _ m1) (.head _) (by fail "r") (by fail "r") (by fail "r") (by fail "r")
    rfl (fun _ _ => rfl) (fun _ => .head off) (fun _ => by show 8 ≤ 1000; decide) hs (fun v hv => by obtain ⟨t, rfl⟩ := hv; exact hq t)
theorem lx_svalP {F : FnC} {b : Bx} {m : Str → Option Value} {φ : Flow → (Str → Option Value) → Led → Prop} {g : Array UInt8} {xp pos pos' : Pos} {value : Expr} {x : Str} {rest : Led} (ok : Okx w D b) (m1 : (u, instObj 611 du) ∈ rest) (off : ∀ p ∈ rest, p.1 ≠ du) (hv : m x = some (.ref u))
    (h : Px w F b (eval value (evx F b)) (IsB g) m ((du, UD q inner upto lo hi going tg good sk tsk sv tsv) :: rest)) (hq : ∀ t : Tok, φ .next m ((du, UD q inner upto lo hi going tg good sk tsk g t) :: rest)) (hk : F.cs.kind = .function) (hx : (evx F b).kindOf x = some .local) (hd : (x == ("__debug__" : Str)) = false) (hs : swapsWith value (some (.Attribute (.Name x xp) "saved_value" pos')) pos.line (evx F b) = pure false) :
    Lx w F b (exec (.Assign [.Attribute (.Name x xp) "saved_value" pos'] value pos) (evx F b)) φ m ((du, UD q inner upto lo hi going tg good sk tsk sv tsv) :: rest) :=
  lx_attrP (C := 611) (dx := du) (r := u) (es' := fun v => [⟨q.h1, .str "inner" q.t1, .ref inner⟩, ⟨q.h2, .str "seq" q.t2, .int upto q.tu⟩, ⟨q.h3, .str "low" q.t3, bndV lo q.tl⟩, ⟨q.h4, .str "high" q.t4, bndV hi q.th⟩, ⟨q.h5, .str "going" q.t5, .int going tg⟩, ⟨q.h6, .str "good" q.t6, .bool good⟩, ⟨q.h7, .str "saved_key" q.t7, .bytes sk tsk⟩, ⟨q.h8, .str "saved_value" q.t8, v⟩]) (n' := 8) (led' := fun v => (du, dictOf [⟨q.h1, .str "inner" q.t1, .ref inner⟩, ⟨q.h2, .str "seq" q.t2, .int upto q.tu⟩, ⟨q.h3, .str "low" q.t3, bndV lo q.tl⟩, ⟨q.h4, .str "high" q.t4, bndV hi q.th⟩, ⟨q.h5, .str "going" q.t5, .int going tg⟩, ⟨q.h6, .str "good" q.t6, .bool good⟩, ⟨q.h7, .str "saved_key" q.t7, .bytes sk tsk⟩, ⟨q.h8, .str "saved_value" q.t8, v⟩] 8) :: rest) ok h (rx_name hv hk hx hd) (.tail _ m1) (.head _) (by fail "r") (by fail "r") (by fail "r") (by fail "r")
    rfl (fun _ _ => rfl) (fun _ => .head off) (fun _ => by show 8 ≤ 1000; decide) hs (fun v hv => by obtain ⟨t, rfl⟩ := hv; exact hq t)
inductive SpP (e : IK) (rest : Led) : Value → Led → Prop
  | mk (a : Addr) (tu t1 t2 : Tok) (ha : ∀ p ∈ rest, p.1 < a) : SpP e rest (.ref a) [(a, ({ cls := .type "tuple", data := .seq (List.toArray [.bytes e.u tu, .int (e.tag / 256) t1, .int (e.tag % 256) t2]) } : Obj))]
theorem split_c {e : IK} {t0 : Tok} (he : e.Ok) (hk1 : e.tag % 256 ≤ 1) : Calls w (3 + 1) 143 [.bytes (ikb e) t0] [] rest (SpP e rest) := by
  have h0 := tag_pos e
  refine' calls_ofG (binds := [("ik", .bytes (ikb e) t0)]) ?ho ?hcd ?hb ?hl ?c1 ?c2 ?c3 ?c4 ?_
  fail "e"
  intro bb ok φ kφ
  refine sx_name (P := IsB e.u) (pf1 ok (px_glob ok (by fail "r") rfl rfl rfl) (px_args1 (px_name rfl rfl rfl rfl) rfl) (fun vs hvs => ?_) (by fail "r") rfl rfl rfl) (fun v hv => ?_) rfl rfl rfl
  · obtain ⟨_, rfl, rfl⟩ := hvs
    exact px_call ok (user_of_p he) (fun r fp' h => h) (fun _ h => nomatch h) rfl (by omega)
  refine sx_name (P := IsI e.tag) (pf1 ok (px_glob ok (by fail "r") rfl rfl rfl) (px_args1 (px_name rfl rfl rfl rfl) rfl) (fun vs hvs => ?_) (by fail "r") rfl rfl rfl) (fun v2 hv2 => ?_) rfl rfl rfl
  · obtain ⟨_, rfl, rfl⟩ := hvs
    exact px_call ok (tag_of_p he) (fun r fp' h => h) (fun _ h => nomatch h) rfl (by omega)
  obtain ⟨tu, rfl⟩ := hv
  obtain ⟨tt, rfl⟩ := hv2
  refine sx_name (px_binop (Px.mono (px_name rfl rfl rfl rfl) isI) px_int (op_and255 h0)) (fun v3 hv3 => ?_) rfl rfl rfl
  obtain ⟨tk, rfl⟩ := hv3
  refine sx_if1 (pc_gtI (i := e.tag % 256) (Px.mono (px_name rfl rfl rfl rfl) isI) (px_globI ok (by fail "r") rfl rfl rfl) rfl) (fun h => by have := of_decide_eq_true h; omega) fun _ => ?_
  refine lx_seq (lx_retC (fun s Q E f N q => Tuple_ (px_args3 (px_name rfl rfl rfl rfl) (px_binop (Px.mono (px_name rfl rfl rfl rfl) isI) px_int op_shr8) (px_name rfl rfl rfl rfl) rfl rfl rfl s _ E f N fun vs h' tk' pa F' N' => ?_)))
  obtain ⟨_, _, _, rfl, rfl, ⟨t1, rfl⟩, rfl⟩ := pa
  exact kup_newTuple F' N' (fun a h2' F2' N2' hlt => q _ _ _ h2' _ (kφ (.ret (.ref a)) _ [_] (.mk a tu t1 tk hlt)) F2' N2') (by show 3 ≤ sizeLine; decide)
inductive FgP (q : UP) (du inner : Addr) (upto : Int) (lo hi : Option (Array UInt8)) (going : Int) (tg : Tok) : Value → Led → Prop
  | mk (ta tb : Tok) : FgP q du inner upto lo hi going tg .none [(du, UD q inner upto lo hi going tg false #[] ta #[] tb)]
theorem forget_p (m1 : (u, instObj 611 du) ∈ rest) (off : ∀ p ∈ rest, p.1 ≠ du) : Calls w (D + 1) 545 [.ref u] [(du, UD q inner upto lo hi going tg good sk tsk sv tsv)] rest (FgP q du inner upto lo hi going tg) := by
  refine' calls_ofG (binds := [("self", .ref u)]) ?ho ?hcd ?hb ?hl ?c1 ?c2 ?c3 ?c4 ?_
  fail "e"
  intro bb ok φ kφ
  refine lx_seq (lx_goodP ok m1 off rfl px_bool ?_ rfl rfl rfl rfl)
  refine lx_seq (lx_skeyP ok m1 off rfl px_bytes (fun t2 => ?_) rfl rfl rfl rfl)
  refine lx_seq (lx_svalP ok m1 off rfl px_bytes (fun t3 => ?_) rfl rfl rfl rfl)
  exact lx_nil (kφ .next _ [_] (.mk t2 t3))
section
variable {F : FnC} {b : Bx} {m : Str → Option Value} {φ : Flow → (Str → Option Value) → Led → Prop} {pl : Sem Bool} {xp ap ap2 pos : Pos} {stmts : List Stmt} {fp T : Led} {i : Nat} {y : Row} {od : Obj} {es : List DictEntry} {n : Nat}
theorem sx_forget (ok : Okx w D b) (m1 : (u, instObj 611 du) ∈ T) (off : ∀ p ∈ T, p.1 ≠ du) (e1 : m "self" = some (.ref u)) (hq : ∀ ta tb, Lx w F b (execs stmts (evx F b)) φ m ((du, UD q inner upto lo hi going tg false #[] ta #[] tb) :: T)) (hk : F.cs.kind = .function) (hx : (evx F b).kindOf "self" = some .local) (hD : 1 ≤ D) (hia : interactive (evx F b) = false)
    (hs : swapsWith (.Call (.Attribute (.Name "self" xp) "forget" ap) [] [] pos) none pos.line (evx F b) = pure false) (he : eval (.Call (.Attribute (.Name "self" xp) "forget" ap) [] [] pos) (evx F b) = (do
      let ov ← eval (.Name "self" xp) (evx F b)
      standAt ap.atName
      let (f, first) ← holding [ov] (getMethod ov "forget" pl)
      callWith pos f first (backTo pos (starEach [] (evx F b))) [])) : Lx w F b (execs (.Expr (.Call (.Attribute (.Name "self" xp) "forget" ap) [] [] pos) pos :: stmts) (evx F b)) φ m ((du, UD q inner upto lo hi going tg good sk tsk sv tsv) :: T) := by
  refine sx_expr (lm0 ok (px_name e1 hk hx rfl) (px_meth ok (.tail _ m1) (.head _) rfl (by fail "r") (by fail "r") (by fail "r")) (lx_call ok hk hD (forget_p (D := 0) m1 off) (fun _ h => h) fun r fp' hp => ?_) (by fail "r") he) hia hs
  obtain ⟨ta, tb⟩ := hp
  exact hq ta tb
theorem px_ivalid {st : Option Nat} {D' : Nat} (ok : Okx w D' b) (S : CurSpec w D C) (hC : C fp rest inner kd R st) (e1 : m "self" = some (.ref u)) (m1 : (u, instObj 611 du) ∈ T) (hT : ∀ p ∈ fp ++ rest, p ∈ T) (hk : F.cs.kind = .function) (hx : (evx F b).kindOf "self" = some .local)
    (hD : D ≤ D')
    (he : eval (.Call (.Attribute (.Attribute (.Name "self" xp) "inner" ap) "valid" ap2) [] [] pos) (evx F b) = (do
      let ov ← eval (.Attribute (.Name "self" xp) "inner" ap) (evx F b)
      standAt ap2.atName
      let (f, first) ← holding [ov] (getMethod ov "valid" pl)
      callWith pos f first (backTo pos (starEach [] (evx F b))) [])) :
    Px w F b (eval (.Call (.Attribute (.Attribute (.Name "self" xp) "inner" ap) "valid" ap2) [] [] pos) (evx F b)) (fun a => a = .bool st.isSome) m ((du, UD q inner upto lo hi going tg good sk tsk sv tsv) :: T) :=
  pm0 ok (px_attr ok e1 (.tail _ m1) (.head _) rfl rfl (by fail "r") (by fail "r") (by fail "r") (by fail "r") hk hx rfl rfl) (px_cur ok S hC (fun p hp => .tail _ (hT p hp)) .valid) (px_call ok (S.valid hC fun p hp => .tail _ (hT p (List.mem_append_right _ hp))) (fun r fp' h => h.1) (fun p hp => .tail _ (hT p (List.mem_append_left _ hp))) hk hD) (keep_cur _ _ _) he
theorem px_ikey {D' : Nat} (ok : Okx w D' b) (S : CurSpec w D C) (hC : C fp rest inner kd R (some i)) (hy : R[i]? = some y) (e1 : m "self" = some (.ref u)) (m1 : (u, instObj 611 du) ∈ T) (hT : ∀ p ∈ fp ++ rest, p ∈ T) (hk : F.cs.kind = .function) (hx : (evx F b).kindOf "self" = some .local)
    (hD : D ≤ D')
    (he : eval (.Call (.Attribute (.Attribute (.Name "self" xp) "inner" ap) "key" ap2) [] [] pos) (evx F b) = (do
      let ov ← eval (.Attribute (.Name "self" xp) "inner" ap) (evx F b)
      standAt ap2.atName
      let (f, first) ← holding [ov] (getMethod ov "key" pl)
      callWith pos f first (backTo pos (starEach [] (evx F b))) [])) :
    Px w F b (eval (.Call (.Attribute (.Attribute (.Name "self" xp) "inner" ap) "key" ap2) [] [] pos) (evx F b)) (IsB (ikb y.1)) m ((du, UD q inner upto lo hi going tg good sk tsk sv tsv) :: T) :=
  pm0 ok (px_attr ok e1 (.tail _ m1) (.head _) rfl rfl (by fail "r") (by fail "r") (by fail "r") (by fail "r") hk hx rfl rfl) (px_cur ok S hC (fun p hp => .tail _ (hT p hp)) .key) (px_call ok (S.key hC hy fun p hp => .tail _ (hT p (List.mem_append_right _ hp))) (fun r fp' h => h.1) (fun p hp => .tail _ (hT p (List.mem_append_left _ hp))) hk hD) (keep_cur _ _ _) he
theorem px_ivalue {D' : Nat} (ok : Okx w D' b) (S : CurSpec w D C) (hC : C fp rest inner kd R (some i)) (hy : R[i]? = some y) (e1 : m "self" = some (.ref u)) (m1 : (u, instObj 611 du) ∈ T) (hT : ∀ p ∈ fp ++ rest, p ∈ T) (hk : F.cs.kind = .function) (hx : (evx F b).kindOf "self" = some .local)
    (hD : D ≤ D')
    (he : eval (.Call (.Attribute (.Attribute (.Name "self" xp) "inner" ap) "value" ap2) [] [] pos) (evx F b) = (do
      let ov ← eval (.Attribute (.Name "self" xp) "inner" ap) (evx F b)
      standAt ap2.atName
      let (f, first) ← holding [ov] (getMethod ov "value" pl)
      callWith pos f first (backTo pos (starEach [] (evx F b))) [])) :
    Px w F b (eval (.Call (.Attribute (.Attribute (.Name "self" xp) "inner" ap) "value" ap2) [] [] pos) (evx F b)) (IsB y.2) m ((du, UD q inner upto lo hi going tg good sk tsk sv tsv) :: T) :=
  pm0 ok (px_attr ok e1 (.tail _ m1) (.head _) rfl rfl (by fail "r") (by fail "r") (by fail "r") (by fail "r") hk hx rfl rfl) (px_cur ok S hC (fun p hp => .tail _ (hT p hp)) .value) (px_call ok (S.value hC hy fun p hp => .tail _ (hT p (List.mem_append_right _ hp))) (fun r fp' h => h.1) (fun p hp => .tail _ (hT p (List.mem_append_left _ hp))) hk hD) (keep_cur _ _ _) he
end
inductive FfJ (C : CurP) (q : UP) (u du inner : Addr) (kd : Bool) (upto : Int) (lo hi : Option (Array UInt8)) (going : Int) (tg : Tok) (good : Bool) (sv : Array UInt8) (tsv : Tok) (R : List Row) (fp rest : Led) (r0 : Option Nat) : Nat → (Str → Option Value) → Led → Prop
  | mk {n m} (i : Nat) (b' : Bool) (sk' : Array UInt8) (tk' : Tok) (fp₁ : Led) (e1 : m "self" = some (.ref u)) (e2 : m "skipping" = some (.bool b')) (ha : sameAdr fp₁ fp) (hC : C fp₁ rest inner kd R (placeOf R i)) (hr : ffwd hi upto (R.drop i) i (if b' then some sk' else none) = r0) (hn : i + n = R.length) :
    FfJ C q u du inner kd upto lo hi going tg good sv tsv R fp rest r0 n m ((du, UD q inner upto lo hi going tg good sk' tk' sv tsv) :: (fp₁ ++ rest))
inductive FfX (C : CurP) (q : UP) (u du inner : Addr) (kd : Bool) (upto : Int) (lo hi : Option (Array UInt8)) (going : Int) (tg : Tok) (good : Bool) (sv : Array UInt8) (tsv : Tok) (R : List Row) (fp rest : Led) (r0 : Option Nat) : (Str → Option Value) → Led → Prop
  | mk {m} (st : Option Nat) (sk' : Array UInt8) (tk' : Tok) (fp₁ : Led) (e1 : m "self" = some (.ref u)) (hr : none = r0) (ha : sameAdr fp₁ fp) (hC : C fp₁ rest inner kd R st) :
    FfX C q u du inner kd upto lo hi going tg good sv tsv R fp rest r0 m ((du, UD q inner upto lo hi going tg good sk' tk' sv tsv) :: (fp₁ ++ rest))
inductive FfT (q : UP) (u du inner : Addr) (upto : Int) (lo hi : Option (Array UInt8)) (going : Int) (tg : Tok) (good : Bool) (sv : Array UInt8) (tsv : Tok) (R : List Row) (T : Led) (i : Nat) (r0 : Option Nat) : Flow → (Str → Option Value) → Led → Prop
  | next {m} (b2 : Bool) (sk2 : Array UInt8) (tk2 : Tok) (n1 : m "self" = some (.ref u)) (n2 : m "skipping" = some (.bool b2)) (hr : ffwd hi upto (R.drop (i + 1)) (i + 1) (if b2 then some sk2 else none) = r0) : FfT q u du inner upto lo hi going tg good sv tsv R T i r0 .next m ((du, UD q inner upto lo hi going tg good sk2 tk2 sv tsv) :: T)
  | ret {m} (ta tb : Tok) (hr : some i = r0) : FfT q u du inner upto lo hi going tg good sv tsv R T i r0 (.ret .none) m ((du, UD q inner upto lo hi going tg true #[] ta #[] tb) :: T)
inductive FfP (C : CurP) (q : UP) (du inner : Addr) (kd : Bool) (upto : Int) (lo hi : Option (Array UInt8)) (going : Int) (tg : Tok) (R : List Row) (fp rest : Led) (r0 : Option Nat) : Value → Led → Prop
  | mk (fp₁ : Led) (st : Option Nat) (ta tb : Tok) (ha : sameAdr fp₁ fp) (hC : C fp₁ rest inner kd R st) (hs : ∀ j, r0 = some j → st = some j) : FfP C q du inner kd upto lo hi going tg R fp rest r0 .none ((du, UD q inner upto lo hi going tg r0.isSome #[] ta #[] tb) :: fp₁)
theorem ff_c {b0 : Bool} (S : CurSpec w D C) (hC : C fpi rest inner kd R st) (offi : Off fpi rest) (offd : ∀ p ∈ fpi ++ rest, p.1 ≠ du) (m1 : (u, instObj 611 du) ∈ rest) (hkd : ∀ x ∈ R, x.1.kind ≤ 1) :
    Calls w (D + 5 + 1) 573 [.ref u, .bool b0] ((du, UD q inner upto lo hi going tg good sk tsk sv tsv) :: fpi) rest (FfP C q du inner kd upto lo hi going tg R fpi rest (ffwd hi upto (R.drop (startOf R st)) (startOf R st) (if b0 then some sk else none))) := by
  have hsz := S.size hC
  have hle := startOf_le hsz.2
  generalize hr0 : ffwd hi upto (R.drop (startOf R st)) (startOf R st) (if b0 then some sk else none) = r0
  refine' calls_ofG (binds := [("self", .ref u), ("skipping", .bool b0)]) ?ho ?hcd ?hb ?hl ?c1 ?c2 ?c3 ?c4 ?_
  fail "e"
  intro bb ok φ kφ
  refine sx_while (FfJ C q u du inner kd upto lo hi going tg good sv tsv R fpi rest r0) (FfX C q u du inner kd upto lo hi going tg good sv tsv R fpi rest r0) (R.length - startOf R st) (.mk (startOf R st) b0 sk tsk fpi rfl rfl rfl (by rw [placeOf_start hsz.2]; exact hC) hr0 (by omega)) ?_ ?_
  rotate_left
  · intro m' led' hx
    obtain ⟨st₁, sk₁, tk₁, fp₁, n1, hr, ha, hC⟩ := hx
    refine sx_forget ok (List.mem_append_right _ m1) (offd_adr offd ha) n1 (fun ta tb => ?_) rfl rfl (by omega) rfl rfl rfl
    subst hr
    exact lx_nil (kφ .next _ ((du, _) :: _) ⟨_, _, ta, tb, ha, hC, fun j hj => by cases hj⟩)
  clear hC
  intro n m₁ led₁ hx Φ kn kc kb kr
  obtain ⟨i, b', sk', tks, fp₁, e1, e2, ha, hC, hr1, hn⟩ := hx
  have offd1 := offd_adr offd ha
  have offi1 : Off fp₁ rest := offi.adr ha
  have q1 : (u, instObj 611 du) ∈ fp₁ ++ rest := List.mem_append_right _ m1
  refine ⟨(placeOf R i).isSome, pc_val (px_ivalid ok S hC e1 q1 (fun _ h => h) rfl rfl (by omega) rfl) rfl, fun hc => ?_, fun hc => ?_⟩
  · have hi2 : i < R.length := by
      rcases Nat.lt_or_ge i R.length with h | h
      · exact h
      · rw [placeOf_ge (Nat.not_lt.mpr h)] at hc; cases hc
    rw [placeOf_lt hi2] at hC
    obtain ⟨y, hy⟩ : ∃ y, R[i]? = some y := ⟨_, List.getElem?_eq_getElem hi2⟩
    have hyo : y.1.Ok := S.ok hC _ (List.mem_of_getElem? hy)
    have hyk : y.1.tag % 256 ≤ 1 := hkd _ (List.mem_of_getElem? hy)
    have hd1 : R.drop i = y :: R.drop (i + 1) := by rw [List.drop_eq_getElem_cons hi2, (List.getElem?_eq_some_iff.mp hy).2]
    rw [hd1] at hr1
    refine lx_seq (lx_tup3 (lf1 ok (px_glob ok (by fail "r") rfl rfl rfl) (px_args1 (px_ikey ok S hC hy e1 q1 (fun _ h => h) rfl rfl (by omega) rfl) rfl) (fun vs hvs => ?_) (by fail "r") rfl rfl rfl) rfl rfl rfl rfl rfl rfl)
    obtain ⟨v, rfl, t, rfl⟩ := hvs
    refine lx_call ok rfl (by omega) (split_c hyo hyk) (fun _ h => h) fun r fp' hp => ?_
    obtain ⟨a, tu, t1, t2, -⟩ := hp
    refine ⟨_, _, _, _, _, rfl, .head _, Lx.sub (led' := (du, UD q inner upto lo hi going tg good sk' tks sv tsv) :: (fp₁ ++ rest)) (fun p hp => .tail _ hp) ?_⟩
    generalize hM : ms (ms (ms m₁ "user" _) "seq" _) "kind" _ = M
    have M1 : M "self" = some (.ref u) := by rw [← hM]; exact e1
    have M2 : M "skipping" = some (.bool b') := by rw [← hM]; exact e2
    have M3 : ∃ v, M "user" = some v ∧ IsB y.1.u v := ⟨_, by rw [← hM]; rfl, _, rfl⟩
    have M4 : ∃ v, M "seq" = some v ∧ IsI (y.1.tag / 256) v := ⟨_, by rw [← hM]; rfl, _, rfl⟩
    have M5 : ∃ v, M "kind" = some v ∧ IsI (y.1.tag % 256) v := ⟨_, by rw [← hM]; rfl, _, rfl⟩
    clear hM e1 e2
    refine sx_if1 (pc_and2 (pc_isnot (Px.mono (px_attr ok M1 (.tail _ q1) (.head _) rfl handed_bnd (by fail "r") (by fail "r") (by fail "r") (by fail "r") rfl rfl rfl rfl) bnd_isO) px_none rfl) (c2 := pastHi hi y.1.u) fun e => ?_) (fun hc => ?_) fun hc => ?_
    · obtain ⟨hb, rfl⟩ := Option.isSome_iff_exists.mp e
      exact pc_geB (px_nameP M3 rfl rfl rfl) (Px.mono (px_attr ok M1 (.tail _ q1) (.head _) rfl rfl (by fail "r") (by fail "r") (by fail "r") (by fail "r") rfl rfl rfl rfl) (bnd_isB rfl)) rfl
    · rw [past_and] at hc
      obtain rfl : none = r0 := (ff_past hc).symm.trans hr1
      exact lx_seq (lx_break (kb _ _ ⟨_, _, _, _, M1, rfl, ha, hC⟩))
    · rw [past_and] at hc
      refine sx_ifjG (FfT q u du inner upto lo hi going tg good sv tsv R (fp₁ ++ rest) i r0) (pc_leI (px_nameP M4 rfl rfl rfl) (Px.mono (px_attr ok M1 (.tail _ q1) (.head _) rfl rfl (by fail "r") (by fail "r") (by fail "r") (by fail "r") rfl rfl rfl rfl) isI) rfl) (fun h2 ψ kψ => ?_) (fun h2 ψ kψ => lx_nil (kψ .next _ _ (.next b' _ _ M1 M2 ((ff_inv hc (of_decide_eq_false h2)).symm.trans hr1)))) (fun m' led' h => ?_) fun f m' led' hf h => ?_
      · have h2 := of_decide_eq_true h2
        refine sx_if (pc_eqI (px_nameP M5 rfl rfl rfl) (px_globI ok (by fail "r") rfl rfl rfl) rfl) (fun h3 => ?_) (fun h3 => ?_)
        · have h3 : y.1.tag % 256 = 0 := of_decide_eq_true h3
          refine sx_if1 (pc_or2 (pc_not (pc_val (px_name M2 rfl rfl rfl) rfl)) (fun e => pc_gtB (px_nameP M3 rfl rfl rfl) (Px.mono (px_attr ok M1 (.tail _ q1) (.head _) rfl rfl (by fail "r") (by fail "r") (by fail "r") (by fail "r") rfl rfl rfl rfl) isB) rfl)) (fun h4 => ?_) fun h4 => ?_
          · rw [open_or] at h4
            refine lx_seq (lx_skeyP ok q1 offd1 M1 (px_nameP M3 rfl rfl rfl) (fun tw => ?_) rfl rfl rfl rfl)
            refine sx_name px_bool (fun v hv => ?_) rfl rfl rfl
            subst hv
            exact lx_nil (lx_nil (lx_nil (kψ .next _ _ (.next true _ _ M1 rfl ((ff_delO hc h2 h3 h4).symm.trans hr1)))))
          · rw [open_or] at h4
            exact lx_nil (lx_nil (kψ .next _ _ (.next b' _ _ M1 M2 ((ff_delS hc h2 h3 h4).symm.trans hr1))))
        · have h3 : y.1.tag % 256 ≠ 0 := of_decide_eq_false h3
          refine sx_if1 (pc_or2 (pc_not (pc_val (px_name M2 rfl rfl rfl) rfl)) (fun e => pc_gtB (px_nameP M3 rfl rfl rfl) (Px.mono (px_attr ok M1 (.tail _ q1) (.head _) rfl rfl (by fail "r") (by fail "r") (by fail "r") (by fail "r") rfl rfl rfl rfl) isB) rfl)) (fun h4 => ?_) fun h4 => ?_
          · rw [open_or] at h4
            obtain rfl : some i = r0 := (ff_putO hc h2 h3 h4).symm.trans hr1
            refine sx_forget ok q1 offd1 M1 (fun ta tb => ?_) rfl rfl (by omega) rfl rfl rfl
            refine lx_seq (lx_goodP ok q1 offd1 M1 px_bool ?_ rfl rfl rfl rfl)
            exact lx_seq (lx_ret0 (kψ (.ret .none) _ _ (.ret ta tb rfl)))
          · rw [open_or] at h4
            exact lx_nil (lx_nil (kψ .next _ _ (.next b' _ _ M1 M2 ((ff_putS hc h2 h3 h4).symm.trans hr1))))
      · rcases h with ⟨b2, sk2, tk2, n1, n2, hr2⟩ | -
        refine sx_expr (lm0 ok (px_attr ok n1 (.tail _ q1) (.head _) rfl rfl (by fail "r") (by fail "r") (by fail "r") (by fail "r") rfl rfl rfl rfl) (px_cur ok S hC (fun p hp => .tail _ hp) .step) (lx_call (D' := D) ok rfl (by omega) (S.step hC (E0 := (du, UD q inner upto lo hi going tg good sk2 tk2 sv tsv) :: rest) (fun p hp => .tail _ hp) (off_cons (fun p hp e => offd1 p (List.mem_append_left _ hp) e.symm) offi1)) (fun p hp => ?_) fun r fp' hp => ?_) (keep_cur _ _ _) rfl) rfl rfl
        · rcases List.mem_append.mp hp with h | h
          · exact .tail _ (List.mem_append_left _ h)
          · rcases List.mem_cons.mp h with rfl | h
            · exact .head _
            · exact .tail _ (List.mem_append_right _ h)
        · obtain ⟨-, ha2, hC2⟩ := hp
          refine Lx.sub (led' := (du, UD q inner upto lo hi going tg good sk2 tk2 sv tsv) :: (fp' ++ rest)) (fun p hp => ?_) (lx_nil (kn (n - 1) _ _ (by omega) ⟨i + 1, b2, _, _, _, n1, n2, ha2.trans ha, by rw [← nextAt_eq]; exact hC2, hr2, by omega⟩))
          rcases List.mem_cons.mp hp with rfl | h
          · exact List.mem_append_right _ (.head _)
          · rcases List.mem_append.mp h with h | h
            · exact List.mem_append_left _ h
            · exact List.mem_append_right _ (.tail _ h)
      · rcases h with - | ⟨ta, tb, hr⟩
        · exact absurd rfl hf
        · subst hr
          exact kr _ _ _ (kφ (.ret .none) _ ((du, _) :: _) ⟨_, _, ta, tb, ha, hC, fun j hj => hj⟩)
  · have hi2 : ¬ i < R.length := fun h => by rw [placeOf_lt h] at hc; cases hc
    have hd0 : R.drop i = [] := List.drop_eq_nil_of_le (by omega)
    rw [hd0] at hr1
    obtain rfl : none = r0 := hr1
    exact ⟨_, _, _, _, e1, rfl, ha, hC⟩
end
open PySem PySem.W PyProof.Rows
set_option linter.unusedVariables false
set_option maxRecDepth 100000
set_option maxHeartbeats 8000000
section
variable {lo : Option (Array UInt8)} {upto : Int} {R : List Row} {x : Row} {n : Nat} {hv : Option Nat}
theorem fb_past (hx : R[n]? = some x) (h1 : underLo lo x.1.u = true) : fbwd lo upto R (n + 1) hv = (hv, n + 1) := by rw [fbwd, hx]; simp only; rw [if_pos h1]
theorem fb_inv (hx : R[n]? = some x) (h1 : underLo lo x.1.u = false) (h2 : ¬ x.1.tag / 256 ≤ upto) : fbwd lo upto R (n + 1) hv = fbwd lo upto R n hv := by
  rw [fbwd, hx]; simp only; rw [if_neg (by rw [h1]; decide), if_neg (c := x.1.seq ≤ upto) h2]
theorem fb_brk (hx : R[n]? = some x) (h1 : underLo lo x.1.u = false) (h2 : x.1.tag / 256 ≤ upto) (h3 : (hv.isSome && ltB x.1.u (savedK R hv)) = true) : fbwd lo upto R (n + 1) hv = (hv, n + 1) := by
  rw [fbwd, hx]; simp only; rw [if_neg (by rw [h1]; decide), if_pos (c := x.1.seq ≤ upto) h2, if_pos h3]
theorem fb_del (hx : R[n]? = some x) (h1 : underLo lo x.1.u = false) (h2 : x.1.tag / 256 ≤ upto) (h3 : (hv.isSome && ltB x.1.u (savedK R hv)) = false) (h4 : x.1.tag % 256 = 0) : fbwd lo upto R (n + 1) hv = fbwd lo upto R n none := by
  rw [fbwd, hx]; simp only; rw [if_neg (by rw [h1]; decide), if_pos (c := x.1.seq ≤ upto) h2, if_neg (by rw [h3]; decide), if_pos (c := x.1.kind = 0) h4]
theorem fb_put (hx : R[n]? = some x) (h1 : underLo lo x.1.u = false) (h2 : x.1.tag / 256 ≤ upto) (h3 : (hv.isSome && ltB x.1.u (savedK R hv)) = false) (h4 : x.1.tag % 256 ≠ 0) : fbwd lo upto R (n + 1) hv = fbwd lo upto R n (some n) := by
  rw [fbwd, hx]; simp only; rw [if_neg (by rw [h1]; decide), if_pos (c := x.1.seq ≤ upto) h2, if_neg (by rw [h3]; decide), if_neg (c := x.1.kind = 0) h4]
theorem savedK_some (hx : R[n]? = some x) : savedK R (some n) = x.1.u := by unfold savedK; simp only [hx]
theorem savedV_some (hx : R[n]? = some x) : savedV R (some n) = x.2 := by unfold savedV; simp only [hx]
end
def lenOf (st : Option Nat) : Nat := match st with | none => 0 | some i => i + 1
theorem befOf_len (st : Option Nat) : befOf (lenOf st) = st := by cases st <;> rfl
section
variable {w : World} {D : Nat} {C : CurP} {u du inner : Addr} {kd : Bool} {R : List Row} {st : Option Nat} {fpi rest : Led} {q : UP} {upto going : Int} {lo hi : Option (Array UInt8)} {tg tsk tsv : Tok} {good : Bool} {sk sv : Array UInt8}
theorem under_and {lo : Option (Array UInt8)} {u : Array UInt8} : (lo.isSome && underLo lo u) = underLo lo u := by cases lo <;> rfl
theorem befOf_some {n : Nat} : befOf (n + 1) = some n := rfl
inductive MvP (C : CurP) (rest : Led) (inner : Addr) (kd : Bool) (R : List Row) (fp : Led) (st : Option Nat) : Value → Led → Prop
  | mk (fp' : Led) (ha : sameAdr fp' fp) (hC : C fp' rest inner kd R st) : MvP C rest inner kd R fp st .none fp'
theorem lx_inner {F : FnC} {b : Bx} {m : Str → Option Value} {ψ : Value → (Str → Option Value) → Led → Prop} {D' : Nat} {f : Addr} {args : List Value} {fp : Led} {od : Obj} {st' : Option Nat} (ok : Okx w D b) (hk : F.cs.kind = .function) (hD : D' ≤ D) (offi : Off fp rest) (offd : ∀ p ∈ fp ++ rest, p.1 ≠ du)
    (H : ∀ {E0 : Led}, (∀ p ∈ rest, p ∈ E0) → Off fp E0 → Calls w D' f args fp E0 fun r fp' => r = .none ∧ sameAdr fp' fp ∧ C fp' rest inner kd R st')
    (hq : ∀ fp', sameAdr fp' fp → C fp' rest inner kd R st' → ψ .none m ((du, od) :: (fp' ++ rest))) : Lx w F b (call (.ref f) args) ψ m ((du, od) :: (fp ++ rest)) := fun s Q E f' N q =>
  inner_call H offi offd ok.B f' ok.X N ok.T hk (by have := ok.hd; omega) (by have := ok.hu; omega) (.head _) (fun p hp => .tail _ hp) fun fp' h' tk' F' N' ha hC => q _ _ _ h' tk' (hq _ ha hC) F' N'
theorem sx_imove {F : FnC} {b : Bx} {m : Str → Option Value} {φ : Flow → (Str → Option Value) → Led → Prop} {pl : Sem Bool} {xp ap ap2 pos : Pos} {stmts : List Stmt} {fp : Led} {D' : Nat} {mn : MN} {st' : Option Nat} (ok : Okx w D' b) (S : CurSpec w D C) (hC : C fp rest inner kd R st) (offi : Off fp rest) (offd : ∀ p ∈ fp ++ rest, p.1 ≠ du) (e1 : m "self" = some (.ref u)) (m1 : (u, instObj 611 du) ∈ rest)
    (H : ∀ {E0 : Led}, (∀ p ∈ rest, p ∈ E0) → Off fp E0 → Calls w D (adr kd mn) [.ref inner] fp E0 fun r fp' => r = .none ∧ sameAdr fp' fp ∧ C fp' rest inner kd R st')
    (hq : ∀ fp', sameAdr fp' fp → C fp' rest inner kd R st' → Lx w F b (execs stmts (evx F b)) φ m ((du, UD q inner upto lo hi going tg good sk tsk sv tsv) :: (fp' ++ rest))) (hk : F.cs.kind = .function) (hx : (evx F b).kindOf "self" = some .local) (hD : D ≤ D') (hia : interactive (evx F b) = false)
    (hs : swapsWith (.Call (.Attribute (.Attribute (.Name "self" xp) "inner" ap) mn.name ap2) [] [] pos) none pos.line (evx F b) = pure false)
    (he : eval (.Call (.Attribute (.Attribute (.Name "self" xp) "inner" ap) mn.name ap2) [] [] pos) (evx F b) = (do
      let ov ← eval (.Attribute (.Name "self" xp) "inner" ap) (evx F b)
      standAt ap2.atName
      let (f, first) ← holding [ov] (getMethod ov mn.name pl)
      callWith pos f first (backTo pos (starEach [] (evx F b))) [])) :
    Lx w F b (execs (.Expr (.Call (.Attribute (.Attribute (.Name "self" xp) "inner" ap) mn.name ap2) [] [] pos) pos :: stmts) (evx F b)) φ m ((du, UD q inner upto lo hi going tg good sk tsk sv tsv) :: (fp ++ rest)) :=
  sx_expr (lm0 ok (px_attr ok e1 (.tail _ (List.mem_append_right _ m1)) (.head _) rfl rfl (by fail "r") (by fail "r") (by fail "r") (by fail "r") hk hx rfl rfl) (px_cur ok S hC (fun p hp => .tail _ hp) mn) (lx_inner ok hk hD offi offd H hq) (keep_cur _ _ _) he) hia hs
inductive FbJ (C : CurP) (q : UP) (u du inner : Addr) (kd : Bool) (upto : Int) (lo hi : Option (Array UInt8)) (going : Int) (tg : Tok) (R : List Row) (fp rest : Led) (r0 : Option Nat × Nat) : Nat → (Str → Option Value) → Led → Prop
  | mk {n m} (hv : Option Nat) (tk' tv' : Tok) (fp₁ : Led) (e1 : m "self" = some (.ref u)) (e2 : m "have" = some (.bool hv.isSome)) (hn : n ≤ R.length) (ha : sameAdr fp₁ fp) (hC : C fp₁ rest inner kd R (befOf n)) (hr : fbwd lo upto R n hv = r0) :
    FbJ C q u du inner kd upto lo hi going tg R fp rest r0 n m ((du, UD q inner upto lo hi going tg false (savedK R hv) tk' (savedV R hv) tv') :: (fp₁ ++ rest))
inductive FbX (C : CurP) (q : UP) (u du inner : Addr) (kd : Bool) (upto : Int) (lo hi : Option (Array UInt8)) (going : Int) (tg : Tok) (R : List Row) (fp rest : Led) (r0 : Option Nat × Nat) : (Str → Option Value) → Led → Prop
  | mk {m} (tk' tv' : Tok) (fp₁ : Led) (e1 : m "self" = some (.ref u)) (e2 : m "have" = some (.bool r0.1.isSome)) (ha : sameAdr fp₁ fp) (hC : C fp₁ rest inner kd R (befOf r0.2)) :
    FbX C q u du inner kd upto lo hi going tg R fp rest r0 m ((du, UD q inner upto lo hi going tg false (savedK R r0.1) tk' (savedV R r0.1) tv') :: (fp₁ ++ rest))
inductive FbT (q : UP) (u du inner : Addr) (upto : Int) (lo hi : Option (Array UInt8)) (going : Int) (tg : Tok) (R : List Row) (T : Led) (n : Nat) (hv : Option Nat) (tk tv : Tok) (r0 : Option Nat × Nat) : Flow → (Str → Option Value) → Led → Prop
  | next {m} (h2 : Option Nat) (tk2 tv2 : Tok) (n1 : m "self" = some (.ref u)) (n2 : m "have" = some (.bool h2.isSome)) (hr : fbwd lo upto R n h2 = r0) : FbT q u du inner upto lo hi going tg R T n hv tk tv r0 .next m ((du, UD q inner upto lo hi going tg false (savedK R h2) tk2 (savedV R h2) tv2) :: T)
  | brk {m} (n1 : m "self" = some (.ref u)) (n2 : m "have" = some (.bool hv.isSome)) (hr : (hv, n + 1) = r0) : FbT q u du inner upto lo hi going tg R T n hv tk tv r0 .brk m ((du, UD q inner upto lo hi going tg false (savedK R hv) tk (savedV R hv) tv) :: T)
inductive FbP (C : CurP) (q : UP) (du inner : Addr) (kd : Bool) (upto : Int) (lo hi : Option (Array UInt8)) (R : List Row) (fp rest : Led) (r0 : Option Nat × Nat) : Value → Led → Prop
  | mk (fp₁ : Led) (tg ta tb : Tok) (ha : sameAdr fp₁ fp) (hC : C fp₁ rest inner kd R (befOf r0.2)) : FbP C q du inner kd upto lo hi R fp rest r0 .none ((du, UD q inner upto lo hi 1 tg r0.1.isSome (savedK R r0.1) ta (savedV R r0.1) tb) :: fp₁)
theorem fb_c (S : CurSpec w D C) (hC : C fpi rest inner kd R st) (offi : Off fpi rest) (offd : ∀ p ∈ fpi ++ rest, p.1 ≠ du) (m1 : (u, instObj 611 du) ∈ rest) (hkd : ∀ x ∈ R, x.1.kind ≤ 1) :
    Calls w (D + 5 + 1) 580 [.ref u] ((du, UD q inner upto lo hi going tg good sk tsk sv tsv) :: fpi) rest (FbP C q du inner kd upto lo hi R fpi rest (fbwd lo upto R (lenOf st) none)) := by
  have hsz := S.size hC
  have hle : lenOf st ≤ R.length := by cases st with | none => exact Nat.zero_le _ | some i => exact hsz.2 i rfl
  generalize hr0 : fbwd lo upto R (lenOf st) none = r0
  refine' calls_ofG (binds := [("self", .ref u)]) ?ho ?hcd ?hb ?hl ?c1 ?c2 ?c3 ?c4 ?_
  fail "e"
  intro bb ok φ kφ
  refine sx_name px_bool (fun v hv => ?_) rfl rfl rfl
  subst hv
  refine sx_forget ok (List.mem_append_right _ m1) offd rfl (fun ta tb => ?_) rfl rfl (by omega) rfl rfl rfl
  refine sx_while (FbJ C q u du inner kd upto lo hi going tg R fpi rest r0) (FbX C q u du inner kd upto lo hi going tg R fpi rest r0) (lenOf st) (.mk none ta tb fpi rfl rfl hle rfl (by rw [befOf_len]; exact hC) hr0) ?_ ?_
  rotate_left
  · intro m' led' hx
    obtain ⟨tk', tv', fp₁, e1, e2, ha, hC⟩ := hx
    have q1 : (u, instObj 611 du) ∈ fp₁ ++ rest := List.mem_append_right _ m1
    refine lx_seq (lx_goodP ok q1 (offd_adr offd ha) e1 (px_name e2 rfl rfl rfl) ?_ rfl rfl rfl rfl)
    refine lx_seq (lx_goingP ok q1 (offd_adr offd ha) e1 (px_globI ok (by fail "r") rfl rfl rfl) (fun t => ?_) rfl rfl rfl rfl)
    exact lx_nil (kφ .next _ ((du, _) :: _) ⟨_, t, tk', tv', ha, hC⟩)
  clear hC
  intro n m₁ led₁ hx Φ kn kc kb kr
  clear kc
  obtain ⟨hv, tk', tv', fp₁, e1, e2, hn, ha, hC, hr1⟩ := hx
  have offd1 := offd_adr offd ha
  have offi1 : Off fp₁ rest := offi.adr ha
  have q1 : (u, instObj 611 du) ∈ fp₁ ++ rest := List.mem_append_right _ m1
  refine ⟨(befOf n).isSome, pc_val (px_ivalid ok S hC e1 q1 (fun _ h => h) rfl rfl (by omega) rfl) rfl, fun hc => ?_, fun hc => ?_⟩
  · obtain ⟨n, rfl⟩ : ∃ k, n = k + 1 := by
      cases n with
      | zero => cases hc
      | succ k => exact ⟨k, rfl⟩
    rw [befOf_some] at hC
    obtain ⟨y, hy⟩ : ∃ y, R[n]? = some y := ⟨_, List.getElem?_eq_getElem (by omega)⟩
    have hyo : y.1.Ok := S.ok hC _ (List.mem_of_getElem? hy)
    have hyk : y.1.tag % 256 ≤ 1 := hkd _ (List.mem_of_getElem? hy)
    refine lx_seq (lx_tup3 (lf1 ok (px_glob ok (by fail "r") rfl rfl rfl) (px_args1 (px_ikey ok S hC hy e1 q1 (fun _ h => h) rfl rfl (by omega) rfl) rfl) (fun vs hvs => ?_) (by fail "r") rfl rfl rfl) rfl rfl rfl rfl rfl rfl)
    obtain ⟨v, rfl, t, rfl⟩ := hvs
    refine lx_call ok rfl (by omega) (split_c hyo hyk) (fun _ h => h) fun r fp' hp => ?_
    obtain ⟨a, tu, t1, t2, -⟩ := hp
    refine ⟨_, _, _, _, _, rfl, .head _, Lx.sub (led' := (du, UD q inner upto lo hi going tg false (savedK R hv) tk' (savedV R hv) tv') :: (fp₁ ++ rest)) (fun p hp => .tail _ hp) ?_⟩
    generalize hM : ms (ms (ms m₁ "user" _) "seq" _) "kind" _ = M
    have M1 : M "self" = some (.ref u) := by rw [← hM]; exact e1
    have M2 : M "have" = some (.bool hv.isSome) := by rw [← hM]; exact e2
    have M3 : ∃ v, M "user" = some v ∧ IsB y.1.u v := ⟨_, by rw [← hM]; rfl, _, rfl⟩
    have M4 : ∃ v, M "seq" = some v ∧ IsI (y.1.tag / 256) v := ⟨_, by rw [← hM]; rfl, _, rfl⟩
    have M5 : ∃ v, M "kind" = some v ∧ IsI (y.1.tag % 256) v := ⟨_, by rw [← hM]; rfl, _, rfl⟩
    clear hM e1 e2
    refine sx_if1 (pc_and2 (pc_isnot (Px.mono (px_attr ok M1 (.tail _ q1) (.head _) rfl handed_bnd (by fail "r") (by fail "r") (by fail "r") (by fail "r") rfl rfl rfl rfl) bnd_isO) px_none rfl) (c2 := underLo lo y.1.u) fun e => ?_) (fun hc => ?_) fun hc => ?_
    · obtain ⟨lb, rfl⟩ := Option.isSome_iff_exists.mp e
      exact pc_ltB (px_nameP M3 rfl rfl rfl) (Px.mono (px_attr ok M1 (.tail _ q1) (.head _) rfl rfl (by fail "r") (by fail "r") (by fail "r") (by fail "r") rfl rfl rfl rfl) (bnd_isB rfl)) rfl
    · rw [under_and] at hc
      obtain rfl : (hv, n + 1) = r0 := (fb_past hy hc).symm.trans hr1
      exact lx_seq (lx_break (kb _ _ ⟨_, _, _, M1, M2, ha, hC⟩))
    · rw [under_and] at hc
      refine sx_ifjG (FbT q u du inner upto lo hi going tg R (fp₁ ++ rest) n hv tk' tv' r0) (pc_leI (px_nameP M4 rfl rfl rfl) (Px.mono (px_attr ok M1 (.tail _ q1) (.head _) rfl rfl (by fail "r") (by fail "r") (by fail "r") (by fail "r") rfl rfl rfl rfl) isI) rfl) (fun h2 ψ kψ => ?_) (fun h2 ψ kψ => lx_nil (kψ .next _ _ (.next hv _ _ M1 M2 ((fb_inv hy hc (of_decide_eq_false h2)).symm.trans hr1)))) (fun m' led' h => ?_) fun f m' led' hf h => ?_
      · have h2 := of_decide_eq_true h2
        refine sx_if1 (pc_and2 (pc_val (px_name M2 rfl rfl rfl) rfl) (fun e => pc_ltB (px_nameP M3 rfl rfl rfl) (Px.mono (px_attr ok M1 (.tail _ q1) (.head _) rfl rfl (by fail "r") (by fail "r") (by fail "r") (by fail "r") rfl rfl rfl rfl) isB) rfl)) (fun h3 => ?_) fun h3 => ?_
        · exact lx_seq (lx_break (kψ .brk _ _ (.brk M1 M2 ((fb_brk hy hc h2 h3).symm.trans hr1))))
        · refine sx_if (pc_eqI (px_nameP M5 rfl rfl rfl) (px_globI ok (by fail "r") rfl rfl rfl) rfl) (fun h4 => ?_) (fun h4 => ?_)
          · have h4 : y.1.tag % 256 = 0 := of_decide_eq_true h4
            refine sx_name px_bool (fun v hv => ?_) rfl rfl rfl
            subst hv
            refine sx_forget ok q1 offd1 M1 (fun ta tb => ?_) rfl rfl (by omega) rfl rfl rfl
            exact lx_nil (lx_nil (kψ .next _ _ (.next none _ _ M1 rfl ((fb_del hy hc h2 h3 h4).symm.trans hr1))))
          · have h4 : y.1.tag % 256 ≠ 0 := of_decide_eq_false h4
            refine sx_name px_bool (fun v hv => ?_) rfl rfl rfl
            subst hv
            refine lx_seq (lx_skeyP ok q1 offd1 M1 (px_nameP M3 rfl rfl rfl) (fun tw => ?_) rfl rfl rfl rfl)
            refine lx_seq (lx_svalP ok q1 offd1 M1 (px_ivalue ok S hC hy M1 q1 (fun _ h => h) rfl rfl (by omega) rfl) (fun tv => ?_) rfl rfl rfl rfl)
            refine lx_nil (lx_nil (kψ .next _ _ ?_))
            rw [← savedK_some hy, ← savedV_some hy]
            exact .next (some n) _ _ M1 rfl ((fb_put hy hc h2 h3 h4).symm.trans hr1)
      · rcases h with ⟨h2, tk2, tv2, n1, n2, hr2⟩ | -
        refine sx_imove (mn := .back) ok S hC offi1 offd1 n1 m1 (fun a b => S.back hC a b) (fun fp' ha2 hC2 => ?_) rfl rfl (by omega) rfl rfl rfl
        exact lx_nil (kn n _ _ (by omega) ⟨h2, _, _, _, n1, n2, by omega, ha2.trans ha, hC2, hr2⟩)
      · rcases h with - | ⟨n1, n2, hr⟩
        · exact absurd rfl hf
        · subst hr
          exact kb _ _ ⟨_, _, _, n1, n2, ha, hC⟩
  · obtain rfl : n = 0 := by
      cases n with
      | zero => rfl
      | succ k => cases hc
    obtain rfl : (hv, 0) = r0 := hr1
    exact ⟨_, _, _, e1, e2, ha, hC⟩
end
open PySem PySem.W PyProof.Rows
set_option linter.unusedVariables false
set_option maxRecDepth 100000
set_option maxHeartbeats 8000000
def clampLo (lo : Option (Array UInt8)) (t : Array UInt8) : Array UInt8 := match lo with | none => t | some l => if ltB t l then l else t
def firstPl (R : List Row) (upto : Int) (lo : Option (Array UInt8)) : Option Nat := match lo with | none => firstAt R | some l => seekAt R ⟨l, upto.toNat, 1⟩
def lastLen (R : List Row) (hi : Option (Array UInt8)) : Option Nat := match hi with | none => lastAt R | some h => backOf R (seekAt R ⟨h, 72057594037927935, 1⟩)
def stepPl (R : List Row) (st : Option Nat) : Option Nat := match st with | none => firstAt R | some i => nextAt R i
theorem ok_seek {l : Array UInt8} {upto : Int} (hl : l.size ≤ 1000) (h1 : upto < 72057594037927936) (h0 : 0 ≤ upto) : (⟨l, upto.toNat, 1⟩ : IK).Ok := ⟨by show upto.toNat < _; omega, by show 1 < 256; omega, hl⟩
theorem ok_max {l : Array UInt8} (hl : l.size ≤ 1000) : (⟨l, 72057594037927935, 1⟩ : IK).Ok := ⟨by show 72057594037927935 < _; omega, by show 1 < 256; omega, hl⟩
section
variable {w : World} {D : Nat} {C : CurP} {u du inner : Addr} {kd : Bool} {R : List Row} {st : Option Nat} {fpi rest : Led} {q : UP} {upto going : Int} {lo hi : Option (Array UInt8)} {tg tsk tsv : Tok} {good : Bool} {sk sv : Array UInt8}
inductive InT (C : CurP) (q : UP) (u du inner : Addr) (kd : Bool) (upto : Int) (lo hi : Option (Array UInt8)) (going : Int) (tg : Tok) (good : Bool) (sk : Array UInt8) (tsk : Tok) (sv : Array UInt8) (tsv : Tok) (R : List Row) (fp rest : Led) (st : Option Nat) : Flow → (Str → Option Value) → Led → Prop
  | mk {m} (fp₁ : Led) (e1 : m "self" = some (.ref u)) (ha : sameAdr fp₁ fp) (hC : C fp₁ rest inner kd R st) : InT C q u du inner kd upto lo hi going tg good sk tsk sv tsv R fp rest st .next m ((du, UD q inner upto lo hi going tg good sk tsk sv tsv) :: (fp₁ ++ rest))
theorem uvalid_c {T : Led} (m1 : (u, instObj 611 du) ∈ T) : Calls w (D + 1) 531 [.ref u] [(du, UD q inner upto lo hi going tg good sk tsk sv tsv)] T (fun r fp' => r = .bool good ∧ fp' = [(du, UD q inner upto lo hi going tg good sk tsk sv tsv)]) := by
  refine' calls_ofG (binds := [("self", .ref u)]) ?ho ?hcd ?hb ?hl ?c1 ?c2 ?c3 ?c4 ?_
  fail "e"
  intro bb ok φ kφ
  exact sx_ret (px_attr ok rfl (.tail _ m1) (.head _) rfl rfl (by fail "r") (by fail "r") (by fail "r") (by fail "r") rfl rfl rfl rfl) fun v hv => kφ (.ret v) _ _ ⟨hv, rfl⟩
theorem uneed_c {T : Led} (m1 : (u, instObj 611 du) ∈ T) : Calls w (D + 1) 538 [.ref u] [(du, UD q inner upto lo hi going tg true sk tsk sv tsv)] T (fun r fp' => fp' = [(du, UD q inner upto lo hi going tg true sk tsk sv tsv)]) := by
  refine' calls_ofG (binds := [("self", .ref u)]) ?ho ?hcd ?hb ?hl ?c1 ?c2 ?c3 ?c4 ?_
  fail "e"
  intro bb ok φ kφ
  exact sx_if1 (pc_not (pc_val (px_attr ok rfl (.tail _ m1) (.head _) rfl rfl (by fail "r") (by fail "r") (by fail "r") (by fail "r") rfl rfl rfl rfl) rfl)) (fun h => by cases h) fun _ => lx_nil (kφ .next _ _ rfl)
theorem ukey1_c {T : Led} (m1 : (u, instObj 611 du) ∈ T) : Calls w (D + 1 + 1) 601 [.ref u] [(du, UD q inner upto lo hi 1 tg true sk tsk sv tsv)] T (fun r fp' => IsB sk r ∧ fp' = [(du, UD q inner upto lo hi 1 tg true sk tsk sv tsv)]) := by
  refine' calls_ofG (binds := [("self", .ref u)]) ?ho ?hcd ?hb ?hl ?c1 ?c2 ?c3 ?c4 ?_
  fail "e"
  intro bb ok φ kφ
  refine sx_expr (lm0 ok (px_name rfl rfl rfl rfl) (px_meth ok (.tail _ m1) (.head _) rfl (by fail "r") (by fail "r") (by fail "r")) (lx_call ok rfl (Nat.le_refl _) (uneed_c (D := D) m1) (fun _ h => h) fun r fp' hp => ?_) (by fail "r") rfl) rfl rfl
  subst hp
  exact sx_if1 (pc_eqI (Px.mono (px_attr ok rfl (.tail _ m1) (.head _) rfl rfl (by fail "r") (by fail "r") (by fail "r") (by fail "r") rfl rfl rfl rfl) isI) (px_globI ok (by fail "r") rfl rfl rfl) rfl) (fun h => sx_ret (Px.mono (px_attr ok rfl (.tail _ m1) (.head _) rfl rfl (by fail "r") (by fail "r") (by fail "r") (by fail "r") rfl rfl rfl rfl) isB) fun v hv => kφ (.ret v) _ [_] ⟨hv, rfl⟩) fun h => by cases h
theorem uvalue1_c {T : Led} (m1 : (u, instObj 611 du) ∈ T) : Calls w (D + 1 + 1) 608 [.ref u] [(du, UD q inner upto lo hi 1 tg true sk tsk sv tsv)] T (fun r fp' => IsB sv r ∧ fp' = [(du, UD q inner upto lo hi 1 tg true sk tsk sv tsv)]) := by
  refine' calls_ofG (binds := [("self", .ref u)]) ?ho ?hcd ?hb ?hl ?c1 ?c2 ?c3 ?c4 ?_
  fail "e"
  intro bb ok φ kφ
  refine sx_expr (lm0 ok (px_name rfl rfl rfl rfl) (px_meth ok (.tail _ m1) (.head _) rfl (by fail "r") (by fail "r") (by fail "r")) (lx_call ok rfl (Nat.le_refl _) (uneed_c (D := D) m1) (fun _ h => h) fun r fp' hp => ?_) (by fail "r") rfl) rfl rfl
  subst hp
  exact sx_if1 (pc_eqI (Px.mono (px_attr ok rfl (.tail _ m1) (.head _) rfl rfl (by fail "r") (by fail "r") (by fail "r") (by fail "r") rfl rfl rfl rfl) isI) (px_globI ok (by fail "r") rfl rfl rfl) rfl) (fun h => sx_ret (Px.mono (px_attr ok rfl (.tail _ m1) (.head _) rfl rfl (by fail "r") (by fail "r") (by fail "r") (by fail "r") rfl rfl rfl rfl) isB) fun v hv => kφ (.ret v) _ [_] ⟨hv, rfl⟩) fun h => by cases h
theorem ukey0_c {j : Nat} {x : Row} (S : CurSpec w D C) (hC : C fpi rest inner kd R (some j)) (m1 : (u, instObj 611 du) ∈ rest) (hx : R[j]? = some x) : Calls w (D + 3 + 1) 601 [.ref u] ((du, UD q inner upto lo hi 0 tg true sk tsk sv tsv) :: fpi) rest (fun r fp' => IsB x.1.u r ∧ fp' = (du, UD q inner upto lo hi 0 tg true sk tsk sv tsv) :: fpi) := by
  have hxo : x.1.Ok := S.ok hC _ (List.mem_of_getElem? hx)
  have q1 : (u, instObj 611 du) ∈ fpi ++ rest := List.mem_append_right _ m1
  refine' calls_ofG (binds := [("self", .ref u)]) ?ho ?hcd ?hb ?hl ?c1 ?c2 ?c3 ?c4 ?_
  fail "e"
  intro bb ok φ kφ
  refine sx_expr (lm0 ok (px_name rfl rfl rfl rfl) (px_meth ok (.tail _ q1) (.head _) rfl (by fail "r") (by fail "r") (by fail "r")) (lx_call (rest := fpi ++ rest) ok rfl (by omega) (uneed_c (D := D) q1) (fun _ h => h) fun r fp' hp => ?_) (by fail "r") rfl) rfl rfl
  subst hp
  refine sx_if1 (pc_eqI (Px.mono (px_attr ok rfl (.tail _ q1) (.head _) rfl rfl (by fail "r") (by fail "r") (by fail "r") (by fail "r") rfl rfl rfl rfl) isI) (px_globI ok (by fail "r") rfl rfl rfl) rfl) (fun h => by cases h) fun _ => ?_
  refine sx_ret (pf1 (P := IsB x.1.u) ok (px_glob ok (by fail "r") rfl rfl rfl) (px_args1 (px_ikey ok S hC hx rfl q1 (fun _ h => h) rfl rfl (by omega) rfl) rfl) (fun vs hvs => ?_) (by fail "r") rfl rfl rfl) fun v hv => kφ (.ret v) _ ((du, _) :: _) ⟨hv, rfl⟩
  obtain ⟨v, rfl, t, rfl⟩ := hvs
  exact px_call ok (user_of_p hxo) (fun r fp' h => h) (fun _ h => nomatch h) rfl (by omega)
theorem uvalue0_c {j : Nat} {x : Row} (S : CurSpec w D C) (hC : C fpi rest inner kd R (some j)) (m1 : (u, instObj 611 du) ∈ rest) (hx : R[j]? = some x) : Calls w (D + 3 + 1) 608 [.ref u] ((du, UD q inner upto lo hi 0 tg true sk tsk sv tsv) :: fpi) rest (fun r fp' => IsB x.2 r ∧ fp' = (du, UD q inner upto lo hi 0 tg true sk tsk sv tsv) :: fpi) := by
  have q1 : (u, instObj 611 du) ∈ fpi ++ rest := List.mem_append_right _ m1
  refine' calls_ofG (binds := [("self", .ref u)]) ?ho ?hcd ?hb ?hl ?c1 ?c2 ?c3 ?c4 ?_
  fail "e"
  intro bb ok φ kφ
  refine sx_expr (lm0 ok (px_name rfl rfl rfl rfl) (px_meth ok (.tail _ q1) (.head _) rfl (by fail "r") (by fail "r") (by fail "r")) (lx_call (rest := fpi ++ rest) ok rfl (by omega) (uneed_c (D := D) q1) (fun _ h => h) fun r fp' hp => ?_) (by fail "r") rfl) rfl rfl
  subst hp
  refine sx_if1 (pc_eqI (Px.mono (px_attr ok rfl (.tail _ q1) (.head _) rfl rfl (by fail "r") (by fail "r") (by fail "r") (by fail "r") rfl rfl rfl rfl) isI) (px_globI ok (by fail "r") rfl rfl rfl) rfl) (fun h => by cases h) fun _ => ?_
  exact sx_ret (px_ivalue ok S hC hx rfl q1 (fun _ h => h) rfl rfl (by omega) rfl) fun v hv => kφ (.ret v) _ ((du, _) :: _) ⟨hv, rfl⟩
theorem ufirst_c (S : CurSpec w D C) (hC : C fpi rest inner kd R st) (offi : Off fpi rest) (offd : ∀ p ∈ fpi ++ rest, p.1 ≠ du) (m1 : (u, instObj 611 du) ∈ rest) (hkd : ∀ x ∈ R, x.1.kind ≤ 1) (hup0 : 0 ≤ upto) (hup1 : upto < 72057594037927936) (hlo : ∀ b, lo = some b → b.size ≤ 1000) :
    Calls w (D + 9 + 1) 552 [.ref u] ((du, UD q inner upto lo hi going tg good sk tsk sv tsv) :: fpi) rest (fun r fp' => ∃ tgb, FfP C q du inner kd upto lo hi 0 tgb R fpi rest (ffwd hi upto (R.drop (startOf R (firstPl R upto lo))) (startOf R (firstPl R upto lo)) none) r fp') := by
  have q1 : (u, instObj 611 du) ∈ fpi ++ rest := List.mem_append_right _ m1
  refine' calls_ofG (binds := [("self", .ref u)]) ?ho ?hcd ?hb ?hl ?c1 ?c2 ?c3 ?c4 ?_
  fail "e"
  intro bb ok φ kφ
  refine lx_seq (lx_goingP ok q1 offd rfl (px_globI ok (by fail "r") rfl rfl rfl) (fun tgb => ?_) rfl rfl rfl rfl)
  refine sx_forget ok q1 offd rfl (fun ta tb => ?_) rfl rfl (by omega) rfl rfl rfl
  refine sx_ifjG (InT C q u du inner kd upto lo hi 0 tgb false #[] ta #[] tb R fpi rest (firstPl R upto lo)) (pc_is (Px.mono (px_attr ok rfl (.tail _ q1) (.head _) rfl handed_bnd (by fail "r") (by fail "r") (by fail "r") (by fail "r") rfl rfl rfl rfl) bnd_isO) px_none rfl) (fun hl ψ kψ => ?_) (fun hl ψ kψ => ?_) (fun m' led' h => ?_) fun f m' led' hf h => ?_
  · obtain rfl : lo = none := by cases lo with | none => rfl | some l => cases hl
    refine sx_imove (mn := .first) ok S hC offi offd rfl m1 (fun a b => S.first hC a b) (fun fp' ha2 hC2 => ?_) rfl rfl (by omega) rfl rfl rfl
    exact lx_nil (kψ .next _ _ (.mk fp' rfl ha2 hC2))
  · obtain ⟨lb, rfl⟩ : ∃ lb, lo = some lb := by cases lo with | none => cases hl | some l => exact ⟨l, rfl⟩
    have hlb := hlo _ rfl
    refine sx_expr (lm1 ok (px_attr ok rfl (.tail _ q1) (.head _) rfl rfl (by fail "r") (by fail "r") (by fail "r") (by fail "r") rfl rfl rfl rfl) (px_cur ok S hC (fun p hp => .tail _ hp) .seek) (px_args1 (pf1 (P := IsB (ikb ⟨lb, upto.toNat, 1⟩)) ok (px_glob ok (by fail "r") rfl rfl rfl) (px_args3 (Px.mono (px_attr ok rfl (.tail _ q1) (.head _) rfl rfl (by fail "r") (by fail "r") (by fail "r") (by fail "r") rfl rfl rfl rfl) (bnd_isB rfl)) (Px.mono (px_attr ok rfl (.tail _ q1) (.head _) rfl rfl (by fail "r") (by fail "r") (by fail "r") (by fail "r") rfl rfl rfl rfl) isI) (px_globI ok (by fail "r") rfl rfl rfl) rfl rfl rfl) (fun vs hvs => ?_) (by fail "r") rfl rfl rfl) rfl) (fun vs hvs => ?_) (keep_cur _ _ _) rfl rfl rfl) rfl rfl
    · obtain ⟨_, _, _, rfl, ⟨t, rfl⟩, ⟨t', rfl⟩, ⟨t2, rfl⟩⟩ := hvs
      exact px_call ok (mkik_c hup0 hup1 hlb) (fun r fp' h => h) (fun _ h => nomatch h) rfl (by omega)
    · obtain ⟨_, rfl, ⟨t, rfl⟩⟩ := hvs
      refine lx_inner (D' := D) ok rfl (by omega) offi offd (fun a b => S.seek hC a b (ok_seek hlb hup1 hup0)) fun fp' ha2 hC2 => ?_
      exact lx_nil (kψ .next _ _ (.mk fp' rfl ha2 hC2))
  · obtain ⟨fp₁, e1, ha, hC1⟩ := h
    have q1 : (u, instObj 611 du) ∈ fp₁ ++ rest := List.mem_append_right _ m1
    refine sx_expr (lm1 ok (px_name e1 rfl rfl rfl) (px_meth ok (.tail _ q1) (.head _) rfl (by fail "r") (by fail "r") (by fail "r")) (px_args1 px_bool rfl) (fun vs hvs => ?_) (by fail "r") rfl rfl rfl) rfl rfl
    obtain ⟨_, rfl, rfl⟩ := hvs
    refine lx_call ok rfl (by omega) (ff_c (b0 := false) S hC1 (offi.adr ha) (offd_adr offd ha) m1 hkd) (fun _ h => h) fun r fp' hp => ?_
    obtain ⟨fp₂, st₂, ta, tb, ha2, hC2, hs⟩ := hp
    exact lx_nil (kφ .next _ (_ :: _) ⟨tgb, .mk fp₂ st₂ ta tb (ha2.trans ha) hC2 hs⟩)
  · cases h
    exact absurd rfl hf
inductive TgT (u : Addr) (T : Array UInt8) (led : Led) : Flow → (Str → Option Value) → Led → Prop
  | mk {m} (t : Tok) (e1 : m "self" = some (.ref u)) (e2 : m "target" = some (.bytes T t)) : TgT u T led .next m led
theorem useek_c {tgt : Array UInt8} {tt : Tok} (S : CurSpec w D C) (hC : C fpi rest inner kd R st) (offi : Off fpi rest) (offd : ∀ p ∈ fpi ++ rest, p.1 ≠ du) (m1 : (u, instObj 611 du) ∈ rest) (hkd : ∀ x ∈ R, x.1.kind ≤ 1) (hup0 : 0 ≤ upto) (hup1 : upto < 72057594037927936) (hlo : ∀ b, lo = some b → b.size ≤ 1000) (htgt : tgt.size ≤ 1000) :
    Calls w (D + 9 + 1) 559 [.ref u, .bytes tgt tt] ((du, UD q inner upto lo hi going tg good sk tsk sv tsv) :: fpi) rest (fun r fp' => ∃ tgb, FfP C q du inner kd upto lo hi 0 tgb R fpi rest (ffwd hi upto (R.drop (startOf R (seekAt R ⟨clampLo lo tgt, upto.toNat, 1⟩))) (startOf R (seekAt R ⟨clampLo lo tgt, upto.toNat, 1⟩)) none) r fp') := by
  have q1 : (u, instObj 611 du) ∈ fpi ++ rest := List.mem_append_right _ m1
  have hcl : (clampLo lo tgt).size ≤ 1000 := by
    cases lo with
    | none => exact htgt
    | some l =>
      show (if ltB tgt l = true then l else tgt).size ≤ 1000
      split
      · exact hlo _ rfl
      · exact htgt
  refine' calls_ofG (binds := [("self", .ref u), ("target", .bytes tgt tt)]) ?ho ?hcd ?hb ?hl ?c1 ?c2 ?c3 ?c4 ?_
  fail "e"
  intro bb ok φ kφ
  refine sx_ifjG (TgT u (clampLo lo tgt) ((du, UD q inner upto lo hi going tg good sk tsk sv tsv) :: (fpi ++ rest))) (pc_and2 (pc_isnot (Px.mono (px_attr ok rfl (.tail _ q1) (.head _) rfl handed_bnd (by fail "r") (by fail "r") (by fail "r") (by fail "r") rfl rfl rfl rfl) bnd_isO) px_none rfl) (c2 := match lo with | none => false | some l => ltB tgt l) fun e => ?_) (fun hl ψ kψ => ?_) (fun hl ψ kψ => lx_nil (kψ .next _ _ ?_)) (fun m' led' h => ?_) fun f m' led' hf h => ?_
  · obtain ⟨lb, rfl⟩ := Option.isSome_iff_exists.mp e
    exact pc_ltB (Px.mono (px_name rfl rfl rfl rfl) isB) (Px.mono (px_attr ok rfl (.tail _ q1) (.head _) rfl rfl (by fail "r") (by fail "r") (by fail "r") (by fail "r") rfl rfl rfl rfl) (bnd_isB rfl)) rfl
  · obtain ⟨lb, rfl⟩ : ∃ lb, lo = some lb := by cases lo with | none => cases hl | some l => exact ⟨l, rfl⟩
    have hl2 : ltB tgt lb = true := hl
    refine sx_name (Px.mono (px_attr ok rfl (.tail _ q1) (.head _) rfl rfl (by fail "r") (by fail "r") (by fail "r") (by fail "r") rfl rfl rfl rfl) (bnd_isB rfl)) (fun v hv => ?_) rfl rfl rfl
    obtain ⟨t, rfl⟩ := hv
    have e : clampLo (some lb) tgt = lb := if_pos hl2
    exact lx_nil (kψ .next _ _ (.mk t rfl (by rw [e]; rfl)))
  · have e : clampLo lo tgt = tgt := by
      cases lo with
      | none => rfl
      | some l => exact if_neg (by have : ltB tgt l = false := hl; rw [this]; decide)
    rw [e]
    exact .mk tt rfl rfl
  · obtain ⟨t, e1, e2⟩ := h
    refine lx_seq (lx_goingP ok q1 offd e1 (px_globI ok (by fail "r") rfl rfl rfl) (fun tgb => ?_) rfl rfl rfl rfl)
    refine sx_forget ok q1 offd e1 (fun ta tb => ?_) rfl rfl (by omega) rfl rfl rfl
    refine sx_expr (lm1 ok (px_attr ok e1 (.tail _ q1) (.head _) rfl rfl (by fail "r") (by fail "r") (by fail "r") (by fail "r") rfl rfl rfl rfl) (px_cur ok S hC (fun p hp => .tail _ hp) .seek) (px_args1 (pf1 (P := IsB (ikb ⟨clampLo lo tgt, upto.toNat, 1⟩)) ok (px_glob ok (by fail "r") rfl rfl rfl) (px_args3 (Px.mono (px_name e2 rfl rfl rfl) isB) (Px.mono (px_attr ok e1 (.tail _ q1) (.head _) rfl rfl (by fail "r") (by fail "r") (by fail "r") (by fail "r") rfl rfl rfl rfl) isI) (px_globI ok (by fail "r") rfl rfl rfl) rfl rfl rfl) (fun vs hvs => ?_) (by fail "r") rfl rfl rfl) rfl) (fun vs hvs => ?_) (keep_cur _ _ _) rfl rfl rfl) rfl rfl
    · obtain ⟨_, _, _, rfl, ⟨t, rfl⟩, ⟨t', rfl⟩, ⟨t2, rfl⟩⟩ := hvs
      exact px_call ok (mkik_c hup0 hup1 hcl) (fun r fp' h => h) (fun _ h => nomatch h) rfl (by omega)
    · obtain ⟨_, rfl, ⟨t, rfl⟩⟩ := hvs
      refine lx_inner (D' := D) ok rfl (by omega) offi offd (fun a b => S.seek hC a b (ok_seek hcl hup1 hup0)) fun fp₁ ha hC1 => ?_
      have q1 : (u, instObj 611 du) ∈ fp₁ ++ rest := List.mem_append_right _ m1
      refine sx_expr (lm1 ok (px_name e1 rfl rfl rfl) (px_meth ok (.tail _ q1) (.head _) rfl (by fail "r") (by fail "r") (by fail "r")) (px_args1 px_bool rfl) (fun vs hvs => ?_) (by fail "r") rfl rfl rfl) rfl rfl
      obtain ⟨_, rfl, rfl⟩ := hvs
      refine lx_call ok rfl (by omega) (ff_c (b0 := false) S hC1 (offi.adr ha) (offd_adr offd ha) m1 hkd) (fun _ h => h) fun r fp' hp => ?_
      obtain ⟨fp₂, st₂, ta, tb, ha2, hC2, hs⟩ := hp
      exact lx_nil (kφ .next _ (_ :: _) ⟨tgb, .mk fp₂ st₂ ta tb (ha2.trans ha) hC2 hs⟩)
  · cases h
    exact absurd rfl hf
end
open PySem PySem.W PyProof.Rows
set_option linter.unusedVariables false
set_option maxRecDepth 100000
set_option maxHeartbeats 8000000
section
variable {w : World} {D : Nat} {C : CurP} {u du inner : Addr} {kd : Bool} {R : List Row} {st : Option Nat} {fpi rest : Led} {q : UP} {upto going : Int} {lo hi : Option (Array UInt8)} {tg tsk tsv : Tok} {good : Bool} {sk sv : Array UInt8}
theorem sx_uneed {F : FnC} {b : Bx} {m : Str → Option Value} {φ : Flow → (Str → Option Value) → Led → Prop} {pl : Sem Bool} {xp ap pos : Pos} {stmts : List Stmt} {T : Led} (ok : Okx w D b) (m1 : (u, instObj 611 du) ∈ T) (e1 : m "self" = some (.ref u)) (hq : Lx w F b (execs stmts (evx F b)) φ m ((du, UD q inner upto lo hi going tg true sk tsk sv tsv) :: T)) (hk : F.cs.kind = .function) (hx : (evx F b).kindOf "self" = some .local) (hD : 1 ≤ D) (hia : interactive (evx F b) = false)
    (hs : swapsWith (.Call (.Attribute (.Name "self" xp) "need" ap) [] [] pos) none pos.line (evx F b) = pure false) (he : eval (.Call (.Attribute (.Name "self" xp) "need" ap) [] [] pos) (evx F b) = (do
      let ov ← eval (.Name "self" xp) (evx F b)
      standAt ap.atName
      let (f, first) ← holding [ov] (getMethod ov "need" pl)
      callWith pos f first (backTo pos (starEach [] (evx F b))) [])) : Lx w F b (execs (.Expr (.Call (.Attribute (.Name "self" xp) "need" ap) [] [] pos) pos :: stmts) (evx F b)) φ m ((du, UD q inner upto lo hi going tg true sk tsk sv tsv) :: T) := by
  refine sx_expr (lm0 ok (px_name e1 hk hx rfl) (px_meth ok (.tail _ m1) (.head _) rfl (by fail "r") (by fail "r") (by fail "r")) (lx_call ok hk hD (uneed_c (D := 0) m1) (fun _ h => h) fun r fp' hp => ?_) (by fail "r") he) hia hs
  subst hp
  exact hq
theorem px_uok {F : FnC} {b : Bx} {m : Str → Option Value} {D' i : Nat} {y : Row} {fp T : Led} {pl : Sem Bool} {np xp ap ap2 pos pos2 : Pos} (ok : Okx w D' b) (S : CurSpec w D C) (hC : C fp rest inner kd R (some i)) (hy : R[i]? = some y) (e1 : m "self" = some (.ref u)) (m1 : (u, instObj 611 du) ∈ T) (hT : ∀ p ∈ fp ++ rest, p ∈ T) (hk : F.cs.kind = .function) (hx : (evx F b).kindOf "self" = some .local) (hxg : (evx F b).kindOf "user_of" = some .globalImplicit) (hD : D + 1 ≤ D')
    (he : eval (.Call (.Attribute (.Attribute (.Name "self" xp) "inner" ap) "key" ap2) [] [] pos) (evx F b) = (do
      let ov ← eval (.Attribute (.Name "self" xp) "inner" ap) (evx F b)
      standAt ap2.atName
      let (f, first) ← holding [ov] (getMethod ov "key" pl)
      callWith pos f first (backTo pos (starEach [] (evx F b))) []))
    (ha : starEach [.Call (.Attribute (.Attribute (.Name "self" xp) "inner" ap) "key" ap2) [] [] pos] (evx F b) = (false, eval (.Call (.Attribute (.Attribute (.Name "self" xp) "inner" ap) "key" ap2) [] [] pos) (evx F b)) :: starEach [] (evx F b))
    (he2 : eval (.Call (.Name "user_of" np) [.Call (.Attribute (.Attribute (.Name "self" xp) "inner" ap) "key" ap2) [] [] pos] [] pos2) (evx F b) = (do callWith pos2 (← eval (.Name "user_of" np) (evx F b)) [] (backTo pos2 (starEach [.Call (.Attribute (.Attribute (.Name "self" xp) "inner" ap) "key" ap2) [] [] pos] (evx F b))) (backToKw pos2 (keywordEach [] (evx F b))))) :
    Px w F b (eval (.Call (.Name "user_of" np) [.Call (.Attribute (.Attribute (.Name "self" xp) "inner" ap) "key" ap2) [] [] pos] [] pos2) (evx F b)) (IsB y.1.u) m ((du, UD q inner upto lo hi going tg good sk tsk sv tsv) :: T) :=
  pf1 ok (px_glob ok (by fail "r") hk hxg rfl) (px_args1 (px_ikey ok S hC hy e1 m1 hT hk hx (by omega) he) ha) (fun vs hvs => by
    obtain ⟨v, rfl, t, rfl⟩ := hvs
    exact px_call ok (user_of_p (S.ok hC _ (List.mem_of_getElem? hy))) (fun r fp' h => h) (fun _ h => nomatch h) hk (by omega)) (by fail "r") ha rfl he2
theorem ustep_end {F : FnC} {b : Bx} {m : Str → Option Value} {φ : Flow → (Str → Option Value) → Led → Prop} {fp' : Led} {st' : Option Nat} {A : Int} {tgb : Tok} {xp ap pos cp : Pos} {k} {D' : Nat} {pl : Sem Bool} (ok : Okx w D' b) (S : CurSpec w D C) (hC : C fp' rest inner kd R st') (offi : Off fp' rest) (offd : ∀ p ∈ fp' ++ rest, p.1 ≠ du) (m1 : (u, instObj 611 du) ∈ rest) (hkd : ∀ x ∈ R, x.1.kind ≤ 1) (ha : sameAdr fp' fpi)
    (b0 : Bool) (e1 : m "self" = some (.ref u)) (hq : ∀ fp₂, FfP C q du inner kd upto lo hi A tgb R fpi rest (ffwd hi upto (R.drop (startOf R st')) (startOf R st') (if b0 then some sk else none)) .none fp₂ → φ .next m (fp₂ ++ rest)) (hk : F.cs.kind = .function) (hx : (evx F b).kindOf "self" = some .local) (hD : D + 6 ≤ D') (hia : interactive (evx F b) = false)
    (hs : swapsWith (.Call (.Attribute (.Name "self" xp) "find_forward" ap) [.Constant (.bool b0) k cp] [] pos) none pos.line (evx F b) = pure false)
    (he : eval (.Call (.Attribute (.Name "self" xp) "find_forward" ap) [.Constant (.bool b0) k cp] [] pos) (evx F b) = (do
      let ov ← eval (.Name "self" xp) (evx F b)
      standAt ap.atName
      let (f, first) ← holding [ov] (getMethod ov "find_forward" pl)
      callWith pos f first (backTo pos (starEach [.Constant (.bool b0) k cp] (evx F b))) []))
    (hse : starEach [.Constant (.bool b0) k cp] (evx F b) = (false, eval (.Constant (.bool b0) k cp) (evx F b)) :: starEach [] (evx F b)) :
    Lx w F b (execs [.Expr (.Call (.Attribute (.Name "self" xp) "find_forward" ap) [.Constant (.bool b0) k cp] [] pos) pos] (evx F b)) φ m ((du, UD q inner upto lo hi A tgb good sk tsk sv tsv) :: (fp' ++ rest)) := by
  have q1 : (u, instObj 611 du) ∈ fp' ++ rest := List.mem_append_right _ m1
  refine sx_expr (lm1 ok (px_name e1 hk hx rfl) (px_meth ok (.tail _ q1) (.head _) rfl (by fail "r") (by fail "r") (by fail "r")) (px_args1 px_bool hse) (fun vs hvs => ?_) (by fail "r") hse rfl he) hia hs
  obtain ⟨_, rfl, rfl⟩ := hvs
  refine lx_call ok hk hD (ff_c (b0 := b0) S hC offi offd m1 hkd) (fun _ h => h) fun r fp' hp => ?_
  obtain ⟨fp₂, st₂, ta, tb, ha2, hC2, hs⟩ := hp
  exact lx_nil (hq (_ :: _) (.mk fp₂ st₂ ta tb (ha2.trans ha) hC2 hs))
theorem uback_end {F : FnC} {b : Bx} {m : Str → Option Value} {φ : Flow → (Str → Option Value) → Led → Prop} {fp' : Led} {st' : Option Nat} {xp ap pos : Pos} {D' : Nat} {pl : Sem Bool} (ok : Okx w D' b) (S : CurSpec w D C) (hC : C fp' rest inner kd R st') (offi : Off fp' rest) (offd : ∀ p ∈ fp' ++ rest, p.1 ≠ du) (m1 : (u, instObj 611 du) ∈ rest) (hkd : ∀ x ∈ R, x.1.kind ≤ 1) (ha : sameAdr fp' fpi)
    (e1 : m "self" = some (.ref u)) (hq : ∀ fp₂, FbP C q du inner kd upto lo hi R fpi rest (fbwd lo upto R (lenOf st') none) .none fp₂ → φ .next m (fp₂ ++ rest)) (hk : F.cs.kind = .function) (hx : (evx F b).kindOf "self" = some .local) (hD : D + 6 ≤ D') (hia : interactive (evx F b) = false)
    (hs : swapsWith (.Call (.Attribute (.Name "self" xp) "find_backward" ap) [] [] pos) none pos.line (evx F b) = pure false)
    (he : eval (.Call (.Attribute (.Name "self" xp) "find_backward" ap) [] [] pos) (evx F b) = (do
      let ov ← eval (.Name "self" xp) (evx F b)
      standAt ap.atName
      let (f, first) ← holding [ov] (getMethod ov "find_backward" pl)
      callWith pos f first (backTo pos (starEach [] (evx F b))) [])) :
    Lx w F b (execs [.Expr (.Call (.Attribute (.Name "self" xp) "find_backward" ap) [] [] pos) pos] (evx F b)) φ m ((du, UD q inner upto lo hi going tg good sk tsk sv tsv) :: (fp' ++ rest)) := by
  have q1 : (u, instObj 611 du) ∈ fp' ++ rest := List.mem_append_right _ m1
  refine sx_expr (lm0 ok (px_name e1 hk hx rfl) (px_meth ok (.tail _ q1) (.head _) rfl (by fail "r") (by fail "r") (by fail "r")) (lx_call ok hk hD (fb_c S hC offi offd m1 hkd) (fun _ h => h) fun r fp' hp => ?_) (by fail "r") he) hia hs
  obtain ⟨fp₂, t, ta, tb, ha2, hC2⟩ := hp
  exact lx_nil (hq (_ :: _) (.mk fp₂ t ta tb (ha2.trans ha) hC2))
theorem ustep0_c {j : Nat} {y : Row} (S : CurSpec w D C) (hC : C fpi rest inner kd R (some j)) (offi : Off fpi rest) (offd : ∀ p ∈ fpi ++ rest, p.1 ≠ du) (m1 : (u, instObj 611 du) ∈ rest) (hkd : ∀ x ∈ R, x.1.kind ≤ 1) (hy : R[j]? = some y) :
    Calls w (D + 9 + 1) 587 [.ref u] ((du, UD q inner upto lo hi 0 tg true sk tsk sv tsv) :: fpi) rest (FfP C q du inner kd upto lo hi 0 tg R fpi rest (ffwd hi upto (R.drop (startOf R (nextAt R j))) (startOf R (nextAt R j)) (some y.1.u))) := by
  have q1 : (u, instObj 611 du) ∈ fpi ++ rest := List.mem_append_right _ m1
  refine' calls_ofG (binds := [("self", .ref u)]) ?ho ?hcd ?hb ?hl ?c1 ?c2 ?c3 ?c4 ?_
  fail "e"
  intro bb ok φ kφ
  refine sx_uneed ok q1 rfl ?_ rfl rfl (by omega) rfl rfl rfl
  refine lx_seq (lx_goodP ok q1 offd rfl px_bool ?_ rfl rfl rfl rfl)
  refine sx_if (pc_eqI (Px.mono (px_attr ok rfl (.tail _ q1) (.head _) rfl rfl (by fail "r") (by fail "r") (by fail "r") (by fail "r") rfl rfl rfl rfl) isI) (px_globI ok (by fail "r") rfl rfl rfl) rfl) (fun h => by cases h) fun _ => ?_
  refine lx_seq (lx_skeyP ok q1 offd rfl (px_uok ok S hC hy rfl q1 (fun _ h => h) rfl rfl rfl (by omega) rfl rfl rfl) (fun t => ?_) rfl rfl rfl rfl)
  refine sx_imove (mn := .step) ok S hC offi offd rfl m1 (fun a b => S.step hC a b) (fun fp' ha hC2 => ?_) rfl rfl (by omega) rfl rfl rfl
  exact lx_nil (ustep_end ok S hC2 (offi.adr ha) (offd_adr offd ha) m1 hkd ha true rfl (fun fp₂ h => kφ .next _ fp₂ h) rfl rfl (by omega) rfl rfl rfl rfl)
theorem ustep1_c (S : CurSpec w D C) (hC : C fpi rest inner kd R st) (offi : Off fpi rest) (offd : ∀ p ∈ fpi ++ rest, p.1 ≠ du) (m1 : (u, instObj 611 du) ∈ rest) (hkd : ∀ x ∈ R, x.1.kind ≤ 1) :
    Calls w (D + 9 + 1) 587 [.ref u] ((du, UD q inner upto lo hi 1 tg true sk tsk sv tsv) :: fpi) rest (fun r fp' => ∃ tgb, FfP C q du inner kd upto lo hi 0 tgb R fpi rest (ffwd hi upto (R.drop (startOf R (stepPl R st))) (startOf R (stepPl R st)) (some sk)) r fp') := by
  have q1 : (u, instObj 611 du) ∈ fpi ++ rest := List.mem_append_right _ m1
  refine' calls_ofG (binds := [("self", .ref u)]) ?ho ?hcd ?hb ?hl ?c1 ?c2 ?c3 ?c4 ?_
  fail "e"
  intro bb ok φ kφ
  refine sx_uneed ok q1 rfl ?_ rfl rfl (by omega) rfl rfl rfl
  refine lx_seq (lx_goodP ok q1 offd rfl px_bool ?_ rfl rfl rfl rfl)
  refine sx_if (pc_eqI (Px.mono (px_attr ok rfl (.tail _ q1) (.head _) rfl rfl (by fail "r") (by fail "r") (by fail "r") (by fail "r") rfl rfl rfl rfl) isI) (px_globI ok (by fail "r") rfl rfl rfl) rfl) (fun _ => ?_) (fun h => by cases h)
  refine lx_seq (lx_goingP ok q1 offd rfl (px_globI ok (by fail "r") rfl rfl rfl) (fun tgb => ?_) rfl rfl rfl rfl)
  refine sx_if (pc_val (px_ivalid ok S hC rfl q1 (fun _ h => h) rfl rfl (by omega) rfl) rfl) (fun hc => ?_) fun hc => ?_
  · obtain ⟨j, rfl⟩ := Option.isSome_iff_exists.mp hc
    refine sx_imove (mn := .step) ok S hC offi offd rfl m1 (fun a b => S.step hC a b) (fun fp' ha hC2 => ?_) rfl rfl (by omega) rfl rfl rfl
    exact lx_nil (lx_nil (ustep_end ok S hC2 (offi.adr ha) (offd_adr offd ha) m1 hkd ha true rfl (fun fp₂ h => kφ .next _ fp₂ ⟨tgb, h⟩) rfl rfl (by omega) rfl rfl rfl rfl))
  · obtain rfl : st = none := by cases st with | none => rfl | some i => cases hc
    refine sx_imove (mn := .first) ok S hC offi offd rfl m1 (fun a b => S.first hC a b) (fun fp' ha hC2 => ?_) rfl rfl (by omega) rfl rfl rfl
    exact lx_nil (lx_nil (ustep_end ok S hC2 (offi.adr ha) (offd_adr offd ha) m1 hkd ha true rfl (fun fp₂ h => kφ .next _ fp₂ ⟨tgb, h⟩) rfl rfl (by omega) rfl rfl rfl rfl))
theorem uback1_c (S : CurSpec w D C) (hC : C fpi rest inner kd R st) (offi : Off fpi rest) (offd : ∀ p ∈ fpi ++ rest, p.1 ≠ du) (m1 : (u, instObj 611 du) ∈ rest) (hkd : ∀ x ∈ R, x.1.kind ≤ 1) :
    Calls w (D + 9 + 1) 594 [.ref u] ((du, UD q inner upto lo hi 1 tg true sk tsk sv tsv) :: fpi) rest (FbP C q du inner kd upto lo hi R fpi rest (fbwd lo upto R (lenOf st) none)) := by
  have q1 : (u, instObj 611 du) ∈ fpi ++ rest := List.mem_append_right _ m1
  refine' calls_ofG (binds := [("self", .ref u)]) ?ho ?hcd ?hb ?hl ?c1 ?c2 ?c3 ?c4 ?_
  fail "e"
  intro bb ok φ kφ
  refine sx_uneed ok q1 rfl ?_ rfl rfl (by omega) rfl rfl rfl
  refine lx_seq (lx_goodP ok q1 offd rfl px_bool ?_ rfl rfl rfl rfl)
  refine sx_if1 (pc_eqI (Px.mono (px_attr ok rfl (.tail _ q1) (.head _) rfl rfl (by fail "r") (by fail "r") (by fail "r") (by fail "r") rfl rfl rfl rfl) isI) (px_globI ok (by fail "r") rfl rfl rfl) rfl) (fun h => by cases h) fun _ => ?_
  exact uback_end ok S hC offi offd m1 hkd rfl rfl (fun fp₂ h => kφ .next _ fp₂ h) rfl rfl (by omega) rfl rfl rfl
inductive BkJ (C : CurP) (q : UP) (u du inner : Addr) (kd : Bool) (upto : Int) (lo hi : Option (Array UInt8)) (tg : Tok) (sk : Array UInt8) (tsk : Tok) (sv : Array UInt8) (tsv : Tok) (R : List Row) (here : Array UInt8) (fp rest : Led) (r0 : Nat) : Nat → (Str → Option Value) → Led → Prop
  | mk {n m} (fp₁ : Led) (e1 : m "self" = some (.ref u)) (e2 : ∃ v, m "here" = some v ∧ IsB here v) (hn : n ≤ R.length) (ha : sameAdr fp₁ fp) (hC : C fp₁ rest inner kd R (befOf n)) (hr : skipb R here n = r0) :
    BkJ C q u du inner kd upto lo hi tg sk tsk sv tsv R here fp rest r0 n m ((du, UD q inner upto lo hi 0 tg false sk tsk sv tsv) :: (fp₁ ++ rest))
theorem uback0_c {j : Nat} {y : Row} (S : CurSpec w D C) (hC : C fpi rest inner kd R (some j)) (offi : Off fpi rest) (offd : ∀ p ∈ fpi ++ rest, p.1 ≠ du) (m1 : (u, instObj 611 du) ∈ rest) (hkd : ∀ x ∈ R, x.1.kind ≤ 1) (hy : R[j]? = some y) :
    Calls w (D + 9 + 1) 594 [.ref u] ((du, UD q inner upto lo hi 0 tg true sk tsk sv tsv) :: fpi) rest (FbP C q du inner kd upto lo hi R fpi rest (fbwd lo upto R (lenOf (befOf (skipb R y.1.u j))) none)) := by
  have q1 : (u, instObj 611 du) ∈ fpi ++ rest := List.mem_append_right _ m1
  have hjl := (List.getElem?_eq_some_iff.mp hy).1
  generalize hr0 : skipb R y.1.u j = r0
  refine' calls_ofG (binds := [("self", .ref u)]) ?ho ?hcd ?hb ?hl ?c1 ?c2 ?c3 ?c4 ?_
  fail "e"
  intro bb ok φ kφ
  refine sx_uneed ok q1 rfl ?_ rfl rfl (by omega) rfl rfl rfl
  refine lx_seq (lx_goodP ok q1 offd rfl px_bool ?_ rfl rfl rfl rfl)
  refine sx_if (pc_eqI (Px.mono (px_attr ok rfl (.tail _ q1) (.head _) rfl rfl (by fail "r") (by fail "r") (by fail "r") (by fail "r") rfl rfl rfl rfl) isI) (px_globI ok (by fail "r") rfl rfl rfl) rfl) (fun _ => ?_) fun h => by cases h
  refine sx_name (px_uok ok S hC hy rfl q1 (fun _ h => h) rfl rfl rfl (by omega) rfl rfl rfl) (fun v hv => ?_) rfl rfl rfl
  refine sx_imove (mn := .back) ok S hC offi offd rfl m1 (fun a b => S.back hC a b) (fun fp' ha hC2 => ?_) rfl rfl (by omega) rfl rfl rfl
  refine sx_while (BkJ C q u du inner kd upto lo hi tg sk tsk sv tsv R y.1.u fpi rest r0) (InT C q u du inner kd upto lo hi 0 tg false sk tsk sv tsv R fpi rest (befOf r0) .next) j (.mk fp' rfl ⟨v, rfl, hv⟩ (by omega) ha hC2 hr0) ?_ fun m' led' h => ?_
  · clear hC hC2
    intro n m₁ led₁ hx Φ kn kc kb kr
    obtain ⟨fp₁, e1, e2, hn, ha, hC, hr⟩ := hx
    have offd1 := offd_adr offd ha
    have offi1 := offi.adr ha
    have q1 : (u, instObj 611 du) ∈ fp₁ ++ rest := List.mem_append_right _ m1
    cases n with
    | zero =>
      refine ⟨false, pc_and (c2 := true) (pc_val (px_ivalid ok S hC e1 q1 (fun _ h => h) rfl rfl (by omega) rfl) rfl) (fun e => by cases e), (fun h => by cases h), fun _ => ?_⟩
      obtain rfl : 0 = r0 := hr
      exact .mk fp₁ e1 ha hC
    | succ n =>
      obtain ⟨z, hz⟩ : ∃ z, R[n]? = some z := ⟨_, List.getElem?_eq_getElem (by omega)⟩
      rw [befOf_some] at hC
      refine ⟨!ltB z.1.u y.1.u, pc_and2 (pc_val (px_ivalid ok S hC e1 q1 (fun _ h => h) rfl rfl (by omega) rfl) rfl) (fun e => pc_geB (px_uok ok S hC hz e1 q1 (fun _ h => h) rfl rfl rfl (by omega) rfl rfl rfl) (px_nameP e2 rfl rfl rfl) rfl), fun hc => ?_, fun hc => ?_⟩
      · have hs : skipb R y.1.u (n + 1) = skipb R y.1.u n := by
          rw [skipb, hz]; exact if_neg (by intro h; rw [h] at hc; cases hc)
        refine sx_imove (mn := .back) ok S hC offi1 offd1 e1 m1 (fun a b => S.back hC a b) (fun fp₂ ha2 hC2 => ?_) rfl rfl (by omega) rfl rfl rfl
        exact lx_nil (kn n _ _ (Nat.lt_succ_self _) (.mk fp₂ e1 e2 (by omega) (ha2.trans ha) hC2 (hs.symm.trans hr)))
      · have hs : skipb R y.1.u (n + 1) = n + 1 := by
          rw [skipb, hz]; exact if_pos (by cases e : ltB z.1.u y.1.u with | true => rfl | false => rw [e] at hc; cases hc)
        obtain rfl : n + 1 = r0 := hs.symm.trans hr
        exact .mk fp₁ e1 ha hC
  · obtain ⟨fp₁, e1, ha, hC⟩ := h
    exact lx_nil (uback_end ok S hC (offi.adr ha) (offd_adr offd ha) m1 hkd ha e1 (fun fp₂ h => kφ .next _ fp₂ h) rfl rfl (by omega) rfl rfl rfl)
theorem ulast_c (S : CurSpec w D C) (hC : C fpi rest inner kd R st) (offi : Off fpi rest) (offd : ∀ p ∈ fpi ++ rest, p.1 ≠ du) (m1 : (u, instObj 611 du) ∈ rest) (hkd : ∀ x ∈ R, x.1.kind ≤ 1) (hhi : ∀ b, hi = some b → b.size ≤ 1000) :
    Calls w (D + 9 + 1) 566 [.ref u] ((du, UD q inner upto lo hi going tg good sk tsk sv tsv) :: fpi) rest (FbP C q du inner kd upto lo hi R fpi rest (fbwd lo upto R (lenOf (lastLen R hi)) none)) := by
  have q1 : (u, instObj 611 du) ∈ fpi ++ rest := List.mem_append_right _ m1
  refine' calls_ofG (binds := [("self", .ref u)]) ?ho ?hcd ?hb ?hl ?c1 ?c2 ?c3 ?c4 ?_
  fail "e"
  intro bb ok φ kφ
  refine lx_seq (lx_goingP ok q1 offd rfl (px_globI ok (by fail "r") rfl rfl rfl) (fun tgb => ?_) rfl rfl rfl rfl)
  refine sx_forget ok q1 offd rfl (fun ta tb => ?_) rfl rfl (by omega) rfl rfl rfl
  refine sx_ifjG (InT C q u du inner kd upto lo hi 1 tgb false #[] ta #[] tb R fpi rest (lastLen R hi)) (pc_is (Px.mono (px_attr ok rfl (.tail _ q1) (.head _) rfl handed_bnd (by fail "r") (by fail "r") (by fail "r") (by fail "r") rfl rfl rfl rfl) bnd_isO) px_none rfl) (fun hl ψ kψ => ?_) (fun hl ψ kψ => ?_) (fun m' led' h => ?_) fun f m' led' hf h => ?_
  · obtain rfl : hi = none := by cases hi with | none => rfl | some l => cases hl
    refine sx_imove (mn := .last) ok S hC offi offd rfl m1 (fun a b => S.last hC a b) (fun fp' ha2 hC2 => ?_) rfl rfl (by omega) rfl rfl rfl
    exact lx_nil (kψ .next _ _ (.mk fp' rfl ha2 hC2))
  · obtain ⟨lb, rfl⟩ : ∃ lb, hi = some lb := by cases hi with | none => cases hl | some l => exact ⟨l, rfl⟩
    have hlb := hhi _ rfl
    refine sx_expr (lm1 ok (px_attr ok rfl (.tail _ q1) (.head _) rfl rfl (by fail "r") (by fail "r") (by fail "r") (by fail "r") rfl rfl rfl rfl) (px_cur ok S hC (fun p hp => .tail _ hp) .seek) (px_args1 (pf1 (P := IsB (ikb ⟨lb, 72057594037927935, 1⟩)) ok (px_glob ok (by fail "r") rfl rfl rfl) (px_args3 (Px.mono (px_attr ok rfl (.tail _ q1) (.head _) rfl rfl (by fail "r") (by fail "r") (by fail "r") (by fail "r") rfl rfl rfl rfl) (bnd_isB rfl)) (px_globI ok (by fail "r") rfl rfl rfl) (px_globI ok (by fail "r") rfl rfl rfl) rfl rfl rfl) (fun vs hvs => ?_) (by fail "r") rfl rfl rfl) rfl) (fun vs hvs => ?_) (keep_cur _ _ _) rfl rfl rfl) rfl rfl
    · obtain ⟨_, _, _, rfl, ⟨t, rfl⟩, ⟨t', rfl⟩, ⟨t2, rfl⟩⟩ := hvs
      exact px_call ok (mkik_c (by decide) (by decide) hlb) (fun r fp' h => h) (fun _ h => nomatch h) rfl (by omega)
    · obtain ⟨_, rfl, ⟨t, rfl⟩⟩ := hvs
      refine lx_inner (D' := D) ok rfl (by omega) offi offd (fun a b => S.seek hC a b (ok_max hlb)) fun fp₁ ha hC1 => ?_
      have q1 : (u, instObj 611 du) ∈ fp₁ ++ rest := List.mem_append_right _ m1
      show Lx w _ bb (execs _ _) _ _ _
      generalize hst : seekAt R ⟨lb, 72057594037927935, 1⟩ = st1 at hC1
      have hll : lastLen R (some lb) = backOf R st1 := by rw [← hst]; rfl
      rw [hll] at kψ
      clear hst hll
      refine sx_if (pc_val (px_ivalid ok S hC1 rfl q1 (fun _ h => h) rfl rfl (by omega) rfl) rfl) (fun hc => ?_) fun hc => ?_
      · obtain ⟨j, rfl⟩ := Option.isSome_iff_exists.mp hc
        refine sx_imove (mn := .back) ok S hC1 (offi.adr ha) (offd_adr offd ha) rfl m1 (fun a b => S.back hC1 a b) (fun fp' ha2 hC2 => ?_) rfl rfl (by omega) rfl rfl rfl
        exact lx_nil (lx_nil (kψ .next _ _ (.mk fp' rfl (ha2.trans ha) hC2)))
      · obtain rfl : st1 = none := by cases st1 with | none => rfl | some i => cases hc
        refine sx_imove (mn := .last) ok S hC1 (offi.adr ha) (offd_adr offd ha) rfl m1 (fun a b => S.last hC1 a b) (fun fp' ha2 hC2 => ?_) rfl rfl (by omega) rfl rfl rfl
        exact lx_nil (lx_nil (kψ .next _ _ (.mk fp' rfl (ha2.trans ha) hC2)))
  · obtain ⟨fp₁, e1, ha, hC1⟩ := h
    exact uback_end ok S hC1 (offi.adr ha) (offd_adr offd ha) m1 hkd ha e1 (fun fp₂ h => kφ .next _ fp₂ h) rfl rfl (by omega) rfl rfl rfl
  · cases h
    exact absurd rfl hf
end
open PySem PySem.W PyProof.Rows
/-! what a user's iterator tells: plain law -/
def SortedR (R : List Row) : Prop := R.Pairwise fun a b => cmpI a.1 b.1 ≤ 0
structure Told (R : List Row) (upto : Int) (lo hi : Option (Array UInt8)) (i : Nat) (x : Row) : Prop where
  here : R[i]? = some x
  vis : x.1.seq ≤ upto
  put : x.1.kind ≠ 0
  low : underLo lo x.1.u = false
  high : pastHi hi x.1.u = false
  newest : ∀ (i' : Nat) (y : Row), i' < i → R[i']? = some y → y.1.u = x.1.u → ¬ y.1.seq ≤ upto
theorem sorted_at {R : List Row} (hs : SortedR R) {i j : Nat} {x y : Row} (hx : R[i]? = some x) (hy : R[j]? = some y) (h : i < j) : cmpI x.1 y.1 ≤ 0 := by
  unfold SortedR at hs
  rw [List.pairwise_iff_getElem] at hs
  obtain ⟨h1, e1⟩ := List.getElem?_eq_some_iff.mp hx
  obtain ⟨h2, e2⟩ := List.getElem?_eq_some_iff.mp hy
  have := hs i j h1 h2 h
  rw [e1, e2] at this
  exact this
theorem user_at {R : List Row} (hs : SortedR R) {i j : Nat} {x y : Row} (hx : R[i]? = some x) (hy : R[j]? = some y) (h : i ≤ j) : ltB y.1.u x.1.u = false := by
  by_cases e : i = j
  · subst e; rw [hx] at hy; cases hy; exact ltB_irrefl _
  · exact ((cmpI_le _ _).mp (sorted_at hs hx hy (by omega))).1
theorem pastHi_mono {hi : Option (Array UInt8)} {a b : Array UInt8} (h : pastHi hi a = true) (g : ltB b a = false) : pastHi hi b = true := by
  cases hi with
  | none => cases h
  | some c =>
    have h1 : ltB a c = false := by unfold pastHi at h; simpa using h
    show (!ltB b c) = true
    rw [ltB_le_trans h1 g]; rfl
theorem underLo_mono {lo : Option (Array UInt8)} {a b : Array UInt8} (h : underLo lo a = true) (g : ltB a b = false) : underLo lo b = true := by
  cases lo with
  | none => cases h
  | some c =>
    have h1 : ltB a c = true := h
    show ltB b c = true
    cases e : ltB b c with
    | true => rfl
    | false => have := ltB_le_trans (a := c) e g; rw [h1] at this; cases this
def FirstT (R : List Row) (upto : Int) (lo hi : Option (Array UInt8)) (i : Nat) : Option Nat → Prop
  | none => ∀ (j : Nat) x, i ≤ j → ¬ Told R upto lo hi j x
  | some j => i ≤ j ∧ (∃ x, Told R upto lo hi j x) ∧ ∀ (k : Nat) x, i ≤ k → k < j → ¬ Told R upto lo hi k x
def LastT (R : List Row) (upto : Int) (lo hi : Option (Array UInt8)) (n : Nat) : Option Nat → Prop
  | none => ∀ (j : Nat) x, j < n → ¬ Told R upto lo hi j x
  | some j => j < n ∧ (∃ x, Told R upto lo hi j x) ∧ ∀ (k : Nat) x, j < k → k < n → ¬ Told R upto lo hi k x
section
variable {R : List Row} {upto : Int} {lo hi : Option (Array UInt8)}
theorem FirstT.pass {i : Nat} {r : Option Nat} (h : FirstT R upto lo hi (i + 1) r) (hn : ∀ x, ¬ Told R upto lo hi i x) : FirstT R upto lo hi i r := by
  cases r with
  | none =>
    intro j x hj
    by_cases e : i = j
    · subst e; exact hn x
    · exact h j x (by omega)
  | some j =>
    refine ⟨by have := h.1; omega, h.2.1, fun k x h1 h2 => ?_⟩
    by_cases e : i = k
    · subst e; exact hn x
    · exact h.2.2 k x (by omega) h2
theorem LastT.pass {n : Nat} {r : Option Nat} (h : LastT R upto lo hi n r) (hn : ∀ x, ¬ Told R upto lo hi n x) : LastT R upto lo hi (n + 1) r := by
  cases r with
  | none =>
    intro j x hj
    by_cases e : j = n
    · subst e; exact hn x
    · exact h j x (by omega)
  | some j =>
    refine ⟨by have := h.1; omega, h.2.1, fun k x h1 h2 => ?_⟩
    by_cases e : k = n
    · subst e; exact hn x
    · exact h.2.2 k x h1 (by omega)
def Cond (R : List Row) (upto : Int) (lo : Option (Array UInt8)) (i : Nat) (skip : Option (Array UInt8)) : Prop :=
  ∀ (j : Nat) (y : Row), i ≤ j → R[j]? = some y → y.1.seq ≤ upto → (openTo skip y.1.u = false ↔ ∃ (i' : Nat) (z : Row), i' < i ∧ R[i']? = some z ∧ z.1.seq ≤ upto ∧ z.1.u = y.1.u) ∧ (openTo skip y.1.u = true → underLo lo y.1.u = false)
theorem Cond.same {i : Nat} {skip : Option (Array UInt8)} (h : Cond R upto lo i skip) {x : Row} (hx : R[i]? = some x) (hc : x.1.seq ≤ upto → openTo skip x.1.u = false) : Cond R upto lo (i + 1) skip := by
  intro j y hj hy hv
  obtain ⟨a, b⟩ := h j y (by omega) hy hv
  refine ⟨⟨fun g => ?_, ?_⟩, b⟩
  · obtain ⟨i', z, h1, h2⟩ := a.mp g
    exact ⟨i', z, by omega, h2⟩
  · intro hx1
    obtain ⟨i', z, h1, h2, h3, h4⟩ := hx1
    by_cases e : i' = i
    · subst e
      rw [hx] at h2; cases h2
      rw [← h4]; exact hc h3
    · exact a.mpr ⟨i', z, by omega, h2, h3, h4⟩
theorem Cond.told (hs : SortedR R) {i : Nat} {x : Row} (hx : R[i]? = some x) (hv : x.1.seq ≤ upto) (hl : underLo lo x.1.u = false) : Cond R upto lo (i + 1) (some x.1.u) := by
  intro j y hj hy hvy
  have h1 := user_at hs hx hy (by omega)
  refine ⟨⟨fun g => ⟨i, x, by omega, hx, hv, ?_⟩, ?_⟩, fun g => ?_⟩
  · exact ltB_conn g h1
  · intro hx2
    obtain ⟨i', z, h1, h2, h3, h4⟩ := hx2
    show ltB x.1.u y.1.u = false
    rw [← h4]
    exact user_at hs h2 hx (by omega)
  · cases e : underLo lo y.1.u with
    | false => rfl
    | true => rw [underLo_mono e h1] at hl; cases hl
theorem ff_spec (hs : SortedR R) : ∀ (l : List Row) (i : Nat) (skip : Option (Array UInt8)), R.drop i = l → Cond R upto lo i skip → FirstT R upto lo hi i (ffwd hi upto l i skip)
  | [], i, skip, hl, _ => fun j x hj ht => by
    have h1 := List.drop_eq_nil_iff.mp hl
    have h2 := (List.getElem?_eq_some_iff.mp ht.here).1
    omega
  | x :: l, i, skip, hl, hc => by
    have hi1 : i < R.length := by
      apply Nat.lt_of_not_le
      intro h
      rw [List.drop_eq_nil_of_le h] at hl
      cases hl
    have hd := List.drop_eq_getElem_cons hi1
    rw [hl] at hd
    injection hd with e1 e2
    have hx : R[i]? = some x := by rw [e1]; exact List.getElem?_eq_getElem hi1
    have only : ∀ z, Told R upto lo hi i z → z = x := fun z hz => by have := hz.here; rw [hx] at this; exact (Option.some.inj this).symm
    cases hp : pastHi hi x.1.u with
    | true =>
      rw [ff_past hp]
      intro j z hj ht
      have := pastHi_mono hp (user_at hs hx ht.here hj)
      rw [ht.high] at this; cases this
    | false =>
      by_cases hv : x.1.tag / 256 ≤ upto
      · obtain ⟨ca, cb⟩ := hc i x (Nat.le_refl _) hx hv
        cases ho : openTo skip x.1.u with
        | true =>
          by_cases hk : x.1.tag % 256 = 0
          · rw [ff_delO hp hv hk ho]
            refine (ff_spec hs l (i + 1) _ e2.symm (Cond.told hs hx hv (cb ho))).pass fun z hz => ?_
            rw [only z hz] at hz
            exact hz.put hk
          · rw [ff_putO hp hv hk ho]
            refine ⟨Nat.le_refl _, ⟨x, hx, hv, hk, cb ho, hp, fun i' y h1 h2 h3 h4 => ?_⟩, fun k z h1 h2 => by omega⟩
            have := ca.mpr ⟨i', y, h1, h2, h4, h3⟩
            rw [ho] at this; cases this
        | false =>
          have hn : ∀ z, ¬ Told R upto lo hi i z := fun z hz => by
            rw [only z hz] at hz
            obtain ⟨i', y, h1, h2, h3, h4⟩ := ca.mp ho
            exact hz.newest i' y h1 h2 h4 h3
          have hc2 := hc.same hx fun _ => ho
          by_cases hk : x.1.tag % 256 = 0
          · rw [ff_delS hp hv hk ho]
            exact (ff_spec hs l (i + 1) _ e2.symm hc2).pass hn
          · rw [ff_putS hp hv hk ho]
            exact (ff_spec hs l (i + 1) _ e2.symm hc2).pass hn
      · rw [ff_inv hp hv]
        refine (ff_spec hs l (i + 1) _ e2.symm (hc.same hx fun h => absurd h hv)).pass fun z hz => ?_
        rw [only z hz] at hz
        exact hv hz.vis
theorem ff_hidden {s : Array UInt8} : ∀ (d i i2 : Nat), i2 - i = d → i ≤ i2 → i2 ≤ R.length → (∀ (k : Nat) y, i ≤ k → k < i2 → R[k]? = some y → pastHi hi y.1.u = false ∧ ltB s y.1.u = false) →
    ffwd hi upto (R.drop i) i (some s) = ffwd hi upto (R.drop i2) i2 (some s)
  | 0, i, i2, hd, h1, h2, h => by have : i = i2 := by omega
                                  rw [this]
  | d + 1, i, i2, hd, h1, h2, h => by
    have hl : i < R.length := by omega
    have hx := List.getElem?_eq_getElem hl
    obtain ⟨hp, ho⟩ := h i _ (Nat.le_refl _) (by omega) hx
    have ih := ff_hidden d (i + 1) i2 (by omega) (by omega) h2 fun k y a b c => h k y (by omega) b c
    rw [← ih, List.drop_eq_getElem_cons hl]
    by_cases hv : (R[i]).1.tag / 256 ≤ upto
    · by_cases hk : (R[i]).1.tag % 256 = 0
      · exact ff_delS hp hv hk ho
      · exact ff_putS hp hv hk ho
    · exact ff_inv hp hv
theorem cond_zero : Cond R upto none 0 none := fun j y _ _ _ => ⟨⟨fun h => (nomatch h), fun ⟨i', z, h, _⟩ => absurd h (Nat.not_lt_zero _)⟩, fun _ => rfl⟩
def KindsOk (R : List Row) : Prop := ∀ x ∈ R, x.1.kind ≤ 1
theorem ltLen_cut (hs : SortedR R) (e : IK) {j : Nat} {x : Row} (hx : R[j]? = some x) : cmpI x.1 e < 0 ↔ j < ltLen R e := cut_of hs j x hx
theorem seek_vis (hk : KindsOk R) {t : Array UInt8} {x : Row} (hup : 0 ≤ upto) (hx : x ∈ R) (hv : x.1.seq ≤ upto) : cmpI x.1 ⟨t, upto.toNat, 1⟩ < 0 ↔ ltB x.1.u t = true := by
  rw [cmpI_lt]
  constructor
  · rintro (h | ⟨h1, h2⟩)
    · exact h
    · exfalso
      have h3 := hk x hx
      unfold IK.kind at h3
      unfold IK.seq at hv
      have h4 : (⟨t, upto.toNat, 1⟩ : IK).tag = (upto.toNat : Int) * 256 + 1 := rfl
      omega
  · exact .inl
theorem cond_seek (hs : SortedR R) (hk : KindsOk R) {t : Array UInt8} (hup : 0 ≤ upto) (hlo : underLo lo t = false) : Cond R upto lo (ltLen R ⟨t, upto.toNat, 1⟩) none := by
  intro j y hj hy hv
  refine ⟨⟨fun h => (nomatch h), ?_⟩, fun _ => ?_⟩
  · intro hx3
    obtain ⟨i', z, h1, h2, h3, h4⟩ := hx3
    exfalso
    have a := (seek_vis hk hup (List.mem_of_getElem? h2) h3).mp ((ltLen_cut hs _ h2).mpr h1)
    rw [h4] at a
    have b := (ltLen_cut hs _ hy).mp ((seek_vis hk hup (List.mem_of_getElem? hy) hv).mpr a)
    omega
  · cases e : underLo lo y.1.u with
    | false => rfl
    | true =>
      exfalso
      have h1 : ltB y.1.u t = false := by
        cases g : ltB y.1.u t with
        | false => rfl
        | true =>
          have := (ltLen_cut hs _ hy).mp ((seek_vis hk hup (List.mem_of_getElem? hy) hv).mpr g)
          omega
      rw [underLo_mono e h1] at hlo
      cases hlo
/-! the way back -/
def InvB (R : List Row) (upto : Int) (lo hi : Option (Array UInt8)) (n : Nat) (hv : Option Nat) : Prop :=
  ∀ j, hv = some j → n ≤ j ∧ ∃ x, R[j]? = some x ∧ x.1.seq ≤ upto ∧ x.1.kind ≠ 0 ∧ underLo lo x.1.u = false ∧ pastHi hi x.1.u = false ∧ ∀ (k : Nat) y, n ≤ k → k < j → R[k]? = some y → ¬ y.1.seq ≤ upto
def SameB (R : List Row) (upto : Int) (n j : Nat) : Prop := ∃ (i : Nat) (y x : Row), i < n ∧ R[i]? = some y ∧ y.1.seq ≤ upto ∧ R[j]? = some x ∧ y.1.u = x.1.u
structure PostB (R : List Row) (upto : Int) (lo hi : Option (Array UInt8)) (n : Nat) (hv : Option Nat) (r : Option Nat × Nat) : Prop where
  no : hv = none → LastT R upto lo hi n r.1
  same : ∀ j, hv = some j → SameB R upto n j → LastT R upto lo hi n r.1
  other : ∀ j, hv = some j → ¬ SameB R upto n j → r.1 = some j
  stop : ∀ j, r.1 = some j → r.2 ≤ j ∧ ∀ (k : Nat) y, r.2 ≤ k → k < j → R[k]? = some y → ¬ y.1.seq ≤ upto
theorem fb_spec (hs : SortedR R) : ∀ (n : Nat) (hv : Option Nat), n ≤ R.length → (∀ (k : Nat) y, k < n → R[k]? = some y → pastHi hi y.1.u = false) → InvB R upto lo hi n hv → PostB R upto lo hi n hv (fbwd lo upto R n hv)
  | 0, hv, _, _, inv => by
    refine ⟨fun h => ?_, fun j h => ?_, fun j h _ => h, fun j h => ?_⟩
    · subst h; exact fun j x h => absurd h (Nat.not_lt_zero _)
    · rintro ⟨i, y, x, h1, _⟩; exact absurd h1 (Nat.not_lt_zero _)
    · obtain ⟨h1, x, h2, h3, h4, h5, h6, h7⟩ := inv j h
      exact ⟨Nat.zero_le _, fun k y a b c => h7 k y (Nat.zero_le _) b c⟩
  | n + 1, hv, hn, hhi, inv => by
    obtain ⟨x, hx⟩ : ∃ x, R[n]? = some x := ⟨_, List.getElem?_eq_getElem (by omega)⟩
    have only : ∀ z, Told R upto lo hi n z → z = x := fun z hz => by have := hz.here; rw [hx] at this; exact (Option.some.inj this).symm
    have hhi' : ∀ (k : Nat) y, k < n → R[k]? = some y → pastHi hi y.1.u = false := fun k y h => hhi k y (by omega)
    cases hu : underLo lo x.1.u with
    | true =>
      rw [fb_past hx hu]
      refine ⟨fun h => ?_, fun j h => ?_, fun j h _ => h, fun j h => ?_⟩
      · subst h
        intro j z hj ht
        have := underLo_mono hu (user_at hs ht.here hx (by omega))
        rw [ht.low] at this; cases this
      · intro hx4
        obtain ⟨i, y, z, h1, h2, h3, h4, h5⟩ := hx4
        obtain ⟨_, z', g2, g3, g4, g5, g6, g7⟩ := inv j h
        rw [h4] at g2; cases g2
        have := underLo_mono hu (user_at hs h2 hx (by omega))
        rw [h5, g5] at this; cases this
      · obtain ⟨h1, z, h2, h3, h4, h5, h6, h7⟩ := inv j h
        exact ⟨h1, h7⟩
    | false =>
      by_cases hvis : x.1.tag / 256 ≤ upto
      · by_cases hb : hv.isSome = true ∧ ltB x.1.u (savedK R hv) = true
        · rw [fb_brk hx hu hvis (by rw [hb.1, hb.2]; rfl)]
          refine ⟨fun h => ?_, fun j h => ?_, fun j h _ => h, fun j h => ?_⟩
          · rw [h] at hb; exact absurd hb.1 (by decide)
          · intro hx5
            obtain ⟨i, y, z, h1, h2, h3, h4, h5⟩ := hx5
            exfalso
            have e := hb.2
            rw [h, savedK_some h4, ← h5] at e
            rw [user_at hs h2 hx (by omega)] at e
            cases e
          · obtain ⟨h1, z, h2, h3, h4, h5, h6, h7⟩ := inv j h
            exact ⟨h1, h7⟩
        · have hb2 : (hv.isSome && ltB x.1.u (savedK R hv)) = false := by
            cases h1 : hv.isSome <;> cases h2 : ltB x.1.u (savedK R hv) <;> simp_all
          -- whatever was had has the same user as this entry
          have hsame : ∀ j, hv = some j → SameB R upto (n + 1) j := fun j h => by
            obtain ⟨g1, z, g2, g3, g4, g5, g6, g7⟩ := inv j h
            refine ⟨n, x, z, by omega, hx, hvis, g2, ?_⟩
            have h2 : ltB x.1.u z.1.u = false := by rw [h, savedK_some g2] at hb2; simpa using hb2
            exact ltB_conn h2 (user_at hs hx g2 (by omega))
          have fin : LastT R upto lo hi (n + 1) (fbwd lo upto R (n + 1) hv).1 ∧ (∀ j, (fbwd lo upto R (n + 1) hv).1 = some j → (fbwd lo upto R (n + 1) hv).2 ≤ j ∧ ∀ (k : Nat) y, (fbwd lo upto R (n + 1) hv).2 ≤ k → k < j → R[k]? = some y → ¬ y.1.seq ≤ upto) := by
            by_cases hk : x.1.tag % 256 = 0
            · rw [fb_del hx hu hvis hb2 hk]
              have ih := fb_spec hs n none (by omega) hhi' fun j h => nomatch h
              refine ⟨(ih.no rfl).pass fun z hz => ?_, ih.stop⟩
              rw [only z hz] at hz
              exact hz.put hk
            · rw [fb_put hx hu hvis hb2 hk]
              have ih := fb_spec hs n (some n) (by omega) hhi' fun j h => by
                cases h
                exact ⟨Nat.le_refl _, x, hx, hvis, hk, hu, hhi n x (by omega) hx, fun k y h1 h2 => by omega⟩
              refine ⟨?_, ih.stop⟩
              by_cases hsm : SameB R upto n n
              · refine (ih.same n rfl hsm).pass fun z hz => ?_
                rw [only z hz] at hz
                obtain ⟨i, y, z', h1, h2, h3, h4, h5⟩ := hsm
                rw [hx] at h4; cases h4
                exact hz.newest i y h1 h2 h5 h3
              · rw [ih.other n rfl hsm]
                refine ⟨by omega, ⟨x, hx, hvis, hk, hu, hhi n x (by omega) hx, fun i' y h1 h2 h3 h4 => hsm ⟨i', y, x, h1, h2, h4, hx, h3⟩⟩, fun k z h1 h2 => by omega⟩
          exact ⟨fun _ => fin.1, fun _ _ _ => fin.1, fun j h hns => absurd (hsame j h) hns, fin.2⟩
      · rw [fb_inv hx hu hvis]
        have ih := fb_spec hs n hv (by omega) hhi' fun j h => by
          obtain ⟨g1, z, g2, g3, g4, g5, g6, g7⟩ := inv j h
          refine ⟨by omega, z, g2, g3, g4, g5, g6, fun k y h1 h2 h3 => ?_⟩
          by_cases e : k = n
          · subst e; rw [hx] at h3; cases h3; exact hvis
          · exact g7 k y (by omega) h2 h3
        have nt : ∀ z, ¬ Told R upto lo hi n z := fun z hz => by
          rw [only z hz] at hz
          exact hvis hz.vis
        refine ⟨fun h => (ih.no h).pass nt, fun j h hsm => ?_, fun j h hns => ?_, ih.stop⟩
        · obtain ⟨i, y, z, h1, h2, h3, h4, h5⟩ := hsm
          refine (ih.same j h ⟨i, y, z, ?_, h2, h3, h4, h5⟩).pass nt
          by_cases e : i = n
          · subst e; rw [hx] at h2; cases h2; exact absurd h3 hvis
          · omega
        · refine ih.other j h fun hsm => hns ?_
          obtain ⟨i, y, z, h1, h2⟩ := hsm
          exact ⟨i, y, z, by omega, h2⟩
theorem skipb_le (u : Array UInt8) : ∀ n, skipb R u n ≤ n
  | 0 => Nat.le_refl _
  | n + 1 => by
    rw [skipb]
    cases R[n]? with
    | none => exact Nat.le_refl _
    | some x =>
      simp only
      split
      · exact Nat.le_refl _
      · have := skipb_le u n; omega
theorem skipb_over (u : Array UInt8) : ∀ n (k : Nat) y, skipb R u n ≤ k → k < n → R[k]? = some y → ltB y.1.u u = false
  | 0, k, y, _, h, _ => absurd h (Nat.not_lt_zero _)
  | n + 1, k, y, h1, h2, hy => by
    rw [skipb] at h1
    by_cases e : k = n
    · subst e
      rw [hy] at h1
      simp only at h1
      cases h3 : ltB y.1.u u with
      | false => rfl
      | true => rw [if_pos h3] at h1; omega
    · cases h3 : R[n]? with
      | none => rw [h3] at h1; simp only at h1; omega
      | some x =>
        rw [h3] at h1
        simp only at h1
        split at h1
        · omega
        · exact skipb_over u n k y h1 (by omega) hy
end
open PySem PySem.W PyProof.Rows
/-! the told places, in a row -/
open Classical in
noncomputable def toldL (R : List Row) (upto : Int) (lo hi : Option (Array UInt8)) : List Nat := (List.range R.length).filter fun i => decide (∃ x, Told R upto lo hi i x)
section
variable {R : List Row} {upto : Int} {lo hi : Option (Array UInt8)}
open Classical in
theorem mem_toldL {i : Nat} : i ∈ toldL R upto lo hi ↔ ∃ x, Told R upto lo hi i x := by
  unfold toldL
  rw [List.mem_filter]
  constructor
  · exact fun h => of_decide_eq_true h.2
  · intro hx1
    obtain ⟨x, h⟩ := hx1
    exact ⟨List.mem_range.mpr (List.getElem?_eq_some_iff.mp h.here).1, decide_eq_true ⟨x, h⟩⟩
theorem toldL_sorted : (toldL R upto lo hi).Pairwise (· < ·) := List.Pairwise.sublist List.filter_sublist List.pairwise_lt_range
end
theorem count_cut (i : Nat) : ∀ {T : List Nat}, T.Pairwise (· < ·) → ∀ (q k : Nat), T[q]? = some k → (q < T.countP (fun t => decide (t < i)) ↔ k < i)
  | [], _, q, k, h => by simp at h
  | a :: T, hp, q, k, h => by
    have h1 := List.pairwise_cons.mp hp
    rw [List.countP_cons]
    by_cases ha : a < i
    · simp only [ha, decide_true, if_true]
      cases q with
      | zero => simp only [List.getElem?_cons_zero, Option.some.injEq] at h; subst h; simp [ha]
      | succ q =>
        rw [List.getElem?_cons_succ] at h
        have := count_cut i h1.2 q k h
        omega
    · have hz : T.countP (fun t => decide (t < i)) = 0 := by
        rw [List.countP_eq_zero]
        intro b hb
        have := h1.1 b hb
        simp only [decide_eq_true_eq]; omega
      rw [hz]
      simp only [ha, decide_false, Bool.false_eq_true, if_false, Nat.add_zero, Nat.not_lt_zero, false_iff]
      cases q with
      | zero => simp only [List.getElem?_cons_zero, Option.some.injEq] at h; subst h; exact ha
      | succ q =>
        rw [List.getElem?_cons_succ] at h
        have := h1.1 k (List.mem_of_getElem? h)
        omega
theorem sorted_index {T : List Nat} (hp : T.Pairwise (· < ·)) {q r a b : Nat} (h : T[q]? = some a) (g : T[r]? = some b) : a < b ↔ q < r := by
  rw [List.pairwise_iff_getElem] at hp
  obtain ⟨h1, h2⟩ := List.getElem?_eq_some_iff.mp h
  obtain ⟨g1, g2⟩ := List.getElem?_eq_some_iff.mp g
  constructor
  · intro hab
    apply Nat.lt_of_not_le
    intro hrq
    rcases Nat.lt_or_eq_of_le hrq with hlt | heq
    · have := hp r q g1 h1 hlt; omega
    · subst heq; rw [h] at g; cases g; omega
  · intro hqr
    have := hp q r h1 g1 hqr; omega
section
variable {R : List Row} {upto : Int} {lo hi : Option (Array UInt8)}
theorem first_at {i : Nat} {r : Option Nat} (h : FirstT R upto lo hi i r) : r = (toldL R upto lo hi)[(toldL R upto lo hi).countP fun t => decide (t < i)]? := by
  have cut := count_cut i (toldL_sorted (R := R) (upto := upto) (lo := lo) (hi := hi))
  cases hc : (toldL R upto lo hi)[(toldL R upto lo hi).countP fun t => decide (t < i)]? with
  | none =>
    cases r with
    | none => rfl
    | some j =>
      exfalso
      obtain ⟨h1, ⟨x, h2⟩, h3⟩ := h
      obtain ⟨q, hq⟩ := List.mem_iff_getElem?.mp (mem_toldL.mpr ⟨x, h2⟩)
      have a := cut q j hq
      have b := List.getElem?_eq_none_iff.mp hc
      have c := (List.getElem?_eq_some_iff.mp hq).1
      omega
  | some k =>
    have hk := cut _ k hc
    obtain ⟨y, hy⟩ := mem_toldL.mp (List.mem_of_getElem? hc)
    have hki : i ≤ k := by omega
    cases r with
    | none => exact absurd hy (h k y hki)
    | some j =>
      obtain ⟨h1, ⟨x, h2⟩, h3⟩ := h
      obtain ⟨q, hq⟩ := List.mem_iff_getElem?.mp (mem_toldL.mpr ⟨x, h2⟩)
      have a := cut q j hq
      have h4 : ¬ k < j := fun hkj => h3 k y hki hkj hy
      have h5 : ¬ j < k := fun hjk => by
        have := (sorted_index toldL_sorted hq hc).mp hjk
        omega
      rw [show j = k by omega]
theorem last_at {n : Nat} {r : Option Nat} (h : LastT R upto lo hi n r) : r = (befOf ((toldL R upto lo hi).countP fun t => decide (t < n))).bind fun q => (toldL R upto lo hi)[q]? := by
  have cut := count_cut n (toldL_sorted (R := R) (upto := upto) (lo := lo) (hi := hi))
  have hle := List.countP_le_length (p := fun t => decide (t < n)) (l := toldL R upto lo hi)
  unfold befOf
  by_cases hz : (toldL R upto lo hi).countP (fun t => decide (t < n)) = 0
  · rw [if_pos hz, Option.bind_none]
    cases r with
    | none => rfl
    | some j =>
      exfalso
      obtain ⟨h1, ⟨x, h2⟩, h3⟩ := h
      obtain ⟨q, hq⟩ := List.mem_iff_getElem?.mp (mem_toldL.mpr ⟨x, h2⟩)
      have a := cut q j hq
      omega
  · rw [if_neg hz, Option.bind_some]
    have hl : (toldL R upto lo hi).countP (fun t => decide (t < n)) - 1 < (toldL R upto lo hi).length := by omega
    have hc := List.getElem?_eq_getElem hl
    generalize (toldL R upto lo hi)[(toldL R upto lo hi).countP (fun t => decide (t < n)) - 1] = k at hc
    rw [hc]
    have hk := cut _ k hc
    obtain ⟨y, hy⟩ := mem_toldL.mp (List.mem_of_getElem? hc)
    have hkn : k < n := by omega
    cases r with
    | none => exact absurd hy (h k y hkn)
    | some j =>
      obtain ⟨h1, ⟨x, h2⟩, h3⟩ := h
      obtain ⟨q, hq⟩ := List.mem_iff_getElem?.mp (mem_toldL.mpr ⟨x, h2⟩)
      have a := cut q j hq
      have h4 : ¬ j < k := fun hjk => h3 k y hjk hkn hy
      have h5 : ¬ k < j := fun hkj => by
        have := (sorted_index toldL_sorted hc hq).mp hkj
        omega
      rw [show j = k by omega]
theorem count_next {p j : Nat} (h : (toldL R upto lo hi)[p]? = some j) : (toldL R upto lo hi).countP (fun t => decide (t < j + 1)) = p + 1 := by
  have cut := count_cut (j + 1) (toldL_sorted (R := R) (upto := upto) (lo := lo) (hi := hi))
  have hle := List.countP_le_length (p := fun t => decide (t < j + 1)) (l := toldL R upto lo hi)
  have a := cut p j h
  apply Nat.le_antisymm
  · apply Nat.le_of_not_lt
    intro hlt
    have hc := List.getElem?_eq_getElem (l := toldL R upto lo hi) (i := p + 1) (by omega)
    have b := cut _ _ hc
    have c := (sorted_index toldL_sorted h hc).mpr (by omega)
    omega
  · omega
theorem count_here {p j : Nat} (h : (toldL R upto lo hi)[p]? = some j) : (toldL R upto lo hi).countP (fun t => decide (t < j)) = p := by
  have cut := count_cut j (toldL_sorted (R := R) (upto := upto) (lo := lo) (hi := hi))
  have hle := List.countP_le_length (p := fun t => decide (t < j)) (l := toldL R upto lo hi)
  have hl := (List.getElem?_eq_some_iff.mp h).1
  have a := cut p j h
  apply Nat.le_antisymm
  · omega
  · apply Nat.le_of_not_lt
    intro hlt
    have hc := List.getElem?_eq_getElem (l := toldL R upto lo hi) (i := (toldL R upto lo hi).countP (fun t => decide (t < j))) (by omega)
    have b := cut _ _ hc
    have c := (sorted_index toldL_sorted hc h).mpr hlt
    omega
theorem count_zero : (toldL R upto lo hi).countP (fun t => decide (t < 0)) = 0 := by rw [List.countP_eq_zero]; simp
theorem count_all : (toldL R upto lo hi).countP (fun t => decide (t < R.length)) = (toldL R upto lo hi).length := by
  rw [List.countP_eq_length]
  intro a ha
  obtain ⟨x, hx⟩ := mem_toldL.mp ha
  simpa using (List.getElem?_eq_some_iff.mp hx.here).1
end
open PySem PySem.W PyProof.Rows
structure UFacts (R : List Row) (upto : Int) (lo hi : Option (Array UInt8)) : Prop where
  sorted : SortedR R
  kinds : KindsOk R
  up0 : 0 ≤ upto
  up1 : upto < 72057594037927936
  los : ∀ b, lo = some b → b.size ≤ 1000
  his : ∀ b, hi = some b → b.size ≤ 1000
def UPlace (R : List Row) (upto : Int) (lo hi : Option (Array UInt8)) (st : Option Nat) (going : Int) (good : Bool) (sk sv : Array UInt8) : Option Nat → Prop
  | none => good = false
  | some p => good = true ∧ ∃ j x, (toldL R upto lo hi)[p]? = some j ∧ R[j]? = some x ∧ ((going = 0 ∧ st = some j) ∨ (going = 1 ∧ sk = x.1.u ∧ sv = x.2 ∧ ∃ n, st = befOf n ∧ n ≤ j ∧ ∀ (k : Nat) y, n ≤ k → k < j → R[k]? = some y → ¬ y.1.seq ≤ upto))
inductive UsI (C : CurP) (upto : Int) (lo hi : Option (Array UInt8)) (R : List Row) (rest : Led) (u : Addr) (p : Option Nat) : Led → Prop
  | mk (du inner : Addr) (kd : Bool) (q : UP) (st : Option Nat) (going : Int) (tg : Tok) (good : Bool) (sk : Array UInt8) (tsk : Tok) (sv : Array UInt8) (tsv : Tok) (fpi : Led) (hC : C fpi rest inner kd R st) (hne : ∀ x ∈ fpi, x.1 ≠ du) (hin : (u, instObj 611 du) ∈ rest) (hp : UPlace R upto lo hi st going good sk sv p) :
    UsI C upto lo hi R rest u p ((du, UD q inner upto lo hi going tg good sk tsk sv tsv) :: fpi)
def UserS (C : CurP) (upto : Int) (lo hi : Option (Array UInt8)) (R : List Row) (fp rest : Led) (u : Addr) (p : Option Nat) : Prop := UsI C upto lo hi R rest u p fp
def placeT (T : List Nat) (c : Nat) : Option Nat := if c < T.length then some c else none
def userAt (R : List Row) (i : Nat) : Array UInt8 := savedK R (some i)
section
variable {R : List Row} {upto : Int} {lo hi : Option (Array UInt8)}
theorem told_of {p j : Nat} {x : Row} (h : (toldL R upto lo hi)[p]? = some j) (hx : R[j]? = some x) : Told R upto lo hi j x := by
  obtain ⟨y, hy⟩ := mem_toldL.mp (List.mem_of_getElem? h)
  have := hy.here
  rw [hx] at this
  cases this
  exact hy
theorem made_f {i c : Nat} {r st : Option Nat} (h : FirstT R upto lo hi i r) (hc : (toldL R upto lo hi).countP (fun t => decide (t < i)) = c) (hst : ∀ j, r = some j → st = some j) (sk sv : Array UInt8) : UPlace R upto lo hi st 0 r.isSome sk sv (placeT (toldL R upto lo hi) c) := by
  have e := first_at h
  rw [hc] at e
  unfold placeT
  by_cases g : c < (toldL R upto lo hi).length
  · rw [if_pos g]
    rw [List.getElem?_eq_getElem g] at e
    subst e
    obtain ⟨x, hx⟩ := mem_toldL.mp (List.getElem_mem g)
    exact ⟨rfl, _, x, List.getElem?_eq_getElem g, hx.here, .inl ⟨rfl, hst _ rfl⟩⟩
  · rw [if_neg g]
    rw [List.getElem?_eq_none (by omega)] at e
    subst e
    rfl
theorem made_b {n c n2 : Nat} {r : Option Nat} (h : LastT R upto lo hi n r) (hc : (toldL R upto lo hi).countP (fun t => decide (t < n)) = c) (hstop : ∀ j, r = some j → n2 ≤ j ∧ ∀ (k : Nat) y, n2 ≤ k → k < j → R[k]? = some y → ¬ y.1.seq ≤ upto) :
    UPlace R upto lo hi (befOf n2) 1 r.isSome (savedK R r) (savedV R r) (befOf c) := by
  have e := last_at h
  rw [hc] at e
  have hle := List.countP_le_length (p := fun t => decide (t < n)) (l := toldL R upto lo hi)
  rw [hc] at hle
  unfold befOf at e ⊢
  by_cases g : c = 0
  · rw [if_pos g] at e ⊢
    subst e
    rfl
  · rw [if_neg g] at e ⊢
    rw [Option.bind_some] at e
    have hl : c - 1 < (toldL R upto lo hi).length := by omega
    have hg := List.getElem?_eq_getElem hl
    rw [hg] at e
    subst e
    obtain ⟨x, hx⟩ := mem_toldL.mp (List.getElem_mem hl)
    obtain ⟨s1, s2⟩ := hstop _ rfl
    exact ⟨rfl, _, x, hg, hx.here, .inr ⟨rfl, savedK_some hx.here, savedV_some hx.here, n2, rfl, s1, s2⟩⟩
theorem startOf_place {n : Nat} (h : n ≤ R.length) : startOf R (placeOf R n) = n := by
  unfold placeOf
  split
  · rfl
  · show R.length = n; omega
theorem lenOf_bef (n : Nat) : lenOf (befOf n) = n := by
  unfold befOf
  cases n with
  | zero => rfl
  | succ n => rfl
theorem LastT.extend {n j : Nat} {r : Option Nat} (h : LastT R upto lo hi n r) : ∀ d, j - n = d → n ≤ j → (∀ k, n ≤ k → k < j → ∀ x, ¬ Told R upto lo hi k x) → LastT R upto lo hi j r := by
  intro d
  induction d generalizing j with
  | zero =>
    intro hd hn _
    have : n = j := by omega
    subst this; exact h
  | succ d ih =>
    intro hd hn hk
    obtain ⟨j', rfl⟩ : ∃ j', j = j' + 1 := ⟨j - 1, by omega⟩
    exact (ih (j := j') (by omega) (by omega) fun k h1 h2 => hk k h1 (by omega)).pass (hk j' (by omega) (by omega))
theorem underLo_clamp (t : Array UInt8) : underLo lo (clampLo lo t) = false := by
  cases lo with
  | none => rfl
  | some l =>
    show ltB (if ltB t l = true then l else t) l = false
    cases h : ltB t l with
    | true => rw [if_pos rfl]; exact ltB_irrefl l
    | false => rw [if_neg (by decide)]; exact h
theorem count_seek (f : UFacts R upto lo hi) (t : Array UInt8) : (toldL R upto lo hi).countP (fun k => decide (k < ltLen R ⟨clampLo lo t, upto.toNat, 1⟩)) = (toldL R upto lo hi).countP fun k => ltB (userAt R k) t := by
  apply List.countP_congr
  intro k hk
  obtain ⟨x, hx⟩ := mem_toldL.mp hk
  have hu : userAt R k = x.1.u := savedK_some hx.here
  rw [hu, decide_eq_true_eq, ← ltLen_cut f.sorted _ hx.here, seek_vis f.kinds f.up0 (List.mem_of_getElem? hx.here) hx.vis]
  cases lo with
  | none => rfl
  | some l =>
    have hl : ltB x.1.u l = false := hx.low
    show ltB x.1.u (if ltB t l = true then l else t) = true ↔ _
    cases h : ltB t l with
    | false => rw [if_neg (by decide)]
    | true =>
      rw [if_pos rfl, hl]
      constructor
      · intro g; cases g
      · intro g
        have := ltB_trans g h
        rw [hl] at this; cases this
theorem seek_first_T (f : UFacts R upto lo hi) (t : Array UInt8) : FirstT R upto lo hi (ltLen R ⟨clampLo lo t, upto.toNat, 1⟩) (ffwd hi upto (R.drop (ltLen R ⟨clampLo lo t, upto.toNat, 1⟩)) (ltLen R ⟨clampLo lo t, upto.toNat, 1⟩) none) :=
  ff_spec f.sorted _ _ _ rfl (cond_seek f.sorted f.kinds f.up0 (underLo_clamp t))
theorem high_cut (f : UFacts R upto lo hi) (hok : ∀ x ∈ R, x.1.Ok) {h : Array UInt8} {k : Nat} {y : Row} (hy : R[k]? = some y) : k < ltLen R ⟨h, 72057594037927935, 1⟩ ↔ ltB y.1.u h = true := by
  rw [← ltLen_cut f.sorted _ hy, cmpI_lt]
  constructor
  · rintro (g | ⟨g1, g2⟩)
    · exact g
    · exfalso
      have a := (hok y (List.mem_of_getElem? hy)).q
      have a2 := (hok y (List.mem_of_getElem? hy)).k
      have b := f.kinds y (List.mem_of_getElem? hy)
      unfold IK.kind IK.tag at b
      have c : (⟨h, 72057594037927935, 1⟩ : IK).tag = (72057594037927935 : Int) * 256 + 1 := rfl
      rw [c] at g2
      unfold IK.tag at g2
      omega
  · exact .inl
end
open PySem PySem.W PyProof.Rows
section
set_option maxRecDepth 100000
set_option maxHeartbeats 8000000
variable {w : World} {D : Nat} {C : CurP} {R : List Row} {upto : Int} {lo hi : Option (Array UInt8)} {fp rest E0 : Led} {u : Addr} {p : Option Nat}
theorem off_user {fpi E0 : Led} {du : Addr} {od : Obj} (h : Off ((du, od) :: fpi) E0) (h2 : ∀ x ∈ fpi, x.1 ≠ du) : Off fpi E0 ∧ ∀ x ∈ fpi ++ E0, x.1 ≠ du := by
  refine ⟨fun a ha b hb => h a (.tail _ ha) b hb, fun x hx => ?_⟩
  rcases List.mem_append.mp hx with g | g
  · exact h2 x g
  · exact h _ (.head _) x g
theorem same_user {fpi fp' : Led} {du : Addr} {a b : Obj} (h : sameAdr fp' fpi) : sameAdr ((du, a) :: fp') ((du, b) :: fpi) := by
  unfold sameAdr at *; simp only [List.map_cons, h]
theorem ne_user {fpi fp' : Led} {du : Addr} (h : ∀ x ∈ fpi, x.1 ≠ du) (ha : sameAdr fp' fpi) : ∀ x ∈ fp', x.1 ≠ du := fun x hx => by
  have : x.1 ∈ fpi.map (·.1) := ha ▸ List.mem_map_of_mem hx
  obtain ⟨x', hx', e⟩ := List.mem_map.mp this
  rw [← e]; exact h x' hx'
theorem user_first (S : CurSpec w D C) (f : UFacts R upto lo hi) (hU : UserS C upto lo hi R fp rest u p) (hs : ∀ x ∈ rest, x ∈ E0) (ho : Off fp E0) :
    Calls w (D + 10) 552 [.ref u] fp E0 fun r fp' => r = .none ∧ sameAdr fp' fp ∧ UserS C upto lo hi R fp' rest u (placeT (toldL R upto lo hi) 0) := by
  obtain ⟨du, inner, kd, q, st, going, tg, good, sk, tsk, sv, tsv, fpi, hC, hne, hin, hp⟩ := hU
  obtain ⟨o1, o2⟩ := off_user ho hne
  refine ((ufirst_c (rest := E0) (S.fix rest) ⟨hC, hs⟩ o1 o2 (hs _ hin) f.kinds f.up0 f.up1 f.los).deep (by omega)).post fun r fp' h => ?_
  obtain ⟨tgb, fp', st', tka, tvb, ha, hC', hst'⟩ := h
  refine ⟨rfl, same_user ha, .mk du inner kd q _ _ _ _ _ _ _ _ _ hC'.1 (ne_user hne ha) hin ?_⟩
  cases lo with
  | none =>
    have e0 : startOf R (firstPl R upto none) = 0 := by
      show startOf R (firstAt R) = 0
      rw [firstAt_eq, startOf_place (Nat.zero_le _)]
    rw [e0] at hst' ⊢
    exact made_f (ff_spec f.sorted _ _ _ rfl cond_zero) count_zero hst' _ _
  | some l =>
    have e0 : startOf R (firstPl R upto (some l)) = ltLen R ⟨l, upto.toNat, 1⟩ := by
      show startOf R (seekAt R _) = _
      rw [seekAt_eq, startOf_place (ltLen_le _ _)]
    have e1 : clampLo (some l) l = l := by
      show (if ltB l l = true then l else l) = l
      split <;> rfl
    have h1 := seek_first_T f l
    have h2 := count_seek f l
    rw [e1] at h1 h2
    rw [e0] at hst' ⊢
    refine made_f h1 (h2.trans ?_) hst' _ _
    rw [List.countP_eq_zero]
    intro i hi
    obtain ⟨x, hx⟩ := mem_toldL.mp hi
    rw [show userAt R i = x.1.u from savedK_some hx.here]
    have : ltB x.1.u l = false := hx.low
    rw [this]; decide
theorem user_seek {t : Array UInt8} {tt : Tok} (S : CurSpec w D C) (f : UFacts R upto lo hi) (ht : t.size ≤ 1000) (hU : UserS C upto lo hi R fp rest u p) (hs : ∀ x ∈ rest, x ∈ E0) (ho : Off fp E0) :
    Calls w (D + 10) 559 [.ref u, .bytes t tt] fp E0 fun r fp' => r = .none ∧ sameAdr fp' fp ∧ UserS C upto lo hi R fp' rest u (placeT (toldL R upto lo hi) ((toldL R upto lo hi).countP fun k => ltB (userAt R k) t)) := by
  obtain ⟨du, inner, kd, q, st, going, tg, good, sk, tsk, sv, tsv, fpi, hC, hne, hin, hp⟩ := hU
  obtain ⟨o1, o2⟩ := off_user ho hne
  refine ((useek_c (rest := E0) (S.fix rest) ⟨hC, hs⟩ o1 o2 (hs _ hin) f.kinds f.up0 f.up1 f.los ht).deep (by omega)).post fun r fp' h => ?_
  obtain ⟨tgb, fp', st', tka, tvb, ha, hC', hst'⟩ := h
  refine ⟨rfl, same_user ha, .mk du inner kd q _ _ _ _ _ _ _ _ _ hC'.1 (ne_user hne ha) hin ?_⟩
  rw [seekAt_eq, startOf_place (ltLen_le _ _)] at hst' ⊢
  exact made_f (seek_first_T f t) (count_seek f t) hst' _ _
theorem user_last (S : CurSpec w D C) (f : UFacts R upto lo hi) (hU : UserS C upto lo hi R fp rest u p) (hs : ∀ x ∈ rest, x ∈ E0) (ho : Off fp E0) :
    Calls w (D + 10) 566 [.ref u] fp E0 fun r fp' => r = .none ∧ sameAdr fp' fp ∧ UserS C upto lo hi R fp' rest u (befOf (toldL R upto lo hi).length) := by
  obtain ⟨du, inner, kd, q, st, going, tg, good, sk, tsk, sv, tsv, fpi, hC, hne, hin, hp⟩ := hU
  obtain ⟨o1, o2⟩ := off_user ho hne
  refine ((ulast_c (rest := E0) (S.fix rest) ⟨hC, hs⟩ o1 o2 (hs _ hin) f.kinds f.his).deep (by omega)).post fun r fp' h => ?_
  obtain ⟨fp', tgb, tka, tvb, ha, hC'⟩ := h
  refine ⟨rfl, same_user ha, .mk du inner kd q _ _ _ _ _ _ _ _ _ hC'.1 (ne_user hne ha) hin ?_⟩
  have key : ∀ n, lenOf (lastLen R hi) = n → n ≤ R.length → (∀ (k : Nat) y, k < n → R[k]? = some y → pastHi hi y.1.u = false) → (toldL R upto lo hi).countP (fun t => decide (t < n)) = (toldL R upto lo hi).length →
      UPlace R upto lo hi (befOf (fbwd lo upto R (lenOf (lastLen R hi)) none).2) 1 (fbwd lo upto R (lenOf (lastLen R hi)) none).1.isSome (savedK R (fbwd lo upto R (lenOf (lastLen R hi)) none).1) (savedV R (fbwd lo upto R (lenOf (lastLen R hi)) none).1) (befOf (toldL R upto lo hi).length) := by
    intro n e h1 h2 h3
    rw [e]
    have pb := fb_spec (hi := hi) (lo := lo) (upto := upto) f.sorted n none h1 h2 fun j h => nomatch h
    exact made_b (pb.no rfl) h3 pb.stop
  cases hi with
  | none =>
    refine key R.length ?_ (Nat.le_refl _) (fun _ _ _ _ => rfl) count_all
    show lenOf (lastAt R) = _
    rw [lastAt_eq, lenOf_bef]
  | some h =>
    have hle := ltLen_le R ⟨h, 72057594037927935, 1⟩
    have hcut : ∀ (k : Nat) y, R[k]? = some y → (k < ltLen R ⟨h, 72057594037927935, 1⟩ ↔ ltB y.1.u h = true) := fun k y hy => high_cut f (S.ok hC) hy
    refine key (ltLen R ⟨h, 72057594037927935, 1⟩) ?_ hle (fun k y hk hy => ?_) ?_
    · show lenOf (backOf R (seekAt R _)) = _
      rw [seekAt_eq, backOf_eq R hle, lenOf_bef]
    · exact pastF ((hcut k y hy).mp hk)
    · rw [List.countP_eq_length]
      intro i hi
      obtain ⟨x, hx⟩ := mem_toldL.mp hi
      rw [decide_eq_true_eq, hcut i x hx.here]
      have : (!ltB x.1.u h) = false := hx.high
      simpa using this
theorem user_step {p : Nat} (S : CurSpec w D C) (f : UFacts R upto lo hi) (hU : UserS C upto lo hi R fp rest u (some p)) (hs : ∀ x ∈ rest, x ∈ E0) (ho : Off fp E0) :
    Calls w (D + 10) 587 [.ref u] fp E0 fun r fp' => r = .none ∧ sameAdr fp' fp ∧ UserS C upto lo hi R fp' rest u (placeT (toldL R upto lo hi) (p + 1)) := by
  obtain ⟨du, inner, kd, q, st, going, tg, good, sk, tsk, sv, tsv, fpi, hC, hne, hin, rfl, j, x, hj, hx, hp⟩ := hU
  obtain ⟨o1, o2⟩ := off_user ho hne
  have hT := told_of hj hx
  have hjl := (List.getElem?_eq_some_iff.mp hx).1
  have hfT := ff_spec (hi := hi) f.sorted (R.drop (j + 1)) (j + 1) _ rfl (Cond.told (lo := lo) f.sorted hx hT.vis hT.low)
  rcases hp with ⟨rfl, rfl⟩ | ⟨rfl, rfl, rfl, n, rfl, hn, hinv⟩
  · refine ((ustep0_c (rest := E0) (S.fix rest) ⟨hC, hs⟩ o1 o2 (hs _ hin) f.kinds hx).deep (by omega)).post fun r fp' h => ?_
    obtain ⟨fp', st', tka, tvb, ha, hC', hst'⟩ := h
    refine ⟨rfl, same_user ha, .mk du inner kd q _ _ _ _ _ _ _ _ _ hC'.1 (ne_user hne ha) hin ?_⟩
    rw [nextAt_eq, startOf_place (by omega)] at hst' ⊢
    exact made_f hfT (count_next hj) hst' _ _
  · refine ((ustep1_c (rest := E0) (S.fix rest) ⟨hC, hs⟩ o1 o2 (hs _ hin) f.kinds ).deep (by omega)).post fun r fp' h => ?_
    obtain ⟨tgb, fp', st', tka, tvb, ha, hC', hst'⟩ := h
    refine ⟨rfl, same_user ha, .mk du inner kd q _ _ _ _ _ _ _ _ _ hC'.1 (ne_user hne ha) hin ?_⟩
    have e0 : startOf R (stepPl R (befOf n)) = n := by
      unfold befOf
      cases n with
      | zero => show startOf R (firstAt R) = 0; rw [firstAt_eq, startOf_place (Nat.zero_le _)]
      | succ n => show startOf R (nextAt R n) = n + 1; rw [nextAt_eq, startOf_place (by omega)]
    rw [e0] at hst' ⊢
    have e1 := ff_hidden (R := R) (upto := upto) (hi := hi) (s := x.1.u) (j + 1 - n) n (j + 1) rfl (by omega) (by omega) fun k y h1 h2 hy => by
      have h3 := user_at f.sorted hy hx (by omega)
      refine ⟨?_, h3⟩
      cases e : pastHi hi y.1.u with
      | false => rfl
      | true => have := pastHi_mono e h3; rw [hT.high] at this; cases this
    rw [e1] at hst' ⊢
    exact made_f hfT (count_next hj) hst' _ _
theorem user_back {p : Nat} (S : CurSpec w D C) (f : UFacts R upto lo hi) (hU : UserS C upto lo hi R fp rest u (some p)) (hs : ∀ x ∈ rest, x ∈ E0) (ho : Off fp E0) :
    Calls w (D + 10) 594 [.ref u] fp E0 fun r fp' => r = .none ∧ sameAdr fp' fp ∧ UserS C upto lo hi R fp' rest u (befOf p) := by
  obtain ⟨du, inner, kd, q, st, going, tg, good, sk, tsk, sv, tsv, fpi, hC, hne, hin, rfl, j, x, hj, hx, hp⟩ := hU
  obtain ⟨o1, o2⟩ := off_user ho hne
  have hT := told_of hj hx
  have hjl := (List.getElem?_eq_some_iff.mp hx).1
  have hhi : ∀ (k : Nat) y, k < j → R[k]? = some y → pastHi hi y.1.u = false := fun k y hk hy => by
    cases e : pastHi hi y.1.u with
    | false => rfl
    | true => have := pastHi_mono e (user_at f.sorted hy hx (by omega)); rw [hT.high] at this; cases this
  rcases hp with ⟨rfl, rfl⟩ | ⟨rfl, rfl, rfl, n, rfl, hn, hinv⟩
  · refine ((uback0_c (rest := E0) (S.fix rest) ⟨hC, hs⟩ o1 o2 (hs _ hin) f.kinds hx).deep (by omega)).post fun r fp' h => ?_
    obtain ⟨fp', tgb, tka, tvb, ha, hC'⟩ := h
    refine ⟨rfl, same_user ha, .mk du inner kd q _ _ _ _ _ _ _ _ _ hC'.1 (ne_user hne ha) hin ?_⟩
    rw [lenOf_bef]
    have hle := skipb_le (R := R) x.1.u j
    have pb := fb_spec (hi := hi) (lo := lo) (upto := upto) f.sorted (skipb R x.1.u j) none (by omega) (fun k y h1 h2 => hhi k y (by omega) h2) fun j h => nomatch h
    refine made_b ((pb.no rfl).extend _ rfl hle fun k h1 h2 z hz => ?_) (count_here hj) pb.stop
    have h3 := skipb_over x.1.u j k z h1 h2 hz.here
    have h4 := user_at f.sorted hz.here hx (by omega)
    exact hT.newest k z h2 hz.here (ltB_conn h3 h4) hz.vis
  · refine ((uback1_c (rest := E0) (S.fix rest) ⟨hC, hs⟩ o1 o2 (hs _ hin) f.kinds ).deep (by omega)).post fun r fp' h => ?_
    obtain ⟨fp', tgb, tka, tvb, ha, hC'⟩ := h
    refine ⟨rfl, same_user ha, .mk du inner kd q _ _ _ _ _ _ _ _ _ hC'.1 (ne_user hne ha) hin ?_⟩
    rw [lenOf_bef]
    have pb := fb_spec (hi := hi) (lo := lo) (upto := upto) f.sorted n none (by omega) (fun k y h1 h2 => hhi k y (by omega) h2) fun j h => nomatch h
    exact made_b ((pb.no rfl).extend _ rfl hn fun k h1 h2 z hz => hinv k z h1 h2 hz.here hz.vis) (count_here hj) pb.stop
end
end Mine
namespace Mine
open PySem PySem.W PyProof.Rows PySem.Spec
local macro_rules | `(tactic| omega) => `(tactic| lia)
set_option hygiene false in
local macro_rules | `(tactic| obtain $p:rcasesPatMed := $e) => `(tactic| (refine Mine.hide ?_; intro G0 hG0; rcases $e:term with $p:rcasesPatMed <;> (refine hG0 ?_; clear hG0 G0)))
set_option hygiene false in
local macro_rules | `(tactic| obtain $p:rcasesPatMed : $t := $e) => `(tactic| (refine Mine.hide ?_; intro G0 hG0; rcases ($e : $t) with $p:rcasesPatMed <;> (refine hG0 ?_; clear hG0 G0)))
set_option hygiene false in
local macro_rules | `(tactic| obtain rfl : $t := $e) => `(tactic| (rcases ($e : $t) with rfl))
/-! a loop whose turns may change the ground -/
def TurnG (G : Heap → Prop) (L : Addr) (J : (Str → Option Value) → Led → Prop) (I : Addr) (o : Obj) (s : Shared) (Q : Flow → Shared → Prop) (f : Flow) (s₂ : Shared) : Prop :=
  match f with
  | .ret v => Q (.ret v) s₂
  | .brk => Q .next s₂
  | _ => ∃ g h' tk' m' news' led, G g ∧ s₂ = { s with heap := h', toks := tk' } ∧ Fr g L h' m' ∧ News g L h' led ∧ (I, o) ∈ led ∧ (∀ p ∈ news', p ∈ led) ∧ (∀ p ∈ news', p.1 ≠ I) ∧ J m' news'
def LoopAtG (prog : Program) (w : World) (A : Around) (G : Heap → Prop) (env : Env) (x : Str) (body : List Stmt) (Q : Flow → Shared → Prop) (E : Value → Shared → Prop) (it : Value) (s₂ : Shared) : Prop :=
  ∃ (I : Addr) (n : Nat) (P : Nat → Value → Prop) (St : Nat → Heap → Prop) (m : Str → Option Value) (news : Led) (J : Nat → (Str → Option Value) → Led → Prop) (g : Heap),
    it = .ref I ∧ Walks prog w A I [I] [I] n P St ∧ @Ne Nat env.locals I ∧ G g ∧ (∀ g, G g → g.get? I = none) ∧ (∀ i h, St i h → ∃ o, h.get? I = some o) ∧ (∀ p ∈ news, p.1 ≠ I) ∧ St 0 s₂.heap ∧ Fr g env.locals s₂.heap m ∧ News g env.locals s₂.heap news ∧ J 0 m news ∧
    (∀ i v m₁ news₁ h tk o g, i < n → P i v → G g → J i m₁ news₁ → (∀ p ∈ news₁, p.1 ≠ I) → Fr g env.locals h (fun y => if y = x then some v else m₁ y) → News g env.locals h ((I, o) :: news₁) →
      wpAny (model prog w) A (execs body env) (TurnG G env.locals (J (i + 1)) I o { s₂ with heap := h, toks := tk } Q) E { s₂ with heap := h, toks := tk }) ∧
    ∀ g h' tk m' news', G g → Fr g env.locals h' m' → News g env.locals h' news' → J n m' news' → Q .next { s₂ with heap := h', toks := tk }
section
variable {prog : Program} {w : World} {A : Around} {s : Shared} {env : Env}
theorem For_G {E : Value → Shared → Prop} {Q : Flow → Shared → Prop} {x : Str} {px pos : Pos} {iter : Expr} {body : List Stmt} (G : Heap → Prop) (hx : env.kindOf x = some .local)
    (hp : (env.scope.kind == .class || (env.scope.kind == .module && env.locals != env.globals)) = false)
    (h : wpAny (model prog w) A (eval iter env) (fun xv s₁ => wpAny (model prog w) A (pyIter xv) (fun it s₂ => LoopAtG prog w A G env x body Q E it s₂) E s₁) E s)
    (hs : ∀ x, foldedSetIterable iter env x = pure x := by intro _; rfl)
    (hE : PassesOwn (model prog w) A env E := by passes_own) :
    wpAny (model prog w) A (exec (.For (.Name x px) iter body [] pos) env) Q E s := by
  refine wpAny_For (wpAny_mono h (fun xv s₁ h₁ => wpAny_mono h₁ (fun it s₂ h₂ => ?_) fun _ _ e => e) fun _ _ e => e) hs
  obtain ⟨I, n, P, St, m, news, J, g, rfl, W, hL, hg, hGI, hStI, hnw, hst, F, N, h0, step, hQ⟩ := h₂
  refine codeAny_forLoop (R := fun r s' => match r with | .ok f => Q f s' | .error e => cameBackBy (model prog w) A env E e s')
    (fun k s' => ∃ h' tk m' news' i g, s' = { s₂ with heap := h', toks := tk } ∧ St i h' ∧ G g ∧ Fr g env.locals h' m' ∧ News g env.locals h' news' ∧ (∀ p ∈ news', p.1 ≠ I) ∧ J i m' news' ∧ i ≤ n ∧ k = n + 1 - i) ?_ (n + 1)
    ⟨s₂.heap, s₂.toks, m, news, 0, g, rfl, hst, hg, F, N, hnw, h0, Nat.zero_le _, rfl⟩
  intro k s' hx1
  obtain ⟨h', tk, m', news', i, g, rfl, hst', hg', F', N', hnw', hJ, hi, rfl⟩ := hx1
  have hI0 := hGI g hg'
  have ne_of : ∀ {b : Addr}, @Ne Nat b I → b ∉ [I] := fun hne hm => hne (List.mem_singleton.mp hm)
  have next : ∀ h₁ : Heap, (∀ b o, b ∉ [I] → h'.get? b = some o → h₁.get? b = some o) → Fr g env.locals h₁ m' ∧ News g env.locals h₁ news' := fun h₁ hk₁ =>
    ⟨⟨F'.ns.at' fun o e => hk₁ _ o (ne_of hL) e, fun b o e => hk₁ b o (ne_of fun q => by rw [q, hI0] at e; cases e) (F'.keep b o e), F'.above⟩, fun p hp => ⟨hk₁ _ _ (ne_of (hnw' p hp)) (N' p hp).1, (N' p hp).2⟩⟩
  by_cases hlt : i < n
  · refine W.item i _ _ _ hlt hst' fun v h₁ tk₁ hP hst₁ hk₁ => ?_
    obtain ⟨F₁, N₁⟩ := next h₁ hk₁
    refine wpAny_assign_Name (wpAny_storeName_local hx F₁.ns (fun h₂ hn₂ hs₂ => ?_) hp)
    have F₂ := F₁.set hn₂ hs₂
    obtain ⟨o, ho⟩ := hStI _ _ hst₁
    have ho₂ : h₂.get? I = some o := (hs₂.2 I fun q => hL q.symm).trans ho
    have N₂ : News g env.locals h₂ ((I, o) :: news') := fun p hp => by
      rcases List.mem_cons.mp hp with rfl | hp
      · exact ⟨ho₂, fun q => hL q.symm, hI0⟩
      · exact (N₁.set hs₂) p hp
    refine wpAny_mono (wpAny_passesOwn hE (step i v m' news' h₂ _ o g hlt hP hg' hJ hnw' F₂ N₂)) (fun f s₃ h₃ => ?_) fun _ _ e => e
    have fin : (∃ g h' tk' m' news' led, G g ∧ s₃ = { s₂ with heap := h', toks := tk' } ∧ Fr g env.locals h' m' ∧ News g env.locals h' led ∧ (I, o) ∈ led ∧ (∀ p ∈ news', p ∈ led) ∧ (∀ p ∈ news', p.1 ≠ I) ∧ J (i + 1) m' news') →
        ∃ m, m < n + 1 - i ∧ ∃ h' tk m' news' i g, s₃ = { s₂ with heap := h', toks := tk } ∧ St i h' ∧ G g ∧ Fr g env.locals h' m' ∧ News g env.locals h' news' ∧ (∀ p ∈ news', p.1 ≠ I) ∧ J i m' news' ∧ i ≤ n ∧ m = n + 1 - i := by
      intro hx2
      obtain ⟨g₃, h₃', tk₃, m₂, news₂, led, hg₃, rfl, F₃, N₃, hI, hsub, hne, hJ₃⟩ := hx2
      refine ⟨n + 1 - (i + 1), by omega, h₃', tk₃, m₂, news₂, i + 1, g₃, rfl, ?_, hg₃, F₃, fun p hp => N₃ p (hsub p hp), hne, hJ₃, hlt, rfl⟩
      refine W.frame _ _ _ hst₁ fun b hb o' e => ?_
      rw [List.mem_singleton.mp hb] at e ⊢
      rw [ho] at e
      cases e
      exact (N₃ _ hI).1
    cases f with
    | ret v => exact h₃
    | brk => exact h₃
    | cont => exact fin h₃
    | next => exact fin h₃
  · have hin : i = n := by omega
    subst hin
    refine W.done _ _ _ hst' fun h₁ tk₁ hk₁ => wpAny_execs_nil ?_
    obtain ⟨F₁, N₁⟩ := next h₁ hk₁
    exact hQ g h₁ tk₁ m' news' hg' F₁ N₁ hJ
theorem iter_upG {E : Value → Shared → Prop} {Q : Flow → Shared → Prop} {x : Str} {body : List Stmt} {r : Addr} {t₀ u₀ v₀ : Tok} {n : Nat} {m₀ : Str → Option Value} {news : Led} {G : Heap → Prop} {g : Heap} (J : Nat → (Str → Option Value) → Led → Prop)
    (hh : A.handled = none) (hr : IsRange s.heap r 0 (n : Int) 1 t₀ u₀ v₀) (hn : n ≤ 1000000) (F : Fr g env.locals s.heap m₀) (N : News g env.locals s.heap news) (hg : G g) (hG : ∀ g', G g' → ∀ b, g.get? b = none → g'.get? b = none) (hj : J 0 m₀ news)
    (turn : ∀ (i : Nat) t m₁ news₁ h tk I o g, i < n → G g → J i m₁ news₁ → (∀ p ∈ news₁, p.1 ≠ I) → Fr g env.locals h (fun y => if y = x then some (.int (i : Int) t) else m₁ y) → News g env.locals h ((I, o) :: news₁) →
      wpAny (model prog w) A (execs body env) (TurnG G env.locals (J (i + 1)) I o { s with heap := h, toks := tk } Q) E { s with heap := h, toks := tk })
    (done : ∀ m₁ news₁ h tk g, G g → J n m₁ news₁ → Fr g env.locals h m₁ → News g env.locals h news₁ → Q .next { s with heap := h, toks := tk }) :
    wpAny (model prog w) A (pyIter (.ref r)) (fun it s₂ => LoopAtG prog w A G env x body Q E it s₂) E s := by
  refine wpAny_pyIter_range hr (small_up hn) ?_
  have W := Walks.range (prog := prog) (w := w) hh s.heap.objs.size 0 1 n
  refine ⟨_, n, _, _, m₀, news, J, g, rfl, W, ?_, hg, fun g' hg' => hG g' hg' _ (next_is_new F), fun i h hs => ?_, fun p hp hI => ?_, (by show IsRangeIter _ _ _ _ _; rw [size_up]; simpa using Heap.get?_push_size _ rfl), F.push _, (fun p hp => ⟨Heap.get?_push_of_some _ (N p hp).1, (N p hp).2⟩), hj, ?_, ?_⟩
  · exact fun hm => absurd F.ns.lt (hm ▸ Nat.lt_irrefl _)
  · exact ⟨_, hs⟩
  · exact absurd (Heap.lt_size (N p hp).1) (hI ▸ Nat.lt_irrefl _)
  · intro i v m₁ news₁ h tk o g' hi hx3 hg' hJ hne F₁ N₁
    obtain ⟨t, rfl⟩ := hx3
    exact turn i t m₁ news₁ h tk _ o g' hi hg' hJ hne (by rw [show (0 : Int) + i * 1 = i from by omega] at F₁; exact F₁) N₁
  · intro g' h' tk m' news' hg' F' N' hJ
    exact done m' news' h' tk g' hg' hJ F' N'
end
open PySem PySem.W PyProof.Rows PySem.Spec PySem.Calls
set_option maxRecDepth 100000
/-! entering a def that catches, from a frame that has cells of its own -/
section
variable {K : Frag} {p : Program} {loose : List Str} {mean : ExcName → Option Value} {mg mb : Str → Option Value} {prog : Program} {w : World} {A A₀ : Around} {s : Shared} {base h₀ : Heap} {L a : Addr} {m : Str → Option Value} {news : Led} {cn : Str} {cs : Scope} {ccd : Value} {cl : List (Str × Addr)} {outer : List Env}
theorem enterX (B : Below A₀ base outer h₀) (F : Fr h₀ L s.heap m) (N : News h₀ L s.heap news) (hA : A.frames = some (envX cn cs L a ccd cl :: outer)) (hck : cs.kind = .function) :
    ∃ oL es ep, (hideAll s.heap (news.map (·.1))).get? L = some oL ∧ oL.data = .dict es ep ∧ (∀ h', h'.get? L = some oL → Heap.Ns h' L m) ∧ (∀ (sl : Array (Option Value)) h', h'.get? L = some { oL with slots := sl } → Heap.Ns h' L m) ∧
      h₀.StaysIn (hideAll s.heap (news.map (·.1))) ∧ Below A base (envX cn cs L a ccd cl :: outer) (hideAll s.heap (news.map (·.1))) := by
  obtain ⟨oL, es, ep, h1, h2, h3, h4, h5, B₂⟩ := kts_enter (a := a) (ccd := ccd) (cn := cn) (A := { A with frames := some (envOf cn cs L a ccd :: outer) }) B F N rfl hck
  exact ⟨oL, es, ep, h1, h2, h3, h4, h5, ⟨hA, B₂.stays, B₂.frames⟩⟩
theorem memX {b : Addr} (h : b ∈ [envX cn cs L a ccd cl].filterMap (·.frame)) : b = L := by
  rcases List.mem_filterMap.mp h with ⟨e, he, hf⟩
  rw [List.mem_singleton.mp he] at hf
  exact (Option.some.inj hf).symm
theorem code_defSX {R : Result → Shared → Prop} {name qual : Str} {params : Arguments} {body : List Stmt} {scope : Scope} {dV kV doc pm cdv ct oc : Value} {an od : Option Addr} {osl : Array (Option Value)} {f : Addr} {args : Args} {binds : List (Str × Value)}
    (B : Below A₀ base [] h₀) (F : Fr h₀ L s.heap m) (X₀ : K.In h₀) (N : News h₀ L s.heap news) (T : Top p loose mean mg mb h₀) (hA : A.frames = some [envX cn cs L a ccd cl])
    (ho : K.lookup f = some ⟨oc, od, .func (fnOf name qual params body scope dV kV doc pm an cdv ct), osl⟩) (hcd : codeIn K cdv qual = true) (hroom : A.depth < recursionLimit)
    (hbind : BindsTo s (fnOf name qual params body scope dV kV doc pm an cdv ct) args binds) (hloc : ∀ y ∈ binds, scope.names.lookup y.1 = some .local)
    (h : ∀ g L' h₁, Fr h₀ L g m → Fr g L' h₁ (fun y => binds.reverse.lookup y) → News g L' h₁ news → Below A base [envX cn cs L a ccd cl] g → K.In g → Top p loose mean mg mb g → KtsDicts ([envX cn cs L a ccd cl].filterMap (·.frame)) g →
      wpAny (model prog w) (A.deeper (envOf qual scope L' f cdv)) (execs body (envOf qual scope L' f cdv))
        (fun fl s' => LeaveS0 ([envX cn cs L a ccd cl].filterMap (·.frame)) h₀ L m g R (match fl with | .ret v => v | _ => .none) s')
        (fun e s' => wpAny (model prog w) (A.deeper (envOf qual scope L' f cdv)) (leaving (envOf qual scope L' f cdv) e) (fun _ s'' => R (.error e) s'') (fun e' s'' => R (.error e') s'') s')
        { s with heap := h₁, toks := s.toks + binds.length })
    (hck : cs.kind = .function) (hco : scope.isCoroutine = false) (hgen : scope.isGenerator = false) (hk : scope.kind = .function)
    (hcell : ∀ x ∈ scope.names, x.2 ≠ .cell) : codeAny (model prog w) A (.call (.ref f) args) R s := by
  have X := X₀.keeps F.keep
  refine codeAny_call_def (fd := fnOf name qual params body scope dV kV doc pm an cdv ct) (body := body) (binds := binds) hroom (X _ _ ho) rfl (T.nolimit.keeps F.keep) (codeRec_of X hcd) rfl hbind hcell hloc (fun h₁ hns hk₁ => ?_) hco hgen hk
  obtain ⟨oL, es, ep, hLg, hLd, hN, hNs, st, B₂⟩ := enterX (cl := cl) (a := a) (ccd := ccd) B F N hA hck
  have Fg : Fr h₀ L (hideAll s.heap (news.map (·.1))) m := ⟨hN _ hLg, st, F.above⟩
  have F1 : Fr (hideAll s.heap (news.map (·.1))) s.heap.objs.size h₁ (fun y => binds.reverse.lookup y) := ⟨hns, fun b o e => hk₁ b o (of_hideAll _ e), Nat.le_of_eq (hideAll_size _ _)⟩
  have N1 : News (hideAll s.heap (news.map (·.1))) s.heap.objs.size h₁ news := fun q hq => ⟨hk₁ _ _ (N q hq).1, Nat.ne_of_lt (Heap.lt_size (N q hq).1), hideAll_none _ (List.mem_map_of_mem hq)⟩
  have D1 : KtsDicts ([envX cn cs L a ccd cl].filterMap (·.frame)) (hideAll s.heap (news.map (·.1))) := fun b hb => by
    rw [memX hb]
    exact ⟨oL, es, ep, hLg, hLd⟩
  refine wpAny_mono (h _ s.heap.objs.size h₁ Fg F1 N1 B₂ (X₀.keeps st) (T.keeps st) D1) (fun fl s' hl => ?_) fun _ _ y => y
  obtain ⟨g', L', m', news', T', F', N', k⟩ := hl
  have nL₀ : h₀.get? L = none := kts_self F
  obtain ⟨sl, hs⟩ := T'.up hLg
  refine k ⟨hNs sl _ (F'.keep _ _ hs), fun b o e => F'.keep b o (T'.other b o (st b o e) fun q => ?_), F.above⟩ fun q hq => ⟨(N' q hq).1, fun e => ?_, ?_⟩
  · rw [memX q, nL₀] at e
    cases e
  · have := (N' q hq).2.2
    rw [e, hs] at this
    cases this
  · cases z : h₀.get? q.1 with
    | none => rfl
    | some o =>
      obtain ⟨sl', hs'⟩ := T'.up (st _ _ z)
      have := (N' q hq).2.2
      rw [hs'] at this
      cases this
end
end Mine
namespace Mine
local macro_rules | `(tactic| fail "r") => `(tactic| with_unfolding_all rfl)
set_option hygiene false in
local macro_rules | `(tactic| fail "e") => `(tactic| ((case ho => with_unfolding_all rfl); (case hcd => with_unfolding_all rfl); (case hb => exact fun s => BindsTo.of_eq rfl); (case hl => exact locs rfl); (case c1 => rfl); (case c2 => rfl); (case c3 => rfl); (case c4 => decide)))
open PySem PySem.W PyProof.Rows PySem.SeqAt
local macro_rules | `(tactic| omega) => `(tactic| lia)
set_option hygiene false in
local macro_rules | `(tactic| obtain $p:rcasesPatMed := $e) => `(tactic| (refine Mine.hide ?_; intro G0 hG0; rcases $e:term with $p:rcasesPatMed <;> (refine hG0 ?_; clear hG0 G0)))
set_option hygiene false in
local macro_rules | `(tactic| obtain $p:rcasesPatMed : $t := $e) => `(tactic| (refine Mine.hide ?_; intro G0 hG0; rcases ($e : $t) with $p:rcasesPatMed <;> (refine hG0 ?_; clear hG0 G0)))
set_option hygiene false in
local macro_rules | `(tactic| obtain rfl : $t := $e) => `(tactic| (rcases ($e : $t) with rfl))
set_option maxRecDepth 100000
inductive FD where
  | i (n : Int)
  | b (x : Array UInt8)
deriving DecidableEq
def FIs (v : Value) : FD → Prop
  | .i n => ∃ t, v = .int n t
  | .b x => ∃ t, v = .bytes x t
def sameKind : FD → FD → Prop
  | .i _, .i _ => True
  | .b _, .b _ => True
  | _, _ => False
section
variable {A : Around} {s : Shared}
theorem eqAt_bytes (x y : Array UInt8) (t u : Tok) : EqAt A s (.bytes x t) (.bytes y u) (x == y) := fun prog w E Q hq => by
  unfold eqBool
  refine wpAny_holding ?_
  refine wpAny_ite_split (fun hab => ?_) (fun _ => ?_)
  · have e := eq_of_beq hab
    injection e with e1 e2
    subst e1
    rw [show (x == x) = true by simp] at hq
    exact wpAny_bind (wpAny_rule (wpAny_pure hq))
  · have e : (x == y) = (x.toList == y.toList) := by
      by_cases h : x = y
      · subst h; simp
      · have : x.toList ≠ y.toList := fun g => h (Array.toList_inj.mp g)
        simp [h, this]
    rw [e] at hq
    exact wpAny_bind (eq_bytes (wpAny_truthy_bool hq))
theorem eqAt_FD {v v' : Value} {d d' : FD} (h : FIs v d) (h' : FIs v' d') (hk : sameKind d d') : EqAt A s v v' (decide (d = d')) := by
  cases d <;> cases d' <;> try exact hk.elim
  · obtain ⟨t, rfl⟩ := h
    obtain ⟨u, rfl⟩ := h'
    rename_i n n'
    have : (decide (FD.i n = FD.i n')) = (n == n') := by by_cases e : n = n' <;> simp [e]
    rw [this]
    exact (MeetsSeq.EqGives.int n n' t u).at A s
  · obtain ⟨t, rfl⟩ := h
    obtain ⟨u, rfl⟩ := h'
    rename_i n n'
    have : (decide (FD.b n = FD.b n')) = (n == n') := by by_cases e : n = n' <;> simp [e]
    rw [this]
    exact eqAt_bytes n n' t u
end
def FAll : List Value → List FD → Prop
  | [], [] => True
  | v :: vs, d :: ds => FIs v d ∧ FAll vs ds
  | _, _ => False
def kindsAll : List FD → List FD → Prop
  | [], [] => True
  | d :: ds, e :: es => sameKind d e ∧ kindsAll ds es
  | _, _ => False
theorem FAll.len : ∀ {vs : List Value} {ds : List FD}, FAll vs ds → vs.length = ds.length
  | [], [], _ => rfl
  | _ :: _, _ :: _, h => by simp [FAll.len h.2]
  | [], _ :: _, h => h.elim
  | _ :: _, [], h => h.elim
theorem kindsAll.len : ∀ {ds es : List FD}, kindsAll ds es → ds.length = es.length
  | [], [], _ => rfl
  | _ :: _, _ :: _, h => by simp [kindsAll.len h.2]
  | [], _ :: _, h => h.elim
  | _ :: _, [], h => h.elim
theorem FAll.at : ∀ {vs : List Value} {ds : List FD}, FAll vs ds → ∀ (j : Nat) (h : j < vs.length) (h' : j < ds.length), FIs vs[j] ds[j]
  | [], _, _, _, h, _ => absurd h (Nat.not_lt_zero _)
  | _ :: _, [], _, _, _, h => absurd h (Nat.not_lt_zero _)
  | _ :: _, _ :: _, h, 0, _, _ => h.1
  | _ :: _, _ :: _, h, j + 1, h1, h2 => FAll.at h.2 j (by simpa using h1) (by simpa using h2)
theorem kindsAll.at : ∀ {ds es : List FD}, kindsAll ds es → ∀ (j : Nat) (h : j < ds.length) (h' : j < es.length), sameKind ds[j] es[j]
  | [], _, _, _, h, _ => absurd h (Nat.not_lt_zero _)
  | _ :: _, [], _, _, _, h => absurd h (Nat.not_lt_zero _)
  | _ :: _, _ :: _, h, 0, _, _ => h.1
  | _ :: _, _ :: _, h, j + 1, h1, h2 => kindsAll.at h.2 j (by simpa using h1) (by simpa using h2)
section
variable {prog : Program} {w : World} {A : Around} {E : Value → Shared → Prop} {s : Shared} {h₀ : Heap} {L a b : Addr} {news : List (Addr × Obj)} {vs ws : List Value} {ds es : List FD} {n m : Nat}
theorem rc_tuples (N : News h₀ L s.heap news) (ma : (a, ({ cls := .type "tuple", data := .seq vs.toArray n } : Obj)) ∈ news) (mb : (b, ({ cls := .type "tuple", data := .seq ws.toArray m } : Obj)) ∈ news)
    (Fa : FAll vs ds) (Fb : FAll ws es) (K : kindsAll ds es) (hu : A.units < cLine) : RcAt A s (.ref a) (.ref b) (decide (ds = es)) := by
  have l1 := Fa.len
  have l2 := Fb.len
  have l3 := K.len
  have r := RcAt.tuples (A := A) (e := fun j => decide (ds[j]? = es[j]?)) (News.isTup N ma) (News.isTup N mb) hu fun j h1 h2 => by
    have g1 : j < vs.length := by simpa using h1
    have g2 : j < ws.length := by simpa using h2
    have := eqAt_FD (A := A.in1) (s := s) (Fa.at j g1 (by omega)) (Fb.at j g2 (by omega)) (K.at j (by omega) (by omega))
    have e1 : ds[j]? = some ds[j] := List.getElem?_eq_getElem (by omega)
    have e2 : es[j]? = some es[j] := List.getElem?_eq_getElem (by omega)
    rw [e1, e2]
    simpa using this
  have e : ((List.range (min vs.toArray.size ws.toArray.size)).all (fun j => decide (ds[j]? = es[j]?)) && vs.toArray.size == ws.toArray.size) = decide (ds = es) := by
    by_cases h : ds = es
    · subst h
      simp; omega
    · have : ¬ ∀ j, j < ds.length → ds[j]? = es[j]? := fun g => h (List.ext_getElem? fun j => by
        by_cases hj : j < ds.length
        · exact g j hj
        · rw [List.getElem?_eq_none (by omega), List.getElem?_eq_none (by omega)])
      rw [decide_eq_false h]
      apply Bool.eq_false_iff.mpr
      intro g
      rw [Bool.and_eq_true, List.all_eq_true] at g
      exact this fun j hj => by simpa using g.1 j (by simp; omega)
  rw [e] at r
  exact r
theorem eq_tuples {Q : Value → Shared → Prop} (N : News h₀ L s.heap news) (ma : (a, ({ cls := .type "tuple", data := .seq vs.toArray n } : Obj)) ∈ news) (mb : (b, ({ cls := .type "tuple", data := .seq ws.toArray m } : Obj)) ∈ news)
    (Fa : FAll vs ds) (Fb : FAll ws es) (K : kindsAll ds es) (hu : A.units < cLine) (h : Q (.bool (decide (ds = es))) s) : wpAny (model prog w) A (compareOp .Eq (.ref a) (.ref b)) Q E s :=
  rc_tuples N ma mb Fa Fb K hu prog w E Q h
end
theorem fall_nil : FAll [] [] := trivial
theorem fall_b {x : Array UInt8} {t : Tok} {vs : List Value} {ds : List FD} (h : FAll vs ds) : FAll (.bytes x t :: vs) (.b x :: ds) := ⟨⟨t, rfl⟩, h⟩
theorem kinds_nil : kindsAll [] [] := trivial
theorem kinds_b {x y : Array UInt8} {ds es : List FD} (h : kindsAll ds es) : kindsAll (.b x :: ds) (.b y :: es) := ⟨trivial, h⟩
open PySem PySem.W PyProof.Rows PySem.Spec
set_option linter.unusedVariables false
set_option maxRecDepth 100000
set_option maxHeartbeats 8000000
structure RdM (w : World) (D : Nat) (T : Led) (c : Addr) (nm : Str) (P : Value → Prop) : Prop where
  it : ∃ f, keepIn (Mine.hd.heap_39 w.params) (.ref f) = true ∧ (∀ {D' : Nat} {F : FnC} {b : Bx} {m : Str → Option Value} {led : Led} {pl : Sem Bool}, Okx w D' b → (∀ p ∈ T, p ∈ led) → Px w F b (getMethod (.ref c) nm pl) (fun a => a = (.ref f, [.ref c])) m led) ∧
    (∀ {D' : Nat} {F : FnC} {b : Bx} {m : Str → Option Value} {led : Led}, Okx w D' b → D ≤ D' → F.cs.kind = .function → (∀ p ∈ T, p ∈ led) → Px w F b (call (.ref f) ([.ref c] ++ [])) P m led)
section
variable {w : World} {D D' : Nat} {F : FnC} {b : Bx} {m : Str → Option Value} {led T : Led} {env : Env} {pos ap : Pos} {pl : Sem Bool} {c : Addr} {nm : Str} {P : Value → Prop} {o : Expr}
theorem px_rdm (R : RdM w D T c nm P) (ok : Okx w D' b) (hT : ∀ p ∈ T, p ∈ led) (h1 : Px w F b (eval o env) (fun a => a = .ref c) m led) (hk : F.cs.kind = .function) (hD : D ≤ D')
    (he : eval (.Call (.Attribute o nm ap) [] [] pos) env = (do
      let ov ← eval o env
      standAt ap.atName
      let (f, first) ← holding [ov] (getMethod ov nm pl)
      callWith pos f first (backTo pos (starEach [] env)) [])) : Px w F b (eval (.Call (.Attribute o nm ap) [] [] pos) env) P m led := by
  obtain ⟨f, h2, h3, h4⟩ := R.it
  exact pm0 ok h1 (h3 ok hT) (h4 ok hD hk hT) h2 he
theorem op_eqB {x y : Bool} : ∀ u v, u = .bool x → v = .bool y → Px w F b (compareOp .Eq u v) (fun a => a = .bool (x == y)) m led := fun u v hu hv s Q E f N q => by subst hu; subst hv; exact eq_bool (q _ s.heap s.toks rfl f N)
theorem pv_tup2 {e1 e2 r : Expr} {k tp} {x y : Array UInt8} {ta : Addr} {t1 t2 : Tok} {n : Nat} (ok : Okx w D b) (h1 : Px w F b (eval e1 env) (IsB x) m led) (h2 : Px w F b (eval e2 env) (IsB y) m led) (h3 : ∀ z, Px w F b (eval r env) (fun a => a = .ref ta) m (z :: led)) (hm : (ta, tupObj [.bytes x t1, .bytes y t2] n) ∈ led)
    (he : starEach [e1, e2] env = (false, eval e1 env) :: starEach [e2] env) (he2 : starEach [e2] env = (false, eval e2 env) :: starEach [] env) (hb : behindInMarks .Eq r = false) : Px w F b (eval (.Compare (.Tuple [e1, e2] k tp) [.Eq] [r] pos) env) (fun a => a = .bool true) m led := fun s Q E f N q =>
  wpAny_Compare1 (Tuple_ (px_args2 h1 h2 he he2 s _ E f N fun vs h' tk' pa F' N' => by
    obtain ⟨_, _, rfl, ⟨u1, rfl⟩, ⟨u2, rfl⟩⟩ := pa
    refine kup_newTuple F' N' (fun a h2' F2' N2' hlt => h3 _ _ _ E F2' N2' fun v h3' tk3 pa3 F3' N3' => ?_) (by show 2 ≤ sizeLine; decide)
    subst pa3
    refine eq_tuples (ds := [.b x, .b y]) (es := [.b x, .b y]) N3' (.head _) (.tail _ hm) (fall_b (fall_b fall_nil)) (fall_b (fall_b fall_nil)) (kinds_b (kinds_b kinds_nil)) (by have := ok.hu; have e : (tpx F b).units = b.un := rfl; rw [e]; omega) ?_
    exact q _ h3' tk3 (by simp) F3' (news_of N3' fun _ h => .tail _ h))) hb
theorem agree_on {j : Nat} {x y : Array UInt8} {rl ta : Addr} {vs : Array Value} {nv nR nt : Nat} {tpl t1 t2 : Tok} (R1 : RdM w D T c "valid" fun a => a = .bool true) (R2 : RdM w D T c "key" (IsB x)) (R3 : RdM w D T c "value" (IsB y)) (hr : (rl, listOf vs nv) ∈ T) (hvl : vs.size = nR) (hvn : nR ≤ 1000) (hjn : j < nR) (hta : vs[j]? = some (.ref ta)) (htu : (ta, tupObj [.bytes x t1, .bytes y t2] nt) ∈ T) :
    Calls w (D + 1 + 1) 683 [.ref c, .ref rl, .int (j : Int) tpl] [] T fun r fp' => r = .bool true ∧ fp' = [] := by
  refine' calls_ofG (binds := [("walker", .ref c), ("rows", .ref rl), ("place", .int (j : Int) tpl)]) ?ho ?hcd ?hb ?hl ?c1 ?c2 ?c3 ?c4 ?_
  fail "e"
  intro bb ok φ kφ
  refine sx_if1 (c := decide ((j : Int) < 0) || decide (((vs.size : Nat) : Int) ≤ (j : Int))) (pc_or2 (pc_ltI (Px.mono (px_name rfl rfl rfl rfl) isI) px_int rfl) fun _ => pc_geI (Px.mono (px_name rfl rfl rfl rfl) isI) (px_len ok (px_name rfl rfl rfl rfl) (px_builtin ok (by fail "r") (by fail "r") (by decide) rfl rfl rfl) hr (by omega) rfl rfl) rfl) (fun h => ?_) fun _ => ?_
  · rw [Bool.or_eq_true, decide_eq_true_eq, decide_eq_true_eq] at h
    omega
  · exact sx_ret (pv_and (pv_cmp (px_rdm R1 ok (fun _ h => h) (px_name rfl rfl rfl rfl) rfl (by omega) rfl) px_bool op_eqB rfl) fun _ => pv_tup2 ok (px_rdm R2 ok (fun _ h => h) (px_name rfl rfl rfl rfl) rfl (by omega) rfl) (px_rdm R3 ok (fun _ h => h) (px_name rfl rfl rfl rfl) rfl (by omega) rfl) (fun z => px_item (k := (j : Int)) (px_name rfl rfl rfl rfl) (Px.mono (px_name rfl rfl rfl rfl) isI) (.tail _ hr) (by omega) (by omega) hta (fun _ => (by fail "r"))) htu rfl rfl rfl) fun v hv => kφ (.ret v) _ [] ⟨hv, rfl⟩
theorem rdm_cur {C : CurP} {fp rest : Led} {kd : Bool} {R : List Row} {st : Option Nat} {mn : MN} (S : CurSpec w D C) (hC : C fp rest c kd R st) (H : ∀ {E0 : Led}, (∀ p ∈ rest, p ∈ E0) → Calls w D (adr kd mn) [.ref c] fp E0 fun r _ => P r) : RdM w D (fp ++ rest) c mn.name P :=
  ⟨_, keep_cur w kd mn, fun ok hT => px_cur ok S hC hT mn, fun ok hD hk hT => px_call ok (H fun p hp => hT p (List.mem_append_right _ hp)) (fun _ _ h => h) (fun p hp => hT p (List.mem_append_left _ hp)) hk hD⟩
end
section
variable {w : World} {D : Nat} {C : CurP} {T rest fpi : Led} {u du inner : Addr} {kd : Bool} {R : List Row} {q : UP} {upto going : Int} {lo hi : Option (Array UInt8)} {tg tsk tsv : Tok} {good : Bool} {sk sv : Array UInt8}
theorem rdm_user {nm : Str} {f : Addr} {P : Value → Prop} (m1 : (u, instObj 611 du) ∈ T) (hT : ∀ p ∈ (du, UD q inner upto lo hi going tg good sk tsk sv tsv) :: fpi, p ∈ T) (hl : ∀ v1 v2 v3 v4 v5 v6 v7 v8 : Value, getL nm [⟨q.h1, .str "inner" q.t1, v1⟩, ⟨q.h2, .str "seq" q.t2, v2⟩, ⟨q.h3, .str "low" q.t3, v3⟩, ⟨q.h4, .str "high" q.t4, v4⟩, ⟨q.h5, .str "going" q.t5, v5⟩, ⟨q.h6, .str "good" q.t6, v6⟩, ⟨q.h7, .str "saved_key" q.t7, v7⟩, ⟨q.h8, .str "saved_value" q.t8, v8⟩] = some none)
    (hg : plainGet (Mine.hd.heap_39 w.params) 611 nm = true) (hf : findIn (Mine.hd.heap_39 w.params) (.ref 611) nm = some (some (.ref f))) (hb : isFn (Mine.hd.heap_39 w.params) (.ref f) = true) (hk : keepIn (Mine.hd.heap_39 w.params) (.ref f) = true)
    (H : ∀ {E0 : Led}, (∀ p ∈ T, p ∈ E0) → Calls w D f [.ref u] ((du, UD q inner upto lo hi going tg good sk tsk sv tsv) :: fpi) E0 fun r _ => P r) : RdM w D T u nm P :=
  ⟨f, hk, fun ok h => px_meth ok (h _ m1) (h _ (hT _ (.head _))) (hl _ _ _ _ _ _ _ _) hg hf hb, fun ok hD hkk h => px_call ok (H h) (fun _ _ h => h) (fun p hp => h p (hT p hp)) hkk hD⟩
end
open PySem PySem.W PyProof.Rows PySem.Spec
set_option linter.unusedVariables false
set_option maxRecDepth 100000
set_option maxHeartbeats 8000000
def GroundG (fs : List Addr) (A : Around) (base : Heap) (envs : List Env) (K : Frag) (p : Program) (loose : List Str) (mean : ExcName → Option Value) (mg mb : Str → Option Value) (g₀ : Heap) : Heap → Prop :=
  fun g => KtsTurn fs g₀ g ∧ Below A base envs g ∧ K.In g ∧ Top p loose mean mg mb g ∧ KtsDicts fs g
theorem GroundG.start {fs : List Addr} {A : Around} {base : Heap} {envs : List Env} {K : Frag} {p : Program} {loose : List Str} {mean : ExcName → Option Value} {mg mb : Str → Option Value} {g₀ : Heap}
    (B : Below A base envs g₀) (X : K.In g₀) (T : Top p loose mean mg mb g₀) (D : KtsDicts fs g₀) : GroundG fs A base envs K p loose mean mg mb g₀ g₀ := ⟨KtsTurn.refl, B, X, T, D⟩
section
variable {prog : Program} {w : World} {A : Around} {s : Shared} {env : Env}
theorem For_Gs {E : Value → Shared → Prop} {Q : Flow → Shared → Prop} {x : Str} {px pos : Pos} {iter : Expr} {body : List Stmt} {G : Heap → Prop} {g : Heap} (_hg : G g) (hx : env.kindOf x = some .local)
    (hp : (env.scope.kind == .class || (env.scope.kind == .module && env.locals != env.globals)) = false)
    (h : wpAny (model prog w) A (eval iter env) (fun xv s₁ => wpAny (model prog w) A (pyIter xv) (fun it s₂ => LoopAtG prog w A G env x body Q E it s₂) E s₁) E s)
    (hs : ∀ x, foldedSetIterable iter env x = pure x := by intro _; rfl)
    (hE : PassesOwn (model prog w) A env E := by passes_own) :
    wpAny (model prog w) A (exec (.For (.Name x px) iter body [] pos) env) Q E s := For_G G hx hp h hs hE
end
theorem TurnG.next {G : Heap → Prop} {g h' : Heap} {L : Addr} {J : (Str → Option Value) → Led → Prop} {I : Addr} {o : Obj} {s : Shared} {Q : Flow → Shared → Prop} {f : Flow} {m' : Str → Option Value} {news' led : Led} {tk' : Nat}
    (hf : f = .next ∨ f = .cont) (F : Fr g L h' m') (N : News g L h' led) (hg : G g) (hI : (I, o) ∈ led) (hs : ∀ p ∈ news', p ∈ led) (hne : ∀ p ∈ news', p.1 ≠ I) (hj : J m' news') : TurnG G L J I o s Q f { s with heap := h', toks := tk' } := by
  rcases hf with rfl | rfl <;> exact ⟨g, h', tk', m', news', led, hg, rfl, F, N, hI, hs, hne, hj⟩
/-! exceptions of our own classes, by the light calculus -/
def Xout (own : Bool) (F : FnC) (b : Bx) (C : Addr) (m : Str → Option Value) (led : Led) (s : Shared) (e : Value) (s' : Shared) : Prop :=
  ∃ ea vs h' tk', e = .ref ea ∧ s' = { s with heap := h', toks := tk' } ∧
    ((own = true ∧ ∃ h m, Fr b.g b.L h m ∧ News b.g b.L h led ∧ Heap.MadeExcOf h h' ea (.ref C) vs) ∨ (∃ G t, Fr b.g b.L G m ∧ RaisedS b.base G (envOf F.cn F.cs b.L F.a F.cd :: b.outer) ea (.ref C) t vs led h' ∧ G.UpToSlots h'))
def Lr {α : Type} (own : Bool) (w : World) (F : FnC) (b : Bx) (t : Sem α) (C : Addr) (m : Str → Option Value) (led : Led) : Prop :=
  ∀ (s : Shared) (Q : α → Shared → Prop) (E : Value → Shared → Prop), Fr b.g b.L s.heap m → News b.g b.L s.heap led → (∀ e s', Xout own F b C m led s e s' → E e s') → wpAny (model PG w) (tpx F b) t Q E s
def CallsX (w : World) (D : Nat) (f : Addr) (args : List Value) (led : Led) (C : Addr) : Prop :=
  ∀ (dp un : Nat) (gd : Option (List Code)) (cn : Str) (cs : Scope) (a : Addr) (ccd : Value) (outer : List Env) (A₀ : Around) (base h₀ : Heap) (L : Addr) (m mg mb : Str → Option Value) (mean : ExcName → Option Value) (s : Shared) (Q E : Value → Shared → Prop),
    Below A₀ base outer h₀ → Fr h₀ L s.heap m → (Mine.hd.heap_39 w.params).In h₀ → News h₀ L s.heap led → Top VW (looseW VW []) mean mg mb h₀ → cs.kind = .function → dp + D < recursionLimit → un + 8 * D < cLine →
    (∀ ea t vs G h' tk', Fr h₀ L G m → RaisedS base G (envOf cn cs L a ccd :: outer) ea (.ref C) t vs led h' → G.UpToSlots h' → E (.ref ea) { s with heap := h', toks := tk' }) →
    wpAny (model PG w) (ktrTop dp un gd cn cs L a ccd [] outer) (call (.ref f) args) Q E s
section
variable {w : World} {D : Nat} {f C : Addr} {args : List Value} {led : Led} {name qual : Str} {params : Arguments} {body : List Stmt} {scope : Scope} {dV kV doc pm cdv ct oc : Value} {an od : Option Addr} {osl : Array (Option Value)} {binds : List (Str × Value)} {own : Bool}
theorem callsX_of (ho : (Mine.hd.heap_39 w.params).lookup f = some ⟨oc, od, .func (fnOf name qual params body scope dV kV doc pm an cdv ct), osl⟩) (hcd : codeIn (Mine.hd.heap_39 w.params) cdv qual = true)
    (hbind : ∀ s, BindsTo s (fnOf name qual params body scope dV kV doc pm an cdv ct) ⟨args, []⟩ binds) (hloc : ∀ y ∈ binds, scope.names.lookup y.1 = some .local)
    (hco : scope.isCoroutine = false) (hgen : scope.isGenerator = false) (hk : scope.kind = .function) (hcell : ∀ x ∈ scope.names, x.2 ≠ .cell)
    (h : ∀ b : Bx, Okx w D b → b.cl = [] → Lr own w ⟨qual, scope, f, cdv⟩ b (execs body (evx ⟨qual, scope, f, cdv⟩ b)) C (fun y => binds.reverse.lookup y) led) : CallsX w (D + 1) f args led C := by
  intro dp un gd cn cs a ccd outer A₀ base h₀ L m mg mb mean s Q E B F X N T hkk hd hu k
  refine wpAny_call ?_
  refine code_def (env := envX cn cs L a ccd []) (outer := outer) B F X N T rfl rfl hkk ho hcd ?_ (hbind s) hloc (fun g L' h' FG F' N' B' X' T' => ?_) hco hgen hk hcell
  · show dp < recursionLimit; omega
  · refine h ⟨dp + 1, un + 3, gd, [], envX cn cs L a ccd [] :: outer, _, base, g, L', mg, mb, mean⟩ ⟨B', X', T', by show dp + 1 + D < _; omega, by show un + 3 + 8 * D < _; omega⟩ rfl _ _ _ F' N' fun e s' hx => ?_
    obtain ⟨ea, vs, h'', tk', rfl, rfl, hx⟩ := hx
    rcases hx with ⟨-, h1, m1, F1, N1, hm⟩ | ⟨G, t, F1, R1, U1⟩
    · exact leave_raiseS B' hm F1 N1 (fun h3 t R _ U => k _ _ _ _ h3 _ FG R U) hk
    · exact leave_onS B' F1 R1 U1 fun h3 R _ U => k _ _ _ _ h3 _ FG R U
end
section
variable {w : World} {D D' : Nat} {F : FnC} {b : Bx} {C f : Addr} {m : Str → Option Value} {led : Led} {env : Env} {pos apos cpos np : Pos} {st : Stmt} {stmts body orelse : List Stmt} {test e : Expr} {c : Bool} {name : Str} {o : Expr} {pl : Sem Bool} {ov fv : Value} {first args : List Value} {own : Bool}
theorem lr_seq (h : Lr own w F b (exec st env) C m led) : Lr own w F b (execs (st :: stmts) env) C m led := fun s Q E f N q => wpAny_execs_cons (h s _ E f N q)
theorem lr_if (hc : Px w F b (isTrue test env (eval test env)) (fun a => a = c) m led) (h1 : c = true → Lr own w F b (execs body env) C m led) (h2 : c = false → Lr own w F b (execs orelse env) C m led) : Lr own w F b (exec (.If test body orelse pos) env) C m led := fun s Q E f N q =>
  wpAny_If (hc s _ E f N fun a h' tk' pa F' N' => by
    subst pa
    cases a with
    | true => exact h1 rfl _ _ _ F' N' q
    | false => exact h2 rfl _ _ _ F' N' q)
theorem lr_expr (h : Lr own w F b (eval e env) C m led) (hi : interactive env = false) (hs : swapsWith e none pos.line env = pure false) : Lr own w F b (exec (.Expr e pos) env) C m led := fun s Q E f N q => wpAny_Expr_any (h s _ E f N q) hi hs
theorem lr_m0 (ok : Okx w D b) (h1 : Px w F b (eval o env) (fun a => a = ov) m led) (h2 : Px w F b (getMethod ov name pl) (fun a => a = (fv, first)) m led) (h4 : Lr own w F b (call fv (first ++ [])) C m led) (hk : keepIn (Mine.hd.heap_39 w.params) fv = true)
    (he : eval (.Call (.Attribute o name apos) [] [] pos) env = (do
      let ov ← eval o env
      standAt apos.atName
      let (f, first) ← holding [ov] (getMethod ov name pl)
      callWith pos f first (backTo pos (starEach [] env)) [])) : Lr own w F b (eval (.Call (.Attribute o name apos) [] [] pos) env) C m led :=
  fun s Q E f N q => MethodCall_ (h1 s _ E f N fun a h' tk' pa F' N' => by subst pa; exact h2 _ _ E F' N' fun a h2' tk2' pa F2' N2' => by subst pa; exact callWith_K0 (ok.X.keeps F2'.keep) hk (h4 _ _ _ F2' N2' q)) he
theorem lr_call (ok : Okx w D b) (hcl : b.cl = []) (H : CallsX w D' f args led C) (hk : F.cs.kind = .function) (hD : D' ≤ D) : Lr own w F b (call (.ref f) args) C m led := fun s Q E f' N q => by
  have hd := ok.hd
  have hu := ok.hu
  obtain ⟨dp, un, gd, cl, outer, A₀, base, g, L, mg, mb, mean⟩ := b
  obtain rfl : cl = [] := hcl
  exact H dp un gd F.cn F.cs F.a F.cd outer A₀ base g L m mg mb mean s Q E ok.B f' ok.X N ok.T hk (by simp only at hd; omega) (by simp only at hu; omega) fun ea t vs G h' tk' F1 R U => q _ _ ⟨ea, vs, h', tk', rfl, rfl, .inr ⟨G, t, F1, R, U⟩⟩
theorem lr_raise {x : Str} {msg : Str} {k} {B newId initId : String} {bm : List Value} (ok : Okx w D b) (hcl : b.cl = []) (e1 : nsIn (Mine.hd.heap_39 w.params) mainGlobals x = some (some (.ref C))) (q1 : excIn (Mine.hd.heap_39 w.params) C bm newId = true) (FB : ExcBaseFacts B newId initId bm)
    (hk : F.cs.kind = .function) (hx : (evx F b).kindOf x = some .globalImplicit) (hd : (x == ("__debug__" : Str)) = false)
    (he : starEach [.Constant (.str msg) k apos] (evx F b) = (false, eval (.Constant (.str msg) k apos) (evx F b)) :: starEach [] (evx F b)) :
    Lr true w F b (exec (.Raise (some (.Call (.Name x np) [.Constant (.str msg) k apos] [] cpos)) none pos) (evx F b)) C m led := fun s Q E f N q => by
  obtain ⟨dp, un, gd, cl, outer, A₀, base, g, L, mg, mb, mean⟩ := b
  obtain rfl : cl = [] := hcl
  refine Raise_own f (topRead_of ok.T).g (own_of_in ok.X (topRead_of ok.T) e1 q1) FB rfl ?_ he rfl hk hx hd
  exact args_cons (wpAny_Constant_str (args_nil ⟨by show 1 ≤ sizeLine; decide, fun b o e => f.keep b o e, fun h' e hm => q _ _ ⟨e, _, h', _, rfl, rfl, .inl ⟨rfl, _, m, f, N, hm⟩⟩⟩)) he
end
section
variable {w : World} {D : Nat} {T : Led} {x dx ch tp o u du inner : Addr} {q : MP} {qu : UP} {cur going upto : Int} {tc tg tsk tsv : Tok} {lo hi : Option (Array UInt8)} {sk sv : Array UInt8}
structure RaM (w : World) (D : Nat) (T : Led) (c : Addr) (nm : Str) (C : Addr) : Prop where
  it : ∃ f, keepIn (Mine.hd.heap_39 w.params) (.ref f) = true ∧ (∀ {D' : Nat} {F : FnC} {b : Bx} {m : Str → Option Value} {led : Led} {pl : Sem Bool}, Okx w D' b → (∀ p ∈ T, p ∈ led) → Px w F b (getMethod (.ref c) nm pl) (fun a => a = (.ref f, [.ref c])) m led) ∧ (∀ {led : Led}, (∀ p ∈ T, p ∈ led) → CallsX w D f [.ref c] led C)
theorem mneed_x {led : Led} (m1 : (x, instObj 506 dx) ∈ led) (m2 : (dx, MD q ch tp o (-1) tc going tg) ∈ led) : CallsX w (D + 1) 433 [.ref x] led 92 := by
  refine' callsX_of (own := true) (binds := [("self", .ref x)]) ?ho ?hcd ?hb ?hl ?c1 ?c2 ?c3 ?c4 ?_
  fail "e"
  intro bb ok hcl
  exact lr_seq (lr_if (pc_ltI (Px.mono (px_attr ok rfl m1 m2 rfl rfl (by fail "r") (by fail "r") (by fail "r") (by fail "r") rfl rfl rfl rfl) isI) px_int rfl) (fun _ => lr_seq (lr_raise ok hcl (by fail "r") (by fail "r") PySem.F.excBase_Exception rfl rfl rfl rfl)) fun h => by cases h)
theorem uneed_x {led : Led} (m1 : (u, instObj 611 du) ∈ led) (m2 : (du, UD qu inner upto lo hi going tg false sk tsk sv tsv) ∈ led) : CallsX w (D + 1) 538 [.ref u] led 92 := by
  refine' callsX_of (own := true) (binds := [("self", .ref u)]) ?ho ?hcd ?hb ?hl ?c1 ?c2 ?c3 ?c4 ?_
  fail "e"
  intro bb ok hcl
  exact lr_seq (lr_if (pc_not (pc_val (px_attr ok rfl m1 m2 rfl rfl (by fail "r") (by fail "r") (by fail "r") (by fail "r") rfl rfl rfl rfl) rfl)) (fun _ => lr_seq (lr_raise ok hcl (by fail "r") (by fail "r") PySem.F.excBase_Exception rfl rfl rfl rfl)) fun h => by cases h)
theorem mkey_x {led : Led} (m1 : (x, instObj 506 dx) ∈ led) (m2 : (dx, MD q ch tp o (-1) tc going tg) ∈ led) : CallsX w (D + 1 + 1) 496 [.ref x] led 92 := by
  refine' callsX_of (own := false) (binds := [("self", .ref x)]) ?ho ?hcd ?hb ?hl ?c1 ?c2 ?c3 ?c4 ?_
  fail "e"
  intro bb ok hcl
  exact lr_seq (lr_expr (lr_m0 ok (px_name rfl rfl rfl rfl) (px_meth ok m1 m2 rfl (by fail "r") (by fail "r") (by fail "r")) (lr_call ok hcl (mneed_x (D := D) m1 m2) rfl (Nat.le_refl _)) (by fail "r") rfl) rfl rfl)
theorem ukey_x {led : Led} (m1 : (u, instObj 611 du) ∈ led) (m2 : (du, UD qu inner upto lo hi going tg false sk tsk sv tsv) ∈ led) : CallsX w (D + 1 + 1) 601 [.ref u] led 92 := by
  refine' callsX_of (own := false) (binds := [("self", .ref u)]) ?ho ?hcd ?hb ?hl ?c1 ?c2 ?c3 ?c4 ?_
  fail "e"
  intro bb ok hcl
  exact lr_seq (lr_expr (lr_m0 ok (px_name rfl rfl rfl rfl) (px_meth ok m1 m2 rfl (by fail "r") (by fail "r") (by fail "r")) (lr_call ok hcl (uneed_x (D := D) m1 m2) rfl (Nat.le_refl _)) (by fail "r") rfl) rfl rfl)
theorem mvalue_x {led : Led} (m1 : (x, instObj 506 dx) ∈ led) (m2 : (dx, MD q ch tp o (-1) tc going tg) ∈ led) : CallsX w (D + 1 + 1) 503 [.ref x] led 92 := by
  refine' callsX_of (own := false) (binds := [("self", .ref x)]) ?ho ?hcd ?hb ?hl ?c1 ?c2 ?c3 ?c4 ?_
  fail "e"
  intro bb ok hcl
  exact lr_seq (lr_expr (lr_m0 ok (px_name rfl rfl rfl rfl) (px_meth ok m1 m2 rfl (by fail "r") (by fail "r") (by fail "r")) (lr_call ok hcl (mneed_x (D := D) m1 m2) rfl (Nat.le_refl _)) (by fail "r") rfl) rfl rfl)
theorem uvalue_x {led : Led} (m1 : (u, instObj 611 du) ∈ led) (m2 : (du, UD qu inner upto lo hi going tg false sk tsk sv tsv) ∈ led) : CallsX w (D + 1 + 1) 608 [.ref u] led 92 := by
  refine' callsX_of (own := false) (binds := [("self", .ref u)]) ?ho ?hcd ?hb ?hl ?c1 ?c2 ?c3 ?c4 ?_
  fail "e"
  intro bb ok hcl
  exact lr_seq (lr_expr (lr_m0 ok (px_name rfl rfl rfl rfl) (px_meth ok m1 m2 rfl (by fail "r") (by fail "r") (by fail "r")) (lr_call ok hcl (uneed_x (D := D) m1 m2) rfl (Nat.le_refl _)) (by fail "r") rfl) rfl rfl)
theorem mstep_x {led : Led} (m1 : (x, instObj 506 dx) ∈ led) (m2 : (dx, MD q ch tp o (-1) tc going tg) ∈ led) : CallsX w (D + 1 + 1) 482 [.ref x] led 92 := by
  refine' callsX_of (own := false) (binds := [("self", .ref x)]) ?ho ?hcd ?hb ?hl ?c1 ?c2 ?c3 ?c4 ?_
  fail "e"
  intro bb ok hcl
  exact lr_seq (lr_expr (lr_m0 ok (px_name rfl rfl rfl rfl) (px_meth ok m1 m2 rfl (by fail "r") (by fail "r") (by fail "r")) (lr_call ok hcl (mneed_x (D := D) m1 m2) rfl (Nat.le_refl _)) (by fail "r") rfl) rfl rfl)
theorem ustep_x {led : Led} (m1 : (u, instObj 611 du) ∈ led) (m2 : (du, UD qu inner upto lo hi going tg false sk tsk sv tsv) ∈ led) : CallsX w (D + 1 + 1) 587 [.ref u] led 92 := by
  refine' callsX_of (own := false) (binds := [("self", .ref u)]) ?ho ?hcd ?hb ?hl ?c1 ?c2 ?c3 ?c4 ?_
  fail "e"
  intro bb ok hcl
  exact lr_seq (lr_expr (lr_m0 ok (px_name rfl rfl rfl rfl) (px_meth ok m1 m2 rfl (by fail "r") (by fail "r") (by fail "r")) (lr_call ok hcl (uneed_x (D := D) m1 m2) rfl (Nat.le_refl _)) (by fail "r") rfl) rfl rfl)
theorem mback_x {led : Led} (m1 : (x, instObj 506 dx) ∈ led) (m2 : (dx, MD q ch tp o (-1) tc going tg) ∈ led) : CallsX w (D + 1 + 1) 489 [.ref x] led 92 := by
  refine' callsX_of (own := false) (binds := [("self", .ref x)]) ?ho ?hcd ?hb ?hl ?c1 ?c2 ?c3 ?c4 ?_
  fail "e"
  intro bb ok hcl
  exact lr_seq (lr_expr (lr_m0 ok (px_name rfl rfl rfl rfl) (px_meth ok m1 m2 rfl (by fail "r") (by fail "r") (by fail "r")) (lr_call ok hcl (mneed_x (D := D) m1 m2) rfl (Nat.le_refl _)) (by fail "r") rfl) rfl rfl)
theorem uback_x {led : Led} (m1 : (u, instObj 611 du) ∈ led) (m2 : (du, UD qu inner upto lo hi going tg false sk tsk sv tsv) ∈ led) : CallsX w (D + 1 + 1) 594 [.ref u] led 92 := by
  refine' callsX_of (own := false) (binds := [("self", .ref u)]) ?ho ?hcd ?hb ?hl ?c1 ?c2 ?c3 ?c4 ?_
  fail "e"
  intro bb ok hcl
  exact lr_seq (lr_expr (lr_m0 ok (px_name rfl rfl rfl rfl) (px_meth ok m1 m2 rfl (by fail "r") (by fail "r") (by fail "r")) (lr_call ok hcl (uneed_x (D := D) m1 m2) rfl (Nat.le_refl _)) (by fail "r") rfl) rfl rfl)
theorem ram_mkey (m1 : (x, instObj 506 dx) ∈ T) (m2 : (dx, MD q ch tp o (-1) tc going tg) ∈ T) : RaM w 2 T x "key" 92 := ⟨496, (by fail "r"), fun ok h => (px_meth ok (h _ m1) (h _ m2) rfl (by fail "r") (by fail "r") (by fail "r")), fun h => mkey_x (D := 0) (h _ m1) (h _ m2)⟩
theorem ram_ukey (m1 : (u, instObj 611 du) ∈ T) (m2 : (du, UD qu inner upto lo hi going tg false sk tsk sv tsv) ∈ T) : RaM w 2 T u "key" 92 := ⟨601, (by fail "r"), fun ok h => (px_meth ok (h _ m1) (h _ m2) rfl (by fail "r") (by fail "r") (by fail "r")), fun h => ukey_x (D := 0) (h _ m1) (h _ m2)⟩
theorem ram_mvalue (m1 : (x, instObj 506 dx) ∈ T) (m2 : (dx, MD q ch tp o (-1) tc going tg) ∈ T) : RaM w 2 T x "value" 92 := ⟨503, (by fail "r"), fun ok h => (px_meth ok (h _ m1) (h _ m2) rfl (by fail "r") (by fail "r") (by fail "r")), fun h => mvalue_x (D := 0) (h _ m1) (h _ m2)⟩
theorem ram_uvalue (m1 : (u, instObj 611 du) ∈ T) (m2 : (du, UD qu inner upto lo hi going tg false sk tsk sv tsv) ∈ T) : RaM w 2 T u "value" 92 := ⟨608, (by fail "r"), fun ok h => (px_meth ok (h _ m1) (h _ m2) rfl (by fail "r") (by fail "r") (by fail "r")), fun h => uvalue_x (D := 0) (h _ m1) (h _ m2)⟩
theorem ram_mstep (m1 : (x, instObj 506 dx) ∈ T) (m2 : (dx, MD q ch tp o (-1) tc going tg) ∈ T) : RaM w 2 T x "step" 92 := ⟨482, (by fail "r"), fun ok h => (px_meth ok (h _ m1) (h _ m2) rfl (by fail "r") (by fail "r") (by fail "r")), fun h => mstep_x (D := 0) (h _ m1) (h _ m2)⟩
theorem ram_ustep (m1 : (u, instObj 611 du) ∈ T) (m2 : (du, UD qu inner upto lo hi going tg false sk tsk sv tsv) ∈ T) : RaM w 2 T u "step" 92 := ⟨587, (by fail "r"), fun ok h => (px_meth ok (h _ m1) (h _ m2) rfl (by fail "r") (by fail "r") (by fail "r")), fun h => ustep_x (D := 0) (h _ m1) (h _ m2)⟩
theorem ram_mback (m1 : (x, instObj 506 dx) ∈ T) (m2 : (dx, MD q ch tp o (-1) tc going tg) ∈ T) : RaM w 2 T x "back" 92 := ⟨489, (by fail "r"), fun ok h => (px_meth ok (h _ m1) (h _ m2) rfl (by fail "r") (by fail "r") (by fail "r")), fun h => mback_x (D := 0) (h _ m1) (h _ m2)⟩
theorem ram_uback (m1 : (u, instObj 611 du) ∈ T) (m2 : (du, UD qu inner upto lo hi going tg false sk tsk sv tsv) ∈ T) : RaM w 2 T u "back" 92 := ⟨594, (by fail "r"), fun ok h => (px_meth ok (h _ m1) (h _ m2) rfl (by fail "r") (by fail "r") (by fail "r")), fun h => uback_x (D := 0) (h _ m1) (h _ m2)⟩
end
section
variable {w : World} {D D' : Nat} {F : FnC} {b : Bx} {C c : Addr} {m : Str → Option Value} {led T : Led} {env : Env} {pos ap np : Pos} {nm : Str} {pl : Sem Bool} {o : Expr} {own : Bool}
theorem lr_ram (R : RaM w D' T c nm C) (ok : Okx w D b) (hcl : b.cl = []) (hT : ∀ p ∈ T, p ∈ led) (h1 : Px w F b (eval o env) (fun a => a = .ref c) m led) (hk : F.cs.kind = .function) (hD : D' ≤ D)
    (he : eval (.Call (.Attribute o nm ap) [] [] pos) env = (do
      let ov ← eval o env
      standAt ap.atName
      let (f, first) ← holding [ov] (getMethod ov nm pl)
      callWith pos f first (backTo pos (starEach [] env)) [])) : Lr own w F b (eval (.Call (.Attribute o nm ap) [] [] pos) env) C m led := by
  obtain ⟨f, h2, h3, h4⟩ := R.it
  exact lr_m0 ok h1 (h3 ok hT) (lr_call ok hcl (h4 hT) hk hD) h2 he
structure Anew (w : World) (D : Nat) (b : Bx) (g' : Heap) : Prop where
  turn : KtsTurn (b.outer.filterMap (·.frame)) b.g g'
  ok : Okx w D { b with g := g' }
  dicts : KtsDicts (b.outer.filterMap (·.frame)) g'
structure Base (w : World) (b : Bx) : Prop where
  cl : b.cl = []
  dp : ∃ n, b.dp = n + 1
  un : ∃ n, b.un = n + 3
  X : (Mine.hd.heap_39 w.params).In b.base
  T : Top VW (looseW VW []) b.mean b.mg b.mb b.base
theorem try_caught {x y : Str} {k} {cp tpos hpos xp apos : Pos} {body : List Stmt} {s : Shared} {Q : Flow → Shared → Prop} {E : Value → Shared → Prop} (ok : Okx w D b) (B : Base w b) (d : KtsDicts (b.outer.filterMap (·.frame)) b.g) (f : Fr b.g b.L s.heap m) (N : News b.g b.L s.heap led)
    (h : Lr false w F b (execs body (evx F b)) C m led) (e1 : nsIn (Mine.hd.heap_39 w.params) mainGlobals x = some (some (.ref C))) (q1 : ktsIn (Mine.hd.heap_39 w.params) C "BaseException" = true)
    (kk : ∀ g' h' tk', Anew w D b g' → Fr g' b.L h' (ms m y (.bool true)) → News g' b.L h' led → Q .next { s with heap := h', toks := tk' })
    (hk : F.cs.kind = .function) (hx : (evx F b).kindOf x = some .globalImplicit) (hd : (x == ("__debug__" : Str)) = false) (hy : (evx F b).kindOf y = some .local)
    (hs : swapsWith (.Constant (.bool true) k cp) (some (.Name y tpos)) apos.line (evx F b) = pure false) :
    wpAny (model PG w) (tpx F b) (exec (.Try body [.ExceptHandler (some (.Name x xp)) none [.Assign [.Name y tpos] (.Constant (.bool true) k cp) apos] hpos] [] [] pos) (evx F b)) Q E s := by
  obtain ⟨dp, un, gd, cl, outer, A₀, base, g, L, mg, mb, mean⟩ := b
  obtain ⟨hcl, ⟨dp', hdp⟩, ⟨un', hun⟩, XB, TB⟩ := B
  obtain rfl : cl = [] := hcl
  obtain rfl : dp = dp' + 1 := hdp
  obtain rfl : un = un' + 3 := hun
  refine wpAny_mono (E := fun _ _ => False) (wpAny_Try_except (h s _ _ f N fun e s' hx1 => ?_)) (fun _ _ z => z) fun _ _ z => z.elim
  obtain ⟨ea, vs, h', tk', rfl, rfl, hx1⟩ := hx1
  rcases hx1 with ⟨h0, -⟩ | ⟨G, t, F1, R1, U1⟩
  · cases h0
  · refine caught_SO0 (A₀ := { handled := none, depth := dp', frames := some outer, guards := gd, units := un' }) (g₀ := g) (mg := mg) (mb := mb) (mean := mean) (p := VW) (loose := looseW VW []) R1 F1 ⟨rfl, ok.B.stays, ok.B.frames⟩ U1 XB TB d .refl e1 q1 (fun h2 g' n2 T' F' N2 G' N' B' X' P' D' => ?_) hk hx hd PassesOwnAt.never
    exact wpAny_execs_cons (wpAny_Assign_Name (wpAny_Constant_bool (storeX_L F' N' (fun h3 F3 N3 => wpAny_execs_nil (kk g' h3 _ ⟨T', ⟨⟨ok.B.stack, B'.stays, B'.frames⟩, X', P', ok.hd, ok.hu⟩, D'⟩ F3 N3)) hk hy)) hs)
end
section
variable {w : World} {D : Nat} {F : FnC} {b : Bx} {c : Addr} {m : Str → Option Value} {led T : Led}
theorem misused_r {s : Shared} {Q E : Value → Shared → Prop} (R1 : RaM w 2 led c "key" 92) (R2 : RaM w 2 led c "value" 92) (R3 : RaM w 2 led c "step" 92) (R4 : RaM w 2 led c "back" 92) (ok : Okx w D b) (hD : 8 ≤ D) (hcl : b.cl = []) (XB : (Mine.hd.heap_39 w.params).In b.base) (TB : Top VW (looseW VW []) b.mean b.mg b.mb b.base) (d : KtsDicts (b.outer.filterMap (·.frame)) b.g) (f : Fr b.g b.L s.heap m) (N : News b.g b.L s.heap led) (hk : F.cs.kind = .function)
    (k : ∀ g' h' tk', Anew w D b g' → Fr g' b.L h' m → News g' b.L h' led → Q (.bool true) { s with heap := h', toks := tk' }) : wpAny (model PG w) (tpx F b) (call (.ref 676) [.ref c]) Q E s := by
  have hd := ok.hd
  have hu := ok.hu
  obtain ⟨dp, un, gd, cl, outer, A₀, base, g, L, mg, mb, mean⟩ := b
  obtain rfl : cl = [] := hcl
  refine wpAny_call ?_
  refine' code_defS (g₀ := g) (cn := F.cn) (cs := F.cs) (a := F.a) (ccd := F.cd) (binds := [("walker", .ref c)]) ok.B f ok.X N ok.T XB TB d .refl rfl ?ho ?hcd ?hr ?hb ?hl ?_ hk ?c1 ?c2 ?c3 ?c4
  (case ho => with_unfolding_all rfl)
  (case hcd => with_unfolding_all rfl)
  (case hr => show dp < recursionLimit; omega)
  (case hb => exact BindsTo.of_eq rfl)
  (case hl => exact locs rfl)
  (case c1 => rfl)
  (case c2 => rfl)
  (case c3 => rfl)
  (case c4 => decide)
  intro g1 L1 h1 FG F1 N1 B1 X1 T1 D1
  have hg0 := GroundG.start B1 X1 T1 D1
  refine wpAny_execs_cons (wpAny_mono (E := fun _ _ => False) (For_Gs hg0 rfl rfl ?_ (fun _ => rfl) PassesOwn.never) (fun _ _ z => z) fun _ _ z => z.elim)
  refine Call_ (nameX_B F1 X1 (topRead_of T1) (by fail "r") (by fail "r") (by decide) ?_) rfl
  refine Pv.callWith_type1 (args_cons (wpAny_Constant_int (args_nil ?_)) rfl) rfl rfl
  refine range1_rows F1 N1 fun h3 tk3 t₁ u₁ v₁ RR F3 N3 _ => ?_
  refine iter_upG (n := 4) (fun _ m₁ news₁ => news₁ = led ∧ m₁ "walker" = some (.ref c)) rfl RR (by decide) F3 N3 hg0 (fun g h => h.1.none_) ⟨rfl, rfl⟩ ?_ ?_
  · intro i t m₁ news₁ h tk I oI gg hi hx1 hx2 hne F₁ N₁
    obtain ⟨gT, gB, gX, gP, gD⟩ := hx1
    obtain ⟨rfl, e1⟩ := hx2
    have hu2 : un + 3 + 3 + 8 * (D - 1) < cLine := by simp only at hu; omega
    have ok1 : Okx w (D - 1) (⟨dp + 1, un + 3, gd, [], envOf F.cn F.cs L F.a F.cd :: outer, ktrTop dp un gd F.cn F.cs L F.a F.cd [] outer, base, gg, L1, mg, mb, mean⟩ : Bx) := ⟨gB, gX, gP, by show dp + 1 + (D - 1) < _; simp only at hd; omega, by show un + 3 + 8 * (D - 1) < _; omega⟩
    have hB1 : Base w (⟨dp + 1, un + 3, gd, [], envOf F.cn F.cs L F.a F.cd :: outer, ktrTop dp un gd F.cn F.cs L F.a F.cd [] outer, base, gg, L1, mg, mb, mean⟩ : Bx) := ⟨rfl, ⟨_, rfl⟩, ⟨_, rfl⟩, XB, TB⟩
    have hT : ∀ p ∈ news₁, p ∈ (I, oI) :: news₁ := fun p hp => .tail _ hp
    refine wpAny_execs_cons (wpAny_Assign_Name (wpAny_Constant_bool (storeX_L F₁ N₁ (fun h2 F2 N2 => ?_) rfl rfl)) rfl)
    refine wpAny_execs_cons (try_caught (F := ⟨_, _, 676, _⟩) (C := 92) ok1 hB1 gD F2 N2 ?_ (by fail "r") (by fail "r") (fun g' h' tk' A F3 N3 => ?_) rfl rfl rfl rfl rfl)
    · exact lr_seq (lr_if (pc_eqI (i := (i : Int)) (Px.mono (px_name rfl rfl rfl rfl) isI) px_int rfl) (fun _ => lr_seq (lr_expr (lr_ram R1 ok1 rfl hT (px_name e1 rfl rfl rfl) rfl (by omega) rfl) rfl rfl)) fun _ =>
        lr_seq (lr_if (pc_eqI (i := (i : Int)) (Px.mono (px_name rfl rfl rfl rfl) isI) px_int rfl) (fun _ => lr_seq (lr_expr (lr_ram R2 ok1 rfl hT (px_name e1 rfl rfl rfl) rfl (by omega) rfl) rfl rfl)) fun _ =>
        lr_seq (lr_if (pc_eqI (i := (i : Int)) (Px.mono (px_name rfl rfl rfl rfl) isI) px_int rfl) (fun _ => lr_seq (lr_expr (lr_ram R3 ok1 rfl hT (px_name e1 rfl rfl rfl) rfl (by omega) rfl) rfl rfl)) fun _ =>
        lr_seq (lr_expr (lr_ram R4 ok1 rfl hT (px_name e1 rfl rfl rfl) rfl (by omega) rfl) rfl rfl))))
    · refine (sx_if1 (φ := fun fl m' led' => fl = .next ∧ m' "walker" = some (.ref c) ∧ led' = (I, oI) :: news₁) (c := !true) (pc_not (pc_val (px_name rfl rfl rfl rfl) rfl)) (fun h => by cases h) fun _ => lx_nil ⟨rfl, e1, rfl⟩ : Lx w ⟨_, _, 676, _⟩ (⟨dp + 1, un + 3, gd, [], envOf F.cn F.cs L F.a F.cd :: outer, ktrTop dp un gd F.cn F.cs L F.a F.cd [] outer, base, g', L1, mg, mb, mean⟩ : Bx) _ _ (ms (ms (ms m₁ "turn" (.int (i : Int) t)) "told" (.bool false)) "told" (.bool true)) ((I, oI) :: news₁)) _ _ _ F3 N3 fun fl m' led' h3 tk3 hq F4 N4 => ?_
      obtain ⟨rfl, e2, rfl⟩ := hq
      exact TurnG.next (.inl rfl) F4 N4 ⟨gT.trans A.turn, A.ok.B, A.ok.X, A.ok.T, A.dicts⟩ (.head _) hT hne ⟨rfl, e2⟩
  · intro m₁ news₁ h tk gg hx3 hx4 F₁ N₁
    obtain ⟨gT, gB, gX, gP, gD⟩ := hx3
    obtain ⟨rfl, e1⟩ := hx4
    refine wpAny_execs_cons (wpAny_Return_some (wpAny_Constant_bool ?_))
    exact leaveS_r F₁ N₁ gT fun h₀' T2 F2 N2 B2 X2 P2 D2 => k h₀' _ _ ⟨T2, ⟨B2, X2, P2, hd, hu⟩, D2⟩ F2 N2
end
def CallsL (w : World) (D : Nat) (f : Addr) (args : List Value) (fp rest : Led) (post : Value → Led → Prop) : Prop :=
  ∀ (dp un : Nat) (gd : Option (List Code)) (cn : Str) (cs : Scope) (a : Addr) (ccd : Value) (cl : List (Str × Addr)) (A₀ : Around) (base h₀ : Heap) (L : Addr) (m mg mb : Str → Option Value) (mean : ExcName → Option Value) (s : Shared) (Q E : Value → Shared → Prop),
    Below A₀ base [] h₀ → Fr h₀ L s.heap m → (Mine.hd.heap_39 w.params).In h₀ → News h₀ L s.heap (fp ++ rest) → Top VW (looseW VW []) mean mg mb h₀ → (Mine.hd.heap_39 w.params).In base → Top VW (looseW VW []) mean mg mb base → cs.kind = .function → dp + D < recursionLimit → un + 8 * D < cLine →
    (∀ r fp' h' tk', Fr h₀ L h' m → News h₀ L h' (fp' ++ rest) → post r fp' → Q r { s with heap := h', toks := tk' }) →
    wpAny (model Challenge.rw_no0415_01.row.prog w) (ktrTop dp un gd cn cs L a ccd cl []) (call (.ref f) args) Q E s
section
variable {w : World} {D : Nat} {c rl : Addr} {T : Led} {vs : Array Value} {nv nR : Nat} {place : Int} {tpl : Tok}
theorem agree_off (R0 : RdM w D T c "valid" fun a => a = .bool false) (R1 : RaM w 2 T c "key" 92) (R2 : RaM w 2 T c "value" 92) (R3 : RaM w 2 T c "step" 92) (R4 : RaM w 2 T c "back" 92) (hr : (rl, listOf vs nv) ∈ T) (hvl : vs.size = nR) (hvn : nR ≤ 1000) (hp : place < 0 ∨ (0 ≤ place ∧ (nR : Int) ≤ place)) :
    CallsL w (D + 10) 683 [.ref c, .ref rl, .int place tpl] [] T fun r fp' => r = .bool true ∧ fp' = [] := by
  intro dp un gd cn cs a ccd cl A₀ base h₀ L m mg mb mean s Q E B F X N T0 XB TB hk hd hu k
  refine wpAny_call ?_
  refine' code_defSX (binds := [("walker", .ref c), ("rows", .ref rl), ("place", .int place tpl)]) B F X N T0 rfl ?ho ?hcd ?hr ?hb ?hl ?_ hk ?c1 ?c2 ?c3 ?c4
  (case ho => with_unfolding_all rfl)
  (case hcd => with_unfolding_all rfl)
  (case hr => show dp < recursionLimit; omega)
  (case hb => exact BindsTo.of_eq rfl)
  (case hl => exact locs rfl)
  (case c1 => rfl)
  (case c2 => rfl)
  (case c3 => rfl)
  (case c4 => decide)
  intro g1 L1 h1 FG F1 N1 B1 X1 T1 D1
  have ok : Okx w (D + 9) (⟨dp + 1, un + 3, gd, [], [envX cn cs L a ccd cl], ktrTop dp un gd cn cs L a ccd cl [], base, g1, L1, mg, mb, mean⟩ : Bx) := ⟨B1, X1, T1, by show dp + 1 + (D + 9) < _; omega, by show un + 3 + 8 * (D + 9) < _; omega⟩
  refine wpAny_execs_cons (wpAny_If ((pc_or2 (c2 := decide (((vs.size : Nat) : Int) ≤ place)) (pc_ltI (i := place) (Px.mono (px_name rfl rfl rfl rfl) isI) px_int rfl) fun _ => pc_geI (i := place) (Px.mono (px_name rfl rfl rfl rfl) isI) (px_len ok (px_name rfl rfl rfl rfl) (px_builtin ok (by fail "r") (by fail "r") (by decide) rfl rfl rfl) hr (by omega) rfl rfl) rfl : Px w ⟨_, _, 683, _⟩ (⟨dp + 1, un + 3, gd, [], [envX cn cs L a ccd cl], ktrTop dp un gd cn cs L a ccd cl [], base, g1, L1, mg, mb, mean⟩ : Bx) _ _ _ _) _ _ _ F1 N1 fun v h2 tk2 hv F2 N2 => ?_))
  have hv2 : v = true := by
    rw [hv, Bool.or_eq_true, decide_eq_true_eq, decide_eq_true_eq]; omega
  subst hv2
  refine wpAny_execs_cons (wpAny_Return_some (BoolOp_and ((pv_cmp (px_rdm R0 ok (fun _ h => h) (px_name rfl rfl rfl rfl) rfl (by omega) rfl) px_bool op_eqB rfl : Px w ⟨_, _, 683, _⟩ (⟨dp + 1, un + 3, gd, [], [envX cn cs L a ccd cl], ktrTop dp un gd cn cs L a ccd cl [], base, g1, L1, mg, mb, mean⟩ : Bx) _ _ _ _) _ _ _ F2 N2 fun v h3 tk3 hv F3 N3 => ?_)))
  subst hv
  refine wpAny_truthy_bool (BoolOp_and (Call_ (((px_glob ok (by fail "r") rfl rfl rfl) : Px w ⟨_, _, 683, _⟩ (⟨dp + 1, un + 3, gd, [], [envX cn cs L a ccd cl], ktrTop dp un gd cn cs L a ccd cl [], base, g1, L1, mg, mb, mean⟩ : Bx) _ _ _ _) _ _ _ F3 N3 fun v h4 tk4 hv F4 N4 => ?_) rfl))
  subst hv
  refine callWith_K X1 (by fail "r") ((px_args1 (px_name rfl rfl rfl rfl) rfl : Px w ⟨_, _, 683, _⟩ (⟨dp + 1, un + 3, gd, [], [envX cn cs L a ccd cl], ktrTop dp un gd cn cs L a ccd cl [], base, g1, L1, mg, mb, mean⟩ : Bx) _ _ _ _) _ _ _ F4 N4 fun vs h5 tk5 hvs F5 N5 => ⟨X1.keeps F5.keep, ?_⟩) rfl rfl
  obtain ⟨_, rfl, rfl⟩ := hvs
  refine misused_r (F := ⟨_, _, 683, _⟩) R1 R2 R3 R4 ok (by omega) rfl XB TB D1 F5 N5 rfl fun g' h6 tk6 A F6 N6 => ?_
  refine wpAny_truthy_bool (BoolOp_one ((pv_cmp (px_rdm R0 A.ok (fun _ h => h) (px_name rfl rfl rfl rfl) rfl (by omega) rfl) px_bool op_eqB rfl : Px w ⟨_, _, 683, _⟩ (⟨dp + 1, un + 3, gd, [], [envX cn cs L a ccd cl], ktrTop dp un gd cn cs L a ccd cl [], base, g', L1, mg, mb, mean⟩ : Bx) _ _ _ _) _ _ _ F6 N6 fun v h7 tk7 hv F7 N7 => ?_))
  subst hv
  exact leaveS0_ F7 N7 A.turn fun F8 N8 => k _ [] _ _ F8 N8 ⟨rfl, rfl⟩
end
open PySem PySem.W PyProof.Rows PySem.Spec
/-! what the law walks: a merged iterator or a user's -/
abbrev RowB := Array UInt8 × Array UInt8
def adrW : Bool → MN → Addr
  | true, m => adr true m
  | false, .valid => 531 | false, .key => 601 | false, .value => 608 | false, .first => 552 | false, .last => 566 | false, .seek => 559 | false, .step => 587 | false, .back => 594
def clsW : Bool → Addr | false => 611 | true => 506
def placeP (n : Nat) (place : Int) : Option Nat := if 0 ≤ place ∧ place < n then some place.toNat else none
def firstP (n : Nat) : Option Nat := if 0 < n then some 0 else none
def nextP (n p : Nat) : Option Nat := if p + 1 < n then some (p + 1) else none
structure RowsL (rest : Led) (rl : Addr) (rows : List RowB) (vs : Array Value) (n : Nat) : Prop where
  lst : (rl, listOf vs n) ∈ rest
  size : vs.size = rows.length
  small : rows.length ≤ 1000
  row : ∀ (i : Nat) (k v : Array UInt8), rows[i]? = some (k, v) → ∃ a t1 t2 n', vs[i]? = some (.ref a) ∧ (a, tupObj [.bytes k t1, .bytes v t2] n') ∈ rest
structure WkSpec (w : World) (D : Nat) (wk : Bool) (rows : List RowB) (W : Led → Led → Addr → Option Nat → Prop) : Prop where
  mono : ∀ {fp rest rest' c p}, W fp rest c p → (∀ x ∈ rest, x ∈ rest') → W fp rest' c p
  obj : ∀ {fp rest c p}, W fp rest c p → ∃ dx es n, (c, instObj (clsW wk) dx) ∈ rest ∧ (dx, dictOf es n) ∈ fp ∧ ∀ mn : MN, getL mn.name es = some none
  size : ∀ {fp rest c p}, W fp rest c p → ∀ i, p = some i → i < rows.length
  first : ∀ {fp rest E0 c p}, W fp rest c p → (∀ x ∈ rest, x ∈ E0) → Off fp E0 → Calls w D (adrW wk .first) [.ref c] fp E0 fun r fp' => r = .none ∧ sameAdr fp' fp ∧ W fp' rest c (firstP rows.length)
  last : ∀ {fp rest E0 c p}, W fp rest c p → (∀ x ∈ rest, x ∈ E0) → Off fp E0 → Calls w D (adrW wk .last) [.ref c] fp E0 fun r fp' => r = .none ∧ sameAdr fp' fp ∧ W fp' rest c (befOf rows.length)
  step : ∀ {fp rest E0 c p}, W fp rest c (some p) → (∀ x ∈ rest, x ∈ E0) → Off fp E0 → Calls w D (adrW wk .step) [.ref c] fp E0 fun r fp' => r = .none ∧ sameAdr fp' fp ∧ W fp' rest c (nextP rows.length p)
  back : ∀ {fp rest E0 c p}, W fp rest c (some p) → (∀ x ∈ rest, x ∈ E0) → Off fp E0 → Calls w D (adrW wk .back) [.ref c] fp E0 fun r fp' => r = .none ∧ sameAdr fp' fp ∧ W fp' rest c (befOf p)
  agree : ∀ {fp rest E0 c rl vs n place tp}, W fp rest c (placeP rows.length place) → (∀ x ∈ rest, x ∈ E0) → Off fp E0 → RowsL E0 rl rows vs n → CallsL w (D + 12) 683 [.ref c, .ref rl, .int place tp] fp E0 fun r fp' => r = .bool true ∧ fp' = fp
theorem Calls.toL {w : World} {D D' : Nat} {f : Addr} {args : List Value} {fp rest : Led} {post : Value → Led → Prop} (h : Calls w D f args fp rest post) (hd : D ≤ D') : CallsL w D' f args fp rest post := fun dp un gd cn cs a ccd cl A₀ base h₀ L m mg mb mean s Q E B F X N T _ _ hk hd hu k =>
  h dp un gd cn cs a ccd cl [] A₀ base h₀ L m mg mb mean s Q E B F X N T hk (by omega) (by omega) k
theorem Calls.still {w : World} {D : Nat} {f : Addr} {args : List Value} {fp rest : Led} {P : Value → Prop} (h : Calls w D f args [] (fp ++ rest) fun r fp' => P r ∧ fp' = []) : Calls w D f args fp rest fun r fp' => P r ∧ fp' = fp := fun dp un gd cn cs ad ccd cl outer A₀ base h₀ L m mg mb mean s Q E B F X N T hk hd hu k =>
  h dp un gd cn cs ad ccd cl outer A₀ base h₀ L m mg mb mean s Q E B F X N T hk hd hu fun r fp' h' tk' F' N' p => by
    obtain ⟨hp, rfl⟩ := p
    exact k r fp h' tk' F' N' ⟨hp, rfl⟩
theorem CallsL.still {w : World} {D D' : Nat} {f : Addr} {args : List Value} {fp rest : Led} {P : Value → Prop} (h : CallsL w D f args [] (fp ++ rest) fun r fp' => P r ∧ fp' = []) (hd : D ≤ D') : CallsL w D' f args fp rest fun r fp' => P r ∧ fp' = fp := fun dp un gd cn cs ad ccd cl A₀ base h₀ L m mg mb mean s Q E B F X N T XB TB hk hd' hu k =>
  h dp un gd cn cs ad ccd cl A₀ base h₀ L m mg mb mean s Q E B F X N T XB TB hk (by omega) (by omega) fun r fp' h' tk' F' N' p => by
    obtain ⟨hp, rfl⟩ := p
    exact k r fp h' tk' F' N' ⟨hp, rfl⟩
def MergeW (C : CurP) (R : List Row) : Led → Led → Addr → Option Nat → Prop := fun fp rest c p => MergeC C fp rest c true R p
theorem placeP_some {n p : Nat} {place : Int} (h : placeP n place = some p) : place = (p : Int) ∧ p < n := by
  unfold placeP at h
  split at h
  · cases h; omega
  · cases h
theorem placeP_none {n : Nat} {place : Int} (h : placeP n place = none) : place < 0 ∨ (0 ≤ place ∧ (n : Int) ≤ place) := by
  unfold placeP at h
  split at h
  · cases h
  · omega
section
set_option maxRecDepth 100000
set_option maxHeartbeats 8000000
variable {w : World} {D : Nat} {C : CurP} {R : List Row} {upto : Int} {lo hi : Option (Array UInt8)}
theorem mergeW_spec (S : CurSpec w D C) : WkSpec w (D + 16) true (R.map fun x => (ikb x.1, x.2)) (MergeW C R) where
  mono := fun h hs => (merge_spec S).mono h hs
  obj := fun h => (merge_spec S).obj h
  size := fun h i hi => by rw [List.length_map]; exact ((merge_spec S).size h).2 i hi
  first := fun h hs ho => by
    have := (merge_spec S).first h hs ho
    rw [firstAt_eq] at this
    unfold firstP
    rw [List.length_map]
    exact this
  last := fun h hs ho => by
    have := (merge_spec S).last h hs ho
    rw [lastAt_eq] at this
    rw [List.length_map]
    exact this
  step := fun h hs ho => by
    have := (merge_spec S).step h hs ho
    unfold nextP
    rw [List.length_map]
    exact this
  back := fun h hs ho => (merge_spec S).back h hs ho
  agree := by
    intro fp rest E0 c rl vs n place tp h hs ho hr
    intro dp un gd cn cs a ccd cl A₀ base h₀ L m mg mb mean s Q E B F X N T XB TB hk hd hu k
    have hsm := hr.small
    cases hp : placeP (R.map fun x => (ikb x.1, x.2)).length place with
    | none =>
      rw [hp] at h
      obtain ⟨dx, ch, tpp, o, q, cv, nc, tops, nt, ks, Z, cur, tc, going, tg, h3, h5⟩ := h
      have hc : cur = -1 := h5
      subst hc
      have m1 : (c, instObj 506 dx) ∈ ((dx, MD q ch tpp o (-1) tc going tg) :: (tpp, listOf tops nt) :: kfps ks) ++ E0 := List.mem_append_right _ (hs _ h3.inst)
      have m2 : (dx, MD q ch tpp o (-1) tc going tg) ∈ ((dx, MD q ch tpp o (-1) tc going tg) :: (tpp, listOf tops nt) :: kfps ks) ++ E0 := .head _
      have hC : MergeC C ((dx, MD q ch tpp o (-1) tc going tg) :: (tpp, listOf tops nt) :: kfps ks) E0 c true (Z.map (·.1)) none := (merge_spec S).mono (.mk dx ch tpp o q cv nc tops nt ks Z (-1) tc going tg h3 rfl) hs
      exact ((agree_off (w := w) (D := D + 16) (rdm_cur (mn := .valid) (merge_spec S) hC fun h => ((merge_spec S).valid hC h).post fun r fp' g => g.1) (ram_mkey m1 m2) (ram_mvalue m1 m2) (ram_mstep m1 m2) (ram_mback m1 m2) (List.mem_append_right _ hr.lst) hr.size hsm (placeP_none hp)).still (by omega)) dp un gd cn cs a ccd cl A₀ base h₀ L m mg mb mean s Q E B F X N T XB TB hk hd hu k
    | some j =>
      rw [hp] at h
      obtain ⟨rfl, hj⟩ := placeP_some hp
      have hj2 : j < R.length := by rwa [List.length_map] at hj
      have hx := List.getElem?_eq_getElem hj2
      obtain ⟨ta, t1, t2, n', e1, e2⟩ := hr.row j (ikb (R[j]).1) (R[j]).2 (by rw [List.getElem?_map, hx]; rfl)
      have hC := (merge_spec S).mono h hs
      have hm : ∀ p ∈ E0, p ∈ fp ++ E0 := fun p hp => List.mem_append_right _ hp
      exact ((agree_on (w := w) (D := D + 16) (rdm_cur (mn := .valid) (merge_spec S) hC fun h => ((merge_spec S).valid hC h).post fun r fp' g => g.1) (rdm_cur (mn := .key) (merge_spec S) hC fun h => ((merge_spec S).key hC hx h).post fun r fp' g => g.1) (rdm_cur (mn := .value) (merge_spec S) hC fun h => ((merge_spec S).value hC hx h).post fun r fp' g => g.1) (hm _ hr.lst) hr.size hsm hj e1 (hm _ e2)).still.toL (by omega)) dp un gd cn cs a ccd cl A₀ base h₀ L m mg mb mean s Q E B F X N T XB TB hk hd hu k
noncomputable def toldRows (R : List Row) (upto : Int) (lo hi : Option (Array UInt8)) : List RowB := (toldL R upto lo hi).map fun i => (savedK R (some i), savedV R (some i))
theorem userW_spec (S : CurSpec w D C) (f : UFacts R upto lo hi) : WkSpec w (D + 12) false (toldRows R upto lo hi) (UserS C upto lo hi R) where
  mono := by
    intro fp rest rest' c p hx1 hs
    obtain ⟨du, inner, kd, q, st, going, tg, good, sk, tsk, sv, tsv, fpi, h2, h3, h4, h5⟩ := hx1
    exact .mk du inner kd q st going tg good sk tsk sv tsv fpi (S.mono h2 hs) h3 (hs _ h4) h5
  obj := by
    intro fp rest c p hx2
    obtain ⟨du, inner, kd, q, st, going, tg, good, sk, tsk, sv, tsv, fpi, h2, h3, h4, h5⟩ := hx2
    exact ⟨du, _, _, h4, .head _, fun mn => by cases mn <;> rfl⟩
  size := by
    intro fp rest c p hx3 i hx4
    obtain ⟨du, inner, kd, q, st, going, tg, good, sk, tsk, sv, tsv, fpi, h2, h3, h4, h5⟩ := hx3
    rcases hx4 with rfl
    obtain ⟨_, j, x, hj, _⟩ := h5
    unfold toldRows
    rw [List.length_map]
    exact (List.getElem?_eq_some_iff.mp hj).1
  first := fun h hs ho => by
    refine ((user_first S f h hs ho).deep (by omega)).post fun r fp' g => ⟨g.1, g.2.1, ?_⟩
    unfold firstP toldRows
    rw [List.length_map]
    exact g.2.2
  last := fun h hs ho => by
    refine ((user_last S f h hs ho).deep (by omega)).post fun r fp' g => ⟨g.1, g.2.1, ?_⟩
    unfold toldRows
    rw [List.length_map]
    exact g.2.2
  step := fun h hs ho => by
    refine ((user_step S f h hs ho).deep (by omega)).post fun r fp' g => ⟨g.1, g.2.1, ?_⟩
    unfold nextP toldRows
    rw [List.length_map]
    exact g.2.2
  back := fun h hs ho => by
    exact (user_back S f h hs ho).deep (by omega)
  agree := by
    intro fp rest E0 c rl vs n place tp hx5 hs ho hr
    obtain ⟨du, inner, kd, q, st, going, tg, good, sk, tsk, sv, tsv, fpi, hC, h3, h4, h5⟩ := hx5
    obtain ⟨o1, o2⟩ := off_user ho h3
    intro dp un gd cn cs a ccd cl A₀ base h₀ L m mg mb mean s Q E B F X N T XB TB hk hd hu k
    have hsm := hr.small
    cases hp : placeP (toldRows R upto lo hi).length place with
    | none =>
      rw [hp] at h5
      have hg : good = false := h5
      subst hg
      have hT : ∀ p ∈ (du, UD q inner upto lo hi going tg false sk tsk sv tsv) :: fpi, p ∈ ((du, UD q inner upto lo hi going tg false sk tsk sv tsv) :: fpi) ++ E0 := fun p hp => List.mem_append_left _ hp
      have m1 : (c, instObj 611 du) ∈ ((du, UD q inner upto lo hi going tg false sk tsk sv tsv) :: fpi) ++ E0 := List.mem_append_right _ (hs _ h4)
      have m2 := hT _ (.head _)
      exact ((agree_off (w := w) (D := 2) (rdm_user (f := 531) m1 hT (fun _ _ _ _ _ _ _ _ => rfl) (by fail "r") (by fail "r") (by fail "r") (by fail "r") fun h => ((uvalid_c (D := 1) (T := fpi ++ _) (List.mem_append_right _ (h _ m1))).wide).post fun r fp' g => g.1) (ram_ukey m1 m2) (ram_uvalue m1 m2) (ram_ustep m1 m2) (ram_uback m1 m2) (List.mem_append_right _ hr.lst) hr.size hsm (placeP_none hp)).still (by omega)) dp un gd cn cs a ccd cl A₀ base h₀ L m mg mb mean s Q E B F X N T XB TB hk hd hu k
    | some j =>
      rw [hp] at h5
      obtain ⟨rfl, hj⟩ := placeP_some hp
      obtain ⟨rfl, i, x, hix, hx, hcase⟩ := h5
      obtain ⟨ta, t1, t2, n', e1, e2⟩ := hr.row j x.1.u x.2 (by
        unfold toldRows
        rw [List.getElem?_map, hix]
        show some (savedK R (some i), savedV R (some i)) = _
        rw [savedK_some hx, savedV_some hx])
      rcases hcase with ⟨rfl, rfl⟩ | ⟨rfl, rfl, rfl, _⟩
      · have hCE := S.mono hC hs
        have hT : ∀ p ∈ (du, UD q inner upto lo hi 0 tg true sk tsk sv tsv) :: fpi, p ∈ ((du, UD q inner upto lo hi 0 tg true sk tsk sv tsv) :: fpi) ++ E0 := fun p hp => List.mem_append_left _ hp
        have hm : ∀ p ∈ E0, p ∈ ((du, UD q inner upto lo hi 0 tg true sk tsk sv tsv) :: fpi) ++ E0 := fun p hp => List.mem_append_right _ hp
        have m1 := hm _ (hs _ h4)
        exact ((agree_on (w := w) (D := D + 4) (rdm_user (f := 531) m1 hT (fun _ _ _ _ _ _ _ _ => rfl) (by fail "r") (by fail "r") (by fail "r") (by fail "r") fun h => ((uvalid_c (D := D + 3) (T := fpi ++ _) (List.mem_append_right _ (h _ m1))).wide).post fun r fp' g => g.1) (rdm_user (f := 601) m1 hT (fun _ _ _ _ _ _ _ _ => rfl) (by fail "r") (by fail "r") (by fail "r") (by fail "r") fun h => (ukey0_c S (S.mono hC fun p hp => h _ (hm _ (hs p hp))) (h _ m1) hx).post fun r fp' g => g.1) (rdm_user (f := 608) m1 hT (fun _ _ _ _ _ _ _ _ => rfl) (by fail "r") (by fail "r") (by fail "r") (by fail "r") fun h => (uvalue0_c S (S.mono hC fun p hp => h _ (hm _ (hs p hp))) (h _ m1) hx).post fun r fp' g => g.1) (hm _ hr.lst) hr.size hsm hj e1 (hm _ e2)).still.toL (by omega)) dp un gd cn cs a ccd cl A₀ base h₀ L m mg mb mean s Q E B F X N T XB TB hk hd hu k
      · have hT : ∀ p ∈ (du, UD q inner upto lo hi 1 tg true x.1.u tsk x.2 tsv) :: fpi, p ∈ ((du, UD q inner upto lo hi 1 tg true x.1.u tsk x.2 tsv) :: fpi) ++ E0 := fun p hp => List.mem_append_left _ hp
        have hm : ∀ p ∈ E0, p ∈ ((du, UD q inner upto lo hi 1 tg true x.1.u tsk x.2 tsv) :: fpi) ++ E0 := fun p hp => List.mem_append_right _ hp
        have m1 := hm _ (hs _ h4)
        exact ((agree_on (w := w) (D := 2) (rdm_user (f := 531) m1 hT (fun _ _ _ _ _ _ _ _ => rfl) (by fail "r") (by fail "r") (by fail "r") (by fail "r") fun h => ((uvalid_c (D := 1) (T := fpi ++ _) (List.mem_append_right _ (h _ m1))).wide).post fun r fp' g => g.1) (rdm_user (f := 601) m1 hT (fun _ _ _ _ _ _ _ _ => rfl) (by fail "r") (by fail "r") (by fail "r") (by fail "r") fun h => ((ukey1_c (D := 0) (T := fpi ++ _) (List.mem_append_right _ (h _ m1))).wide).post fun r fp' g => g.1) (rdm_user (f := 608) m1 hT (fun _ _ _ _ _ _ _ _ => rfl) (by fail "r") (by fail "r") (by fail "r") (by fail "r") fun h => ((uvalue1_c (D := 0) (T := fpi ++ _) (List.mem_append_right _ (h _ m1))).wide).post fun r fp' g => g.1) (hm _ hr.lst) hr.size hsm hj e1 (hm _ e2)).still.toL (by omega)) dp un gd cn cs a ccd cl A₀ base h₀ L m mg mb mean s Q E B F X N T XB TB hk hd hu k
end
end Mine
namespace Mine
local macro_rules | `(tactic| fail "r") => `(tactic| with_unfolding_all rfl)
set_option hygiene false in
local macro_rules | `(tactic| fail "e") => `(tactic| ((case ho => with_unfolding_all rfl); (case hcd => with_unfolding_all rfl); (case hb => exact fun s => BindsTo.of_eq rfl); (case hl => exact locs rfl); (case c1 => rfl); (case c2 => rfl); (case c3 => rfl); (case c4 => decide)))
open PySem PySem.W PyProof.Rows PySem.SeqAt
local macro_rules | `(tactic| omega) => `(tactic| lia)
set_option hygiene false in
local macro_rules | `(tactic| obtain $p:rcasesPatMed := $e) => `(tactic| (refine Mine.hide ?_; intro G0 hG0; rcases $e:term with $p:rcasesPatMed <;> (refine hG0 ?_; clear hG0 G0)))
set_option hygiene false in
local macro_rules | `(tactic| obtain $p:rcasesPatMed : $t := $e) => `(tactic| (refine Mine.hide ?_; intro G0 hG0; rcases ($e : $t) with $p:rcasesPatMed <;> (refine hG0 ?_; clear hG0 G0)))
set_option hygiene false in
local macro_rules | `(tactic| obtain rfl : $t := $e) => `(tactic| (rcases ($e : $t) with rfl))
set_option maxRecDepth 100000
/-! sorted(), of tuples of ints and octets -/
def ltFD : FD → FD → Bool
  | .i a, .i b => decide (a < b)
  | .b x, .b y => ltB x y
  | _, _ => false
def ltL : List FD → List FD → Bool
  | d :: ds, e :: es => if d = e then ltL ds es else ltFD d e
  | _, _ => false
section
variable {prog : Program} {w : World} {A : Around} {E : Value → Shared → Prop} {s : Shared}
theorem call_bytes_lt {b c : Array UInt8} {t u : Tok} {Q : Value → Shared → Prop} (h : Q (.bool (ltB b c)) s) : wpAny (model prog w) A (call (.builtin "bytes.__lt__") [.bytes b t, .bytes c u]) Q E s := by
  refine wpAny_call_entry slot_lt (typeIs_bytes s b t) entry_lt ?_ (args_lt _ _)
  show wpAny _ _ (isInstance (.bytes c u) (.type "bytes") >>= fun r => _) _ _ s
  refine wpAny_bind (wpAny_isInstance (typeIs_bytes s c u) F.sub_bytes_bytes ?_)
  exact wpAny_pure ⟨_, rfl, h⟩
theorem oneLt_bytes {b c : Array UInt8} {t u : Tok} {Q : Bool → Shared → Prop} (h : Q (ltB b c) s) : wpAny (model prog w) A (oneLt' true (.bytes b t) (.bytes c u)) Q E s := by
  rw [oneLt'_eq]
  simp only [if_true]
  refine wpAny_bind (wpAny_cRoomFor_byValue rfl ?_)
  refine wpAny_bind (wpAny_callSpecialIfBound?_slot (typeIs_bytes s b t) slot_lt (call_bytes_lt ?_))
  exact wpAny_truthy_bool h
theorem oneLt_FD {v v' : Value} {d d' : FD} {Q : Bool → Shared → Prop} (h : FIs v d) (h' : FIs v' d') (hk : sameKind d d') (hq : Q (ltFD d d') s) : wpAny (model prog w) A (oneLt' false v v') Q E s := by
  refine kat_one v v' ?_
  cases d <;> cases d' <;> try exact hk.elim
  · obtain ⟨t, rfl⟩ := h
    obtain ⟨u, rfl⟩ := h'
    exact lt_int hq
  · obtain ⟨t, rfl⟩ := h
    obtain ⟨u, rfl⟩ := h'
    exact lt_bytes hq
theorem lex_FD {Q : Bool → Shared → Prop} : ∀ {vs ws : List Value} {ds es : List FD} (i : Nat), FAll vs ds → FAll ws es → kindsAll ds es → (i = 0 → ∃ x r, ds = .b x :: r) → Q (ltL ds es) s →
    KatLex prog w A true false Q (vs.zip ws) i s
  | [], [], [], [], _, _, _, _, _, h => h
  | v :: vs, w' :: ws, d :: ds, e :: es, i, h1, h2, h3, h4, h => by
    rw [List.zip_cons_cons]
    refine kat_cons (eqAt_FD (A := A) (s := s) h1.1 h2.1 h3.1 prog w _ _ ?_)
    refine kat_go (fun he => kat_yes ?_) fun he => kat_no ?_
    · have e1 : d = e := of_decide_eq_true he
      refine lex_FD (i + 1) h1.2 h2.2 h3.2 (fun hi => absurd hi (Nat.succ_ne_zero i)) ?_
      rw [ltL, if_pos e1] at h
      exact h
    · have e1 : d ≠ e := of_decide_eq_false he
      rw [ltL, if_neg e1] at h
      cases i with
      | zero =>
        obtain ⟨x, r, hx⟩ := h4 rfl
        injection hx with hx1 hx2
        subst hx1
        cases e with
        | i n => exact h3.1.elim
        | b y =>
          obtain ⟨t, rfl⟩ := h1.1
          obtain ⟨u, rfl⟩ := h2.1
          exact oneLt_bytes h
      | succ i =>
        have e2 : (true && (i + 1 == 0)) = false := by simp
        rw [e2]
        exact oneLt_FD h1.1 h2.1 h3.1 h
  | [], _ :: _, [], _ :: _, _, _, _, h, _, _ => h.elim
  | _ :: _, [], _ :: _, [], _, _, _, h, _, _ => h.elim
  | [], _, _ :: _, _, _, h, _, _, _, _ => h.elim
  | _ :: _, _, [], _, _, h, _, _, _, _ => h.elim
  | _, [], _, _ :: _, _, _, h, _, _, _ => h.elim
  | _, _ :: _, _, [], _, _, h, _, _, _ => h.elim
end
/-! the order -/
theorem ltFD_irrefl (d : FD) : ltFD d d = false := by cases d <;> simp [ltFD, ltB_irrefl]
theorem ltFD_trans {a b c : FD} (h : ltFD a b = true) (g : ltFD b c = true) : ltFD a c = true := by
  cases a <;> cases b <;> cases c <;> simp_all [ltFD]
  · omega
  · exact ltB_trans h g
theorem ltFD_total {a b : FD} (k : sameKind a b) (h : a ≠ b) : ltFD a b = true ∨ ltFD b a = true := by
  cases a <;> cases b <;> simp_all [ltFD, sameKind]
  · omega
  · rename_i x y
    cases e1 : ltB x y with
    | true => exact .inl rfl
    | false =>
      cases e2 : ltB y x with
      | true => exact .inr rfl
      | false => exact absurd (ltB_conn e1 e2) h
theorem ltL_irrefl : ∀ d : List FD, ltL d d = false
  | [] => rfl
  | d :: ds => by rw [ltL, if_pos rfl]; exact ltL_irrefl ds
theorem ltL_trans : ∀ {a b c : List FD}, ltL a b = true → ltL b c = true → ltL a c = true
  | [], _, _, h, _ => by simp [ltL] at h
  | _ :: _, [], _, h, _ => by simp [ltL] at h
  | _ :: _, _ :: _, [], _, h => by simp [ltL] at h
  | a :: as, b :: bs, c :: cs, h, g => by
    rw [ltL] at h g ⊢
    by_cases e1 : a = b
    · subst e1
      rw [if_pos rfl] at h
      by_cases e2 : a = c
      · subst e2
        rw [if_pos rfl] at g ⊢
        exact ltL_trans h g
      · rw [if_neg e2] at g ⊢
        exact g
    · rw [if_neg e1] at h
      by_cases e2 : b = c
      · subst e2
        rw [if_pos rfl] at g
        rw [if_neg e1]
        exact h
      · rw [if_neg e2] at g
        have ht := ltFD_trans h g
        have : a ≠ c := fun e => by subst e; rw [ltFD_irrefl] at ht; cases ht
        rw [if_neg this]
        exact ht
theorem ltL_total : ∀ {a b : List FD}, kindsAll a b → a ≠ b → ltL a b = true ∨ ltL b a = true
  | [], [], _, h => absurd rfl h
  | a :: as, b :: bs, k, h => by
    rw [ltL, ltL]
    by_cases e : a = b
    · subst e
      rw [if_pos rfl, if_pos rfl]
      exact ltL_total k.2 fun g => h (by rw [g])
    · rw [if_neg e, if_neg fun g => e g.symm]
      exact ltFD_total k.1 e
  | [], _ :: _, k, _ => k.elim
  | _ :: _, [], k, _ => k.elim
/-! the machine of sorted, run by a pure test -/
def kasRun {α : Type} (lt : Nat → Nat → Bool) : KasT α → α
  | .ret a => a
  | .ask i j k => kasRun lt (k (lt i j))
def kasOk {α : Type} (lt : Nat → Nat → Bool) (n : Nat) : KasT α → Bool
  | .ret _ => true
  | .ask i j k => decide (i < n) && decide (j < n) && kasOk lt n (k (lt i j))
theorem kas_run {α : Type} {cmp : Nat → Nat → (Bool → Shared → Prop) → Shared → Prop} {lt : Nat → Nat → Bool} {n : Nat} {s : Shared} (hc : ∀ i j C, i < n → j < n → C (lt i j) s → cmp i j C s) {Q : α → Shared → Prop} :
    ∀ t : KasT α, kasOk lt n t = true → Q (kasRun lt t) s → t.kasWp cmp Q s
  | .ret _, _, h => h
  | .ask i j k, ho, h => by
    rw [kasOk, Bool.and_eq_true, Bool.and_eq_true] at ho
    exact hc i j _ (of_decide_eq_true ho.1.1) (of_decide_eq_true ho.1.2) (kas_run hc (k (lt i j)) ho.2 h)
def ltR (r : List Nat) (i j : Nat) : Bool := decide (r.getD i 0 < r.getD j 0)
def sortOk (n : Nat) (r : List Nat) : Bool :=
  kasOk (ltR r) n (kas_sort n) && ((kasRun (ltR r) (kas_sort n)).toList.length == n) && ((kasRun (ltR r) (kas_sort n)).toList.all fun x => decide (x < n)) && decide ((kasRun (ltR r) (kas_sort n)).toList.map (fun x => r.getD x 0) = List.range n)
def nodupB : List Nat → Bool
  | [] => true
  | x :: l => !l.contains x && nodupB l
set_option maxHeartbeats 4000000 in
theorem sortOk2 : ∀ a b : Fin 2, nodupB [a.1, b.1] = true → sortOk 2 [a.1, b.1] = true := by decide +kernel
set_option maxHeartbeats 4000000 in
theorem sortOk3 : ∀ a b c : Fin 3, nodupB [a.1, b.1, c.1] = true → sortOk 3 [a.1, b.1, c.1] = true := by decide +kernel
set_option maxHeartbeats 4000000 in
theorem sortOk4 : ∀ a b c d : Fin 4, nodupB [a.1, b.1, c.1, d.1] = true → sortOk 4 [a.1, b.1, c.1, d.1] = true := by decide +kernel
set_option maxHeartbeats 4000000 in
theorem sortOk5 : ∀ a b c d e : Fin 5, nodupB [a.1, b.1, c.1, d.1, e.1] = true → sortOk 5 [a.1, b.1, c.1, d.1, e.1] = true := by decide +kernel
theorem nodupB_of : ∀ {l : List Nat}, l.Pairwise (· ≠ ·) → nodupB l = true
  | [], _ => rfl
  | x :: l, h => by
    have h1 := List.pairwise_cons.mp h
    rw [nodupB, Bool.and_eq_true]
    refine ⟨?_, nodupB_of h1.2⟩
    have : ¬ x ∈ l := fun hx => h1.1 x hx rfl
    simp [this]
theorem sortOk_all {n : Nat} {r : List Nat} (h2 : 2 ≤ n) (h5 : n ≤ 5) (hl : r.length = n) (hr : ∀ x ∈ r, x < n) (hd : r.Pairwise (· ≠ ·)) : sortOk n r = true := by
  have hb := nodupB_of hd
  have hn : n = 2 ∨ n = 3 ∨ n = 4 ∨ n = 5 := by omega
  rcases hn with rfl | rfl | rfl | rfl
  · obtain ⟨a, b, rfl⟩ : ∃ a b, r = [a, b] := by
      match r, hl with
      | [a, b], _ => exact ⟨a, b, rfl⟩
    exact sortOk2 ⟨a, hr a (by simp)⟩ ⟨b, hr b (by simp)⟩ hb
  · obtain ⟨a, b, c, rfl⟩ : ∃ a b c, r = [a, b, c] := by
      match r, hl with
      | [a, b, c], _ => exact ⟨a, b, c, rfl⟩
    exact sortOk3 ⟨a, hr a (by simp)⟩ ⟨b, hr b (by simp)⟩ ⟨c, hr c (by simp)⟩ hb
  · obtain ⟨a, b, c, d, rfl⟩ : ∃ a b c d, r = [a, b, c, d] := by
      match r, hl with
      | [a, b, c, d], _ => exact ⟨a, b, c, d, rfl⟩
    exact sortOk4 ⟨a, hr a (by simp)⟩ ⟨b, hr b (by simp)⟩ ⟨c, hr c (by simp)⟩ ⟨d, hr d (by simp)⟩ hb
  · obtain ⟨a, b, c, d, e, rfl⟩ : ∃ a b c d e, r = [a, b, c, d, e] := by
      match r, hl with
      | [a, b, c, d, e], _ => exact ⟨a, b, c, d, e, rfl⟩
    exact sortOk5 ⟨a, hr a (by simp)⟩ ⟨b, hr b (by simp)⟩ ⟨c, hr c (by simp)⟩ ⟨d, hr d (by simp)⟩ ⟨e, hr e (by simp)⟩ hb
open PySem PySem.W PyProof.Rows PySem.SeqAt
set_option maxRecDepth 100000
theorem countP_lt {α : Type} {p q : α → Bool} : ∀ {l : List α}, (∀ x ∈ l, p x = true → q x = true) → (∃ x ∈ l, q x = true ∧ p x = false) → l.countP p < l.countP q
  | [], _, ⟨x, hx, _⟩ => by cases hx
  | a :: l, h1, ⟨x, hx, h2, h3⟩ => by
    have hle : l.countP p ≤ l.countP q := by
      clear hx
      have h1' : ∀ x ∈ l, p x = true → q x = true := fun x hx => h1 x (.tail _ hx)
      exact List.countP_mono_left h1'
    rw [List.countP_cons, List.countP_cons]
    have ha := h1 a (.head _)
    rcases List.mem_cons.mp hx with rfl | hx
    · rw [h2, h3]; simp; omega
    · have ih := countP_lt (l := l) (fun x hx => h1 x (.tail _ hx)) ⟨x, hx, h2, h3⟩
      cases hp : p a with
      | true => rw [ha hp]; simp; omega
      | false => simp; omega
def rk (lt : Nat → Nat → Bool) (n i : Nat) : Nat := (List.range n).countP fun j => lt j i
section
variable {lt : Nat → Nat → Bool} {n : Nat} (irr : ∀ i, lt i i = false) (tr : ∀ i j k, lt i j = true → lt j k = true → lt i k = true)
include irr tr
theorem rk_lt {i j : Nat} (hi : i < n) (h : lt i j = true) : rk lt n i < rk lt n j :=
  countP_lt (fun x _ hx => tr x i j hx h) ⟨i, List.mem_range.mpr hi, h, irr i⟩
omit tr in
theorem rk_n {i : Nat} (hi : i < n) : rk lt n i < n := by
  have : rk lt n i < (List.range n).countP fun _ => true := countP_lt (fun _ _ _ => rfl) ⟨i, List.mem_range.mpr hi, rfl, irr i⟩
  simpa using this
theorem rk_iff (tot : ∀ i j, i < n → j < n → i ≠ j → lt i j = true ∨ lt j i = true) {i j : Nat} (hi : i < n) (hj : j < n) : lt i j = decide (rk lt n i < rk lt n j) := by
  cases h : lt i j with
  | true => exact (decide_eq_true (rk_lt irr tr hi h)).symm
  | false =>
    symm
    apply decide_eq_false
    by_cases e : i = j
    · subst e; omega
    · rcases tot i j hi hj e with g | g
      · rw [h] at g; cases g
      · have := rk_lt irr tr hj g; omega
end
section
variable {prog : Program} {w : World} {A : Around} {E : Value → Shared → Prop} {s : Shared} {h₀ : Heap} {L l : Addr} {m : Str → Option Value} {news : List (Addr × Obj)} {vs : List Value} {n : Nat} {Q : Value → Shared → Prop}
theorem sorted_tuples (F : Fr h₀ L s.heap m) (N : News h₀ L s.heap news) (hl : (l, ({ cls := .type "list", data := .seq vs.toArray n } : Obj)) ∈ news) (h2 : 2 ≤ vs.length) (h5 : vs.length ≤ 5) (ds : Nat → List FD)
    (hel : ∀ (i : Nat) v, vs[i]? = some v → ∃ a xs k, v = .ref a ∧ (a, ({ cls := .type "tuple", data := .seq (List.toArray xs) k } : Obj)) ∈ news ∧ FAll xs (ds i))
    (hk : ∀ i j, i < vs.length → j < vs.length → kindsAll (ds i) (ds j)) (hb : ∀ i, i < vs.length → ∃ x r, ds i = .b x :: r) (hd : ∀ i j, i < vs.length → j < vs.length → i ≠ j → ds i ≠ ds j)
    (k : ∀ D c h' (p : List Nat), p.length = vs.length → (∀ x ∈ p, x < vs.length) → p.Pairwise (fun a b => ltL (ds a) (ds b) = true) → (∀ q ∈ news, q.1 < D) → Fr h₀ L h' m →
      News h₀ L h' ((D, listOf (List.toArray (p.map fun i => vs.getD i .none)) c) :: news) → Q (.ref D) { s with heap := h' }) :
    wpAny (model prog w) A (call (.builtin "sorted") [.ref l]) Q E s := by
  refine kat_sorted F N (News.isList N hl) h2 (by omega) fun D e1 h' F' N' hlt => ?_
  have N2 : News h₀ L h' news := fun p hp => N' p (.tail _ hp)
  -- the first of each tuple
  obtain ⟨fs, hfs, hfb, hfl⟩ : ∃ fs, KatTups h' vs fs ∧ (∀ v ∈ fs, ∃ x t, v = .bytes x t) ∧ fs.length = vs.length := by
    have gen : ∀ (us : List Value) (b : Nat), (∀ (i : Nat) v, us[i]? = some v → ∃ a xs k, v = .ref a ∧ (a, ({ cls := .type "tuple", data := .seq (List.toArray xs) k } : Obj)) ∈ news ∧ FAll xs (ds (b + i)) ∧ ∃ x r, ds (b + i) = .b x :: r) →
        ∃ fs, KatTups h' us fs ∧ (∀ v ∈ fs, ∃ x t, v = .bytes x t) ∧ fs.length = us.length := by
      intro us
      induction us with
      | nil => exact fun _ _ => ⟨[], KatTups.nil, fun v hv => (nomatch hv), rfl⟩
      | cons u us ih =>
        intro b h
        obtain ⟨a, xs, kk, rfl, hm, hF, x, r, hx⟩ := h 0 u rfl
        obtain ⟨fs, g1, g2, g3⟩ := ih (b + 1) fun i v hv => by
          obtain ⟨a, xs, kk, e, hm, hF, hx⟩ := h (i + 1) v hv
          rw [show b + 1 + i = b + (i + 1) by omega]
          exact ⟨a, xs, kk, e, hm, hF, hx⟩
        have hF' : FAll xs (.b x :: r) := by rw [← hx]; exact hF
        cases xs with
        | nil => exact hF'.elim
        | cons f xs =>
          obtain ⟨t, rfl⟩ := hF'.1
          exact ⟨.bytes x t :: fs, KatTups.cons (N2 _ hm).1 rfl rfl (by simp) g1, fun v hv => by
            rcases List.mem_cons.mp hv with rfl | hv
            · exact ⟨x, t, rfl⟩
            · exact g2 v hv, by simp [g3]⟩
    refine gen vs 0 fun i v hv => ?_
    obtain ⟨a, xs, kk, e, hm, hF⟩ := hel i v hv
    rw [Nat.zero_add]
    exact ⟨a, xs, kk, e, hm, hF, hb i (List.getElem?_eq_some_iff.mp hv).1⟩
  refine kat_kind (s := { s with heap := h' }) (T := .type "bytes") hfs (by omega) (fun v hv => ?_) (by decide) ?_
  · obtain ⟨x, t, rfl⟩ := hfb v hv
    exact .now
  have hb2 : (Value.type "bytes" != Value.type "tuple") = true := by decide
  rw [hb2]
  -- the comparisons
  let lt : Nat → Nat → Bool := fun i j => ltL (ds i) (ds j)
  have irr : ∀ i, lt i i = false := fun i => ltL_irrefl _
  have tr : ∀ i j k, lt i j = true → lt j k = true → lt i k = true := fun i j k => ltL_trans
  have tot : ∀ i j, i < vs.length → j < vs.length → i ≠ j → lt i j = true ∨ lt j i = true := fun i j hi hj e => ltL_total (hk i j hi hj) (hd i j hi hj e)
  let r := (List.range vs.length).map (rk lt vs.length)
  have hrl : r.length = vs.length := by simp [r]
  have hrat : ∀ i, i < vs.length → r.getD i 0 = rk lt vs.length i := fun i hi => by simp [r, hi]
  have hok := sortOk_all (r := r) h2 h5 hrl (fun x hx => by
    obtain ⟨i, hi, rfl⟩ := List.mem_map.mp hx
    exact rk_n irr (List.mem_range.mp hi)) (by
    rw [List.pairwise_map]
    refine List.Pairwise.imp_of_mem (R := (· < ·)) (fun {a b} ha hb' hab => ?_) List.pairwise_lt_range
    have ha := List.mem_range.mp ha
    have hb' := List.mem_range.mp hb'
    rcases tot a b ha hb' (Nat.ne_of_lt hab) with g | g
    · have := rk_lt irr tr ha g; omega
    · have := rk_lt irr tr hb' g; omega)
  unfold sortOk at hok
  rw [Bool.and_eq_true, Bool.and_eq_true, Bool.and_eq_true] at hok
  obtain ⟨⟨⟨o1, o2⟩, o3⟩, o4⟩ := hok
  have o2 : _ = _ := eq_of_beq o2
  have o4 := of_decide_eq_true o4
  rw [List.all_eq_true] at o3
  generalize hp : kasRun (ltR r) (kas_sort vs.length) = p at *
  refine kas_run (lt := ltR r) (n := vs.length) (fun i j C hi hj hC => ?_) (kas_sort vs.length) o1 ?_
  · show wpAny (model prog w) A.in1.in1 (keyLt' (tuples' true) (vs.getD i .none) (vs.getD j .none)) C (fun _ _ => False) { s with heap := h' }
    obtain ⟨a1, xs, k1, ea, ma, fa⟩ := hel i _ (List.getElem?_eq_getElem hi)
    obtain ⟨a2, ys, k2, eb, mb, fb⟩ := hel j _ (List.getElem?_eq_getElem hj)
    have ei : vs.getD i .none = .ref a1 := by rw [← ea]; simp [hi]
    have ej : vs.getD j .none = .ref a2 := by rw [← eb]; simp [hj]
    rw [ei, ej]
    refine kat_lt (s := { s with heap := h' }) (N2 _ ma).1 rfl (N2 _ mb).1 rfl ?_
    have hlen : xs.length = ys.length := by rw [fa.len, fb.len, (hk i j hi hj).len]
    have hfin : decide ((List.toArray xs).size < (List.toArray ys).size) = false := by simp [hlen]
    rw [hfin]
    refine lex_FD 0 fa fb (hk i j hi hj) (fun _ => hb i hi) ?_
    have e9 : ltL (ds i) (ds j) = ltR r i j := by
      unfold ltR
      rw [hrat i hi, hrat j hj]
      exact rk_iff irr tr tot hi hj
    rw [e9]
    exact hC
  · rw [hp]
    refine KasFin.intro F' N' (.head fun q hq => Nat.ne_of_lt (hlt q hq)) fun h'' c F'' N'' => ?_
    refine k D c h'' p.toList o2 (fun x hx => of_decide_eq_true (o3 x hx)) ?_ hlt F'' N''
    rw [List.pairwise_iff_getElem]
    intro a b ha hb' hab
    have h1 : p.toList[a] < vs.length := of_decide_eq_true (o3 _ (List.getElem_mem ha))
    have h3 : p.toList[b] < vs.length := of_decide_eq_true (o3 _ (List.getElem_mem hb'))
    have ga : r.getD (p.toList[a]) 0 = a := by
      have := congrArg (fun l => l[a]?) o4
      simp only [List.getElem?_map, List.getElem?_eq_getElem ha, Option.map_some] at this
      rw [List.getElem?_range (by omega)] at this
      exact Option.some.inj this
    have gb : r.getD (p.toList[b]) 0 = b := by
      have := congrArg (fun l => l[b]?) o4
      simp only [List.getElem?_map, List.getElem?_eq_getElem hb', Option.map_some] at this
      rw [List.getElem?_range (by omega)] at this
      exact Option.some.inj this
    show lt (p.toList[a]) (p.toList[b]) = true
    rw [rk_iff irr tr tot h1 h3, ← hrat _ h1, ← hrat _ h3, ga, gb]
    exact decide_eq_true hab
end
open PySem PySem.W PyProof.Rows PySem.SeqAt
set_option maxRecDepth 100000
section
variable {prog : Program} {w : World} {A : Around} {E : Value → Shared → Prop} {s : Shared}
theorem rich_FD {v v' : Value} {d d' : FD} {Q : Value → Shared → Prop} (h : FIs v d) (h' : FIs v' d') (hk : sameKind d d') (hq : Q (.bool (ltFD d d')) s) : wpAny (model prog w) A (richCompare .Lt v v') Q E s := by
  cases d <;> cases d' <;> try exact hk.elim
  · obtain ⟨t, rfl⟩ := h
    obtain ⟨u, rfl⟩ := h'
    exact (lt_int hq : wpAny (model prog w) A (compareOp .Lt (.int _ t) (.int _ u)) Q E s)
  · obtain ⟨t, rfl⟩ := h
    obtain ⟨u, rfl⟩ := h'
    exact (lt_bytes hq : wpAny (model prog w) A (compareOp .Lt (.bytes _ t) (.bytes _ u)) Q E s)
theorem tuple_lt_tree {a b : Addr} {oa ob : Obj} {xs ys : List Value} {na nb : Nat} {ds es : List FD} {P : Fin → Shared → Prop} (hoa : s.heap.get? a = some oa) (hda : oa.data = .seq (List.toArray xs) na) (hob : s.heap.get? b = some ob) (hcb : ob.cls = .type "tuple") (hdb : ob.data = .seq (List.toArray ys) nb)
    (h1 : FAll xs ds) (h2 : FAll ys es) (hk : kindsAll ds es) (h : P (.done (.ret (.bool (ltL ds es)))) s) :
    wpAny (model prog w) A (Builtin.«tuple.__lt__» ⟨[.ref a, .ref b], []⟩) P E s := by
  have hTb : s.TypeIs (.ref b) "tuple" := ⟨_, hob, hcb⟩
  show wpAny _ _ (isInstance (.ref b) (.type "tuple") >>= _) _ _ s
  refine wpAny_bind (wpAny_isInstance hTb isSubtype_tuple_tuple ?_)
  simp only [Bool.not_true, Bool.false_eq_true, if_false]
  refine wpAny_bind (wpAny_tupleItemsOf hoa hda ?_)
  refine wpAny_bind (wpAny_tupleItemsOf hob hdb ?_)
  refine wpAny_bind ?_
  refine wpAny_forIn_list _
    (fun rest r s' => r.1 = none ∧ s' = s ∧ ∃ xs' ys' ds' es', rest = List.zip xs' ys' ∧ FAll xs' ds' ∧ FAll ys' es' ∧ kindsAll ds' es' ∧ ltL ds' es' = ltL ds es)
    _ ?_ ?_ _ _ ⟨rfl, rfl, xs, ys, ds, es, by simp, h1, h2, hk, rfl⟩
  · intro hx1 rest r s' hx2
    obtain ⟨u, v⟩ := hx1
    obtain ⟨hr, rfl, xs', ys', ds', es', hz, g1, g2, g3, g4⟩ := hx2
    match xs', ys', ds', es', g1, g2, g3, g4, hz with
    | x :: xs', y :: ys', d :: ds', e :: es', g1, g2, g3, g4, hz =>
      simp only [List.zip_cons_cons, List.cons.injEq, Prod.mk.injEq] at hz
      obtain ⟨⟨rfl, rfl⟩, rfl⟩ := hz
      refine wpAny_bind (eqAt_FD (A := A) (s := s') g1.1 g2.1 g3.1 prog w _ _ ?_)
      rw [ltL] at g4
      by_cases hde : d = e
      · rw [decide_eq_true hde]
        rw [if_pos hde] at g4
        simp only [Bool.not_true, Bool.false_eq_true, if_false]
        exact wpAny_pure ⟨rfl, rfl, xs', ys', ds', es', rfl, g1.2, g2.2, g3.2, g4⟩
      · rw [decide_eq_false hde]
        rw [if_neg hde] at g4
        simp only [Bool.not_false, if_true]
        refine wpAny_bind (wpAny_rule ?_)
        refine wpAny_bind ?_
        refine rich_FD g1.1 g2.1 g3.1 ?_
        rw [g4]
        exact wpAny_bind (wpAny_pure (wpAny_pure (wpAny_pure h)))
    | [], _, _, _, _, _, _, _, hz => simp at hz
    | _ :: _, [], _, _, _, _, _, _, hz => simp at hz
    | _ :: _, _ :: _, [], _, g, _, _, _, _ => exact g.elim
    | _ :: _, _ :: _, _ :: _, [], _, g, _, _, _ => exact g.elim
  · intro hx3 s' hx4
    obtain ⟨r1, r2⟩ := hx3
    obtain ⟨hr, rfl, xs', ys', ds', es', hz, g1, g2, g3, g4⟩ := hx4
    simp only at hr
    subst hr
    refine wpAny_pure ?_
    have hlen : xs.length = ys.length := by rw [h1.len, h2.len, hk.len]
    have hfin : decide ((List.toArray xs).size < (List.toArray ys).size) = ltL ds es := by
      have e0 : ltL ds' es' = false := by
        match xs', ys', ds', es', g1, g2, g3, hz with
        | [], [], [], [], _, _, _, _ => rfl
        | [], _ :: _, [], [], _, g, _, _ => exact g.elim
        | [], _, [], _ :: _, _, _, g, _ => exact g.elim
        | [], _, _ :: _, _, g, _, _, _ => exact g.elim
        | _ :: _, [], [], [], g, _, _, _ => exact g.elim
        | _ :: _, [], _ :: _, [], _, _, g, _ => exact g.elim
        | _ :: _, [], _, _ :: _, _, g, _, _ => exact g.elim
        | _ :: _, _ :: _, _, _, _, _, _, hz => simp at hz
      rw [← g4, e0]
      simp [hlen]
    show P (.done (.ret (.bool (decide ((List.toArray xs).size < (List.toArray ys).size))))) s'
    rw [hfin]; exact h
theorem lt_tuples {h₀ : Heap} {L a b : Addr} {news : List (Addr × Obj)} {vs ws : List Value} {ds es : List FD} {n m : Nat} {Q : Value → Shared → Prop} (N : News h₀ L s.heap news) (ma : (a, ({ cls := .type "tuple", data := .seq vs.toArray n } : Obj)) ∈ news) (mb : (b, ({ cls := .type "tuple", data := .seq ws.toArray m } : Obj)) ∈ news)
    (Fa : FAll vs ds) (Fb : FAll ws es) (K : kindsAll ds es) (hu : A.units < cLine) (h : Q (.bool (ltL ds es)) s) : wpAny (model prog w) A (compareOp .Lt (.ref a) (.ref b)) Q E s := by
  have ta : s.TypeIs (.ref a) "tuple" := ⟨_, (N _ ma).1, rfl⟩
  have tb : s.TypeIs (.ref b) "tuple" := ⟨_, (N _ mb).1, rfl⟩
  show wpAny _ _ (richCompare .Lt (.ref a) (.ref b)) _ _ _
  refine wpAny_richCompare_same_room ta tb F.slot_tuple_lt ?_ hu
  refine wpAny_call_entry F.slot_tuple_lt ta F.entry_tuple_lt ?_ (F.args_tuple_lt_2 _ _)
  exact tuple_lt_tree (N _ ma).1 rfl (N _ mb).1 rfl rfl Fa Fb K ⟨_, rfl, (fun x => nomatch x), h⟩
end
open PySem PySem.W PyProof.Rows PySem.SeqAt
set_option maxRecDepth 100000
section
variable {prog : Program} {w : World} {A : Around} {E : Value → Shared → Prop} {s : Shared} {h₀ : Heap} {L l : Addr} {m : Str → Option Value} {news : List (Addr × Obj)} {v : Value} {n : Nat} {Q : Value → Shared → Prop}
theorem sort_one {a : Addr} {n : Nat} {P : Fin → Shared → Prop} (ho : s.heap.get? a = some (seqObj "list" [v].toArray n)) (h : P (.done (.ret .none)) { s with heap := sortedHeap s.heap a [v] #[v] }) :
    wpAny (model prog w) A (Builtin.«list.sort» ⟨[.ref a], []⟩) P E s := by
  have ha : a < s.heap.objs.size := Heap.lt_size ho
  rw [list_sort_plain]
  refine wpAny_bind (listItems_at ho rfl ?_)
  refine wpAny_bind (listUpdate_at ho rfl ?_)
  obtain ⟨e1, ho1⟩ : ∃ e1, (s.heap.update a (Obj.mapSeq fun _ => #[])).get? a = some (seqObj "list" #[] e1) := ⟨_, get?_update_seq ho (fun _ => #[])⟩
  refine wpAny_bind (seqEpoch_at ho1 rfl ?_)
  refine wpAny_bind (wpAny_newTuple ?_)
  refine wpAny_bind (wpAny_newList ?_)
  refine wpAny_holding ?_
  have ho6 : (((s.heap.update a (Obj.mapSeq fun _ => #[])).push (seqObj "tuple" [v].toArray 0)).push (seqObj "list" #[] 0)).get? a = some (seqObj "list" #[] e1) :=
    Heap.get?_push_of_some _ (Heap.get?_push_of_some _ ho1)
  show wpAny (model prog w) A _ P E { s with heap := ((s.heap.update a (Obj.mapSeq fun _ => #[])).push (seqObj "tuple" [v].toArray 0)).push (seqObj "list" #[] 0) }
  dsimp only
  have h2 : [v].toArray.size < 2 := by simp
  have e8 : arrOf (SortSt.mk' general' (#[v].zip #[v]) #[] 7 none) = (#[v].zip #[v]) := rfl
  have e9 : Array.map (fun x : Keyed => x.2) (arrOf (SortSt.mk' general' (#[v].zip #[v]) #[] 7 none)) = #[v] := by rw [e8]; simp
  rw [if_pos h2, if_pos h2]
  refine wpAny_bind (wpAny_pure ?_)
  rw [StateT.run_pure]
  refine wpAny_bind (wpAny_pure ?_)
  dsimp only
  refine wpAny_bind (seqEpoch_at ho6 rfl ?_)
  refine wpAny_bind (listUpdate_at ho6 rfl ?_ (hsz2 := by rw [e9, sizeLine_eq]; exact (by decide : (1 : Nat) ≤ 16777217)))
  simp only [bne_self_eq_false, Bool.false_eq_true, if_false]
  rw [e9]
  exact wpAny_pure h
theorem sorted_one (F : Fr h₀ L s.heap m) (N : News h₀ L s.heap news) (hl : (l, ({ cls := .type "list", data := .seq [v].toArray n } : Obj)) ∈ news)
    (k : ∀ D c h', (∀ q ∈ news, q.1 < D) → Fr h₀ L h' m → News h₀ L h' ((D, listOf (List.toArray [v]) c) :: news) → Q (.ref D) { s with heap := h' }) :
    wpAny (model prog w) A (call (.builtin "sorted") [.ref l]) Q E s := by
  refine Calls.call_function_entry kind_sorted plain_sorted entry_sorted (args_sorted1 _) ?_
  unfold Builtin.«sorted»
  refine wpAny_bind (m := checkCount "sorted" 1 1 _) (wpAny_pure ?_)
  refine wpAny_bind (collect_list (vs := [v]) (News.isList N hl) ?_)
  refine wpAny_bind (wpAny_newList ?_)
  have hsz : ((s.heap.push (seqObj "list" #[] 0)).update s.heap.objs.size (Obj.mapSeq (· ++ [v].toArray))).objs.size = s.heap.objs.size + 1 := by
    rw [Heap.size_update, size_push']
  have hoL : (((s.heap.push (seqObj "list" #[] 0)).update s.heap.objs.size (Obj.mapSeq (· ++ [v].toArray))).push (seqObj "list" [v].toArray 0)).get? (s.heap.objs.size + 1) = some (seqObj "list" [v].toArray 0) := by
    rw [← hsz]; exact Heap.get?_push_size _ rfl
  show wpAny _ _ _ _ _ { s with heap := ((s.heap.push (seqObj "list" #[] 0)).update s.heap.objs.size (Obj.mapSeq (· ++ [v].toArray))).push (seqObj "list" [v].toArray 0) }
  rw [hsz]
  refine wpAny_bind (wpAny_holding (wpAny_call_entry slot_list_sort ⟨_, hoL, rfl⟩ entry_list_sort (sort_one hoL ⟨_, rfl, ?_⟩) (args_list_sort _)))
  refine wpAny_pure ⟨_, rfl, ?_⟩
  have keep : ∀ b o, s.heap.get? b = some o → (sortedHeap (((s.heap.push (seqObj "list" #[] 0)).update s.heap.objs.size (Obj.mapSeq (· ++ [v].toArray))).push (seqObj "list" [v].toArray 0)) (s.heap.objs.size + 1) [v] #[v]).get? b = some o := fun b o q => by
    have hlt : b < s.heap.objs.size := Heap.lt_size q
    unfold sortedHeap
    rw [Heap.get?_update_ne _ _ _ _ (Nat.ne_of_lt (Nat.lt_succ_of_lt hlt))]
    refine Heap.get?_push_of_some _ (Heap.get?_push_of_some _ ?_)
    rw [Heap.get?_update_ne _ _ _ _ (Nat.ne_of_lt (Nat.lt_succ_of_lt hlt))]
    refine Heap.get?_push_of_some _ ?_
    rw [Heap.get?_update_ne _ _ _ _ (Nat.ne_of_lt hlt)]
    exact Heap.get?_push_of_some _ q
  obtain ⟨c, hc⟩ : ∃ c, (sortedHeap (((s.heap.push (seqObj "list" #[] 0)).update s.heap.objs.size (Obj.mapSeq (· ++ [v].toArray))).push (seqObj "list" [v].toArray 0)) (s.heap.objs.size + 1) [v] #[v]).get? (s.heap.objs.size + 1) = some (listOf (List.toArray [v]) c) := by
    unfold sortedHeap
    exact ⟨_, get?_update_seq (Heap.get?_push_of_some _ (Heap.get?_push_of_some _ (get?_update_seq hoL fun _ => #[]))) fun _ => #[v]⟩
  refine k _ c _ (fun q hq => Nat.lt_succ_of_lt (Heap.lt_size (N q hq).1)) (F.kept keep) fun p hp => ?_
  rcases List.mem_cons.mp hp with rfl | hp
  · refine ⟨hc, Nat.ne_of_gt (Nat.lt_succ_of_lt F.ns.lt), Heap.get?_none_of_le (Nat.le_trans F.above (Nat.le_trans (Nat.le_of_lt F.ns.lt) (Nat.le_succ _)))⟩
  · exact (N.grown keep) p hp
end
open PySem PySem.W PyProof.Rows PyProof.Rows.LCg PyProof.Rows.LCt
set_option maxRecDepth 100000
/-! comprehensions of any length, by what holds between the turns -/
section
variable {prog : Program} {w : World} {A : Around} {s : Shared} {h₀ : Heap} {L : Addr} {m : Str → Option Value} {env : Env} {ct elt : Expr} {x : Str} {scope : Scope} {cl : List (Str × Addr)} {S : Led → Prop} {P : Nat → Value → Prop} {Fin : List Value → Led → Prop}
theorem CompEnd.mono {s₁ : Shared} {I C D : Addr} {oI oC oD : Obj} {rest rest' : Value → Led → Prop} {y : Value} {s₂ : Shared} (h : CompEnd h₀ L m s₁ I oI C oC D oD S rest y s₂) (hr : ∀ n, rest y n → rest' y n) : CompEnd h₀ L m s₁ I oI C oC D oD S rest' y s₂ := by
  obtain ⟨h', tk, news', a, b, c, d, e, f⟩ := h
  exact ⟨h', tk, news', a, b, c, d, e, hr _ f⟩
theorem compRest_inv (J : Nat → List Value → Led → Prop) (n : Nat)
    (step : ∀ i ys news v I oI C oC D m₂ h tk (E' : Value → Shared → Prop), i < n → J i ys news → P i v → NsObj oC m₂ → m₂ x = some v → Fr h₀ L h m → News h₀ L h ((I, oI) :: (C, oC) :: (D, lst ys) :: news) → Off3 I C D news → ((@Ne Nat I C) ∧ (@Ne Nat I D) ∧ (@Ne Nat C D)) →
      wpAny (model prog w) A (eval elt (compEnvC scope cl C env)) (CompEnd h₀ L m { s with heap := h, toks := tk } I oI C oC D (lst ys) S (fun y news' => J (i + 1) (ys ++ [y]) news')) E' { s with heap := h, toks := tk })
    (fin : ∀ ys news, J n ys news → Fin ys news) : ∀ k i ys news, i + k = n → J i ys news → CompRest prog w A h₀ L m env elt x scope cl s S P Fin k i ys news
  | 0, i, ys, news, hi, hJ => .zero (fin ys news (by rw [← hi, Nat.add_zero]; exact hJ))
  | k + 1, i, ys, news, hi, hJ => .succ fun v I oI C oC D m₂ h tk E' hP hN hx F N hO hne =>
    wpAny_mono (step i ys news v I oI C oC D m₂ h tk E' (by omega) hJ hP hN hx F N hO hne) (fun _ _ hc => CompEnd.mono hc fun n' hn => compRest_inv J n step fin k (i + 1) _ n' (by omega) hn) fun _ _ e => e
theorem compRestT_inv (J : Nat → List Value → Led → Prop) (n : Nat)
    (step : ∀ i ys news v I oI C oC D m₂ h tk (E' : Value → Shared → Prop), i < n → J i ys news → P i v → NsObj oC m₂ → m₂ x = some v → Fr h₀ L h m → News h₀ L h ((I, oI) :: (C, oC) :: (D, lst ys) :: news) → Off3 I C D news → ((@Ne Nat I C) ∧ (@Ne Nat I D) ∧ (@Ne Nat C D)) →
      wpAny (model prog w) A (isTrue ct (compEnvC scope cl C env) (eval ct (compEnvC scope cl C env))) (fun ok s' => if ok = true then
        wpAny (model prog w) A (eval elt (compEnvC scope cl C env)) (CompEnd h₀ L m { s with heap := h, toks := tk } I oI C oC D (lst ys) S (fun y news' => J (i + 1) (ys ++ [y]) news')) E' s'
        else CompEnd h₀ L m { s with heap := h, toks := tk } I oI C oC D (lst ys) S (fun _ news' => J (i + 1) ys news') Value.none s') E' { s with heap := h, toks := tk })
    (fin : ∀ ys news, J n ys news → Fin ys news) : ∀ k i ys news, i + k = n → J i ys news → CompRestT prog w A h₀ L m env ct elt x scope cl s S P Fin k i ys news
  | 0, i, ys, news, hi, hJ => .zero (fin ys news (by rw [← hi, Nat.add_zero]; exact hJ))
  | k + 1, i, ys, news, hi, hJ => .succ fun v I oI C oC D m₂ h tk E' hP hN hx F N hO hne =>
    wpAny_mono (step i ys news v I oI C oC D m₂ h tk E' (by omega) hJ hP hN hx F N hO hne) (fun ok s' hc => by
      cases ok with
      | true =>
        simp only [if_true] at hc ⊢
        exact wpAny_mono hc (fun _ _ hc => CompEnd.mono hc fun n' hn => compRestT_inv J n step fin k (i + 1) _ n' (by omega) hn) fun _ _ e => e
      | false =>
        simp only [Bool.false_eq_true, if_false] at hc ⊢
        exact CompEnd.mono hc fun n' hn => compRestT_inv J n step fin k (i + 1) _ n' (by omega) hn) fun _ _ e => e
end
open PySem PySem.W PyProof.Rows
set_option linter.unusedVariables false
set_option maxRecDepth 100000
set_option maxHeartbeats 8000000
structure NumsIn (rest : Led) (nl : Addr) (vs : Array Value) (n : Nat) (k : Nat) : Prop where
  lst : (nl, listOf vs n) ∈ rest
  size : vs.size = k
  pos : 0 < k
  small : k ≤ 12
  num : ∀ (i : Nat) v, vs[i]? = some v → ∃ x t, v = .int x t ∧ 0 ≤ x ∧ x < 999983
def seqOk (q : Nat) : Prop := q = 1 ∨ q = 2 ∨ q = 3 ∨ q = 255 ∨ q = 1099511627776
def l8 (q k : Nat) : List Int := [(k : Int), ((q % 256 : Nat) : Int), 0, 0, 0, 0, ((q / 1099511627776 : Nat) : Int), 0]
theorem l8_tag (u : Array UInt8) {q k : Nat} (h : seqOk q) : u ++ byteArr (l8 q k) = ikb ⟨u, q, k⟩ := by
  unfold ikb IK.ints
  rw [byteArr_app, byteArr_bInts]
  have e : l8 q k = tagL q k := by rcases h with rfl | rfl | rfl | rfl | rfl <;> simp [l8, tagL]
  rw [e]
theorem l8_in {q k : Nat} (h : seqOk q) (hk : k ≤ 1) : KBa.In (l8 q k) := by
  intro n hn
  simp only [l8, List.mem_cons, List.not_mem_nil, or_false] at hn
  rcases h with rfl | rfl | rfl | rfl | rfl <;> omega
theorem l8_mod (q : Nat) : ((q : Int)).fmod 256 = ((q % 256 : Nat) : Int) := by rw [Int.fmod_eq_emod_of_nonneg _ (by decide)]; omega
theorem l8_div (q : Nat) : ((q : Int)).fdiv 1099511627776 = ((q / 1099511627776 : Nat) : Int) := by rw [Int.fdiv_eq_ediv_of_nonneg _ (by decide)]; omega
section
variable {w : World} {D D' : Nat} {F : FnC} {b : Bx} {m : Str → Option Value} {led rest : Led} {env : Env} {pos : Pos} {i j : Int} {l r e : Expr}
theorem px_fmod (h1 : Px w F b (eval l env) (IsI i) m led) (h2 : Px w F b (eval r env) (IsI j) m led) (hj : ¬ (j == 0) = true) : Px w F b (eval (.BinOp l .Mod r pos) env) (IsI (i.fmod j)) m led :=
  px_binop h1 h2 fun u v hu hv s Q E f N q => by obtain ⟨t, rfl⟩ := hu; obtain ⟨t', rfl⟩ := hv; exact PySem.AutoIntOps.mod_1 hj (q _ s.heap _ ⟨_, rfl⟩ f N)
theorem px_mod60 (h1 : Px w F b (eval l env) (IsI i) m led) (h2 : Px w F b (eval r env) (IsI j) m led) (hj : ¬ (j == 0) = true) (hz : j.natAbs < 1073741824) : Px w F b (eval (.BinOp l .FloorDiv r pos) env) (IsI (i.fdiv j)) m led := px_fdiv h1 h2 hj (by rw [PyProof.noPylong_small hz]; decide)
theorem px_mul (h1 : Px w F b (eval l env) (IsI i) m led) (h2 : Px w F b (eval r env) (IsI j) m led) (hm : IntMulOk i j) : Px w F b (eval (.BinOp l .Mult r pos) env) (IsI (i * j)) m led :=
  px_binop h1 h2 fun u v hu hv s Q E f N q => by obtain ⟨t, rfl⟩ := hu; obtain ⟨t', rfl⟩ := hv; exact mul_int (q _ s.heap _ ⟨_, rfl⟩ f N) hm
theorem pi_nil : Px w F b (spliced (backTo pos (starEach [] env))) (fun vs => IntsAre vs []) m led := fun s Q E f N q => args_nil (q [] s.heap s.toks .nil f N)
theorem pi_cons {es : List Expr} {ns : List Int} (h1 : Px w F b (eval e env) (IsI i) m led) (h2 : Px w F b (spliced (backTo pos (starEach es env))) (fun vs => IntsAre vs ns) m led) (he : starEach (e :: es) env = (false, eval e env) :: starEach es env) : Px w F b (spliced (backTo pos (starEach (e :: es) env))) (fun vs => IntsAre vs (i :: ns)) m led := fun s Q E f N q =>
  args_cons (h1 s _ E f N fun a h' tk' pa F' N' => h2 _ _ E F' N' fun vs h2' tk2' pvs F2' N2' => q (a :: vs) h2' tk2' (by obtain ⟨t, rfl⟩ := pa; exact .cons _ _ pvs) F2' N2') he
def IsD (v : Value) : Prop := ∃ z : Int, IsI z v ∧ 0 ≤ z ∧ z < 2000000
theorem draw_c {nl : Addr} {vs : Array Value} {n kk : Nat} {ti : Tok} (hn : NumsIn rest nl vs n kk) (h0 : 0 ≤ i) (h1 : i ≤ 20) : Calls w 1 657 [.ref nl, .int i ti] [] rest (fun r fp' => IsD r) := by
  have hsz := hn.size
  have hp := hn.pos
  have hs := hn.small
  have hb1 : 0 ≤ i.fmod (vs.size : Int) := Int.fmod_nonneg_of_pos _ (by omega)
  have hb2 : i.fmod (vs.size : Int) < (vs.size : Int) := Int.fmod_lt_of_pos _ (by omega)
  have hb3 : 0 ≤ i.fdiv (vs.size : Int) := Int.fdiv_nonneg h0 (by omega)
  have hb4 : i.fdiv (vs.size : Int) ≤ 20 := by
    have := Int.mul_fdiv_add_fmod i (vs.size : Int)
    have h5 : (i.fdiv (vs.size : Int)) ≤ (vs.size : Int) * i.fdiv (vs.size : Int) := by
      have : (1 : Int) * i.fdiv (vs.size : Int) ≤ (vs.size : Int) * i.fdiv (vs.size : Int) := Int.mul_le_mul_of_nonneg_right (by omega) hb3
      omega
    omega
  obtain ⟨x, t, hx, hx0, hx1⟩ : ∃ x t, vs[(i.fmod (vs.size : Int)).toNat]? = some (.int x t) ∧ 0 ≤ x ∧ x < 999983 := by
    have hlt : (i.fmod (vs.size : Int)).toNat < vs.size := by omega
    obtain ⟨x, t, e, a, b⟩ := hn.num _ _ (Array.getElem?_eq_getElem hlt)
    exact ⟨x, t, by rw [Array.getElem?_eq_getElem hlt, e], a, b⟩
  have hn0 : ¬ (((vs.size : Nat) : Int) == 0) = true := by rw [beq_iff_eq]; omega
  have hn1 : ((vs.size : Nat) : Int).natAbs < 1073741824 := by omega
  have hk63 : i.fmod (vs.size : Int) < 2 ^ 63 := by omega
  have hz63 : ((vs.size : Nat) : Int) < 2 ^ 63 := by omega
  refine' calls_ofG (binds := [("nums", .ref nl), ("i", .int i ti)]) ?ho ?hcd ?hb ?hl ?c1 ?c2 ?c3 ?c4 ?_
  fail "e"
  intro bb ok φ kφ
  exact sx_ret (px_add (Px.mono (px_item (k := i.fmod (vs.size : Int)) (px_name rfl rfl rfl rfl) (px_fmod (px_nameP ⟨_, rfl, _, rfl⟩ rfl rfl rfl) (px_len ok (px_name rfl rfl rfl rfl) (px_builtin ok (by fail "r") (by fail "r") (by decide) rfl rfl rfl) hn.lst hz63 rfl rfl) hn0) hn.lst hb1 hk63 hx fun _ => (by fail "r")) isI) (px_mul px_int (px_mod60 (px_nameP ⟨_, rfl, _, rfl⟩ rfl rfl rfl) (px_len ok (px_name rfl rfl rfl rfl) (px_builtin ok (by fail "r") (by fail "r") (by decide) rfl rfl rfl) hn.lst hz63 rfl rfl) hn0 hn1) (by mul_fits))) fun v hv => kφ (.ret v) _ [] ⟨_, hv, by omega, by omega⟩
theorem lik_c {u : Array UInt8} {q kd : Nat} {t0 t1 t2 : Tok} (hq : seqOk q) (hkd : kd ≤ 1) (hu : u.size ≤ 1000) : Calls w 1 664 [.bytes u t0, .int (q : Int) t1, .int (kd : Int) t2] [] rest (fun r _ => IsB (ikb ⟨u, q, kd⟩) r) := by
  rw [← l8_tag u hq]
  have hin := l8_in hq hkd
  unfold l8 at hin ⊢
  rw [← l8_mod, ← l8_div] at hin ⊢
  refine' calls_ofG (binds := [("user", .bytes u t0), ("seq", .int (q : Int) t1), ("kind", .int (kd : Int) t2)]) ?ho ?hcd ?hb ?hl ?c1 ?c2 ?c3 ?c4 ?_
  fail "e"
  intro bb ok φ kφ
  exact sx_ret (px_binop (P := IsB u) (Px.mono (px_name rfl rfl rfl rfl) fun v h => ⟨_, h⟩) (px_make (px_builtin ok (by fail "r") (by fail "r") (by decide) rfl rfl rfl) (pi_cons (px_nameP ⟨_, rfl, _, rfl⟩ rfl rfl rfl) (pi_cons (px_fmod (px_nameP ⟨_, rfl, _, rfl⟩ rfl rfl rfl) px_int (by decide)) (pi_cons px_int (pi_cons px_int (pi_cons px_int (pi_cons px_int (pi_cons (px_fdiv (px_nameP ⟨_, rfl, _, rfl⟩ rfl rfl rfl) px_int (by decide) (by rw [PyProof.noPylong_of_log2 (by decide +kernel)]; decide)) (pi_cons px_int pi_nil rfl) rfl) rfl) rfl) rfl) rfl) rfl) rfl) hin (by show 8 ≤ 1000; decide) rfl rfl) (op_addB (by rw [PySem.byteArr_size]; show u.size + 8 ≤ 16777216; omega))) fun v hv => kφ (.ret v) _ [] hv
end
end Mine
namespace Mine
open PySem PySem.W PyProof.Rows PySem.Spec
set_option maxRecDepth 100000
local macro_rules | `(tactic| omega) => `(tactic| lia)
set_option hygiene false in
local macro_rules | `(tactic| obtain $p:rcasesPatMed := $e) => `(tactic| (refine Mine.hide ?_; intro G0 hG0; rcases $e:term with $p:rcasesPatMed <;> (refine hG0 ?_; clear hG0 G0)))
set_option hygiene false in
local macro_rules | `(tactic| obtain $p:rcasesPatMed : $t := $e) => `(tactic| (refine Mine.hide ?_; intro G0 hG0; rcases ($e : $t) with $p:rcasesPatMed <;> (refine hG0 ?_; clear hG0 G0)))
set_option hygiene false in
local macro_rules | `(tactic| obtain rfl : $t := $e) => `(tactic| (rcases ($e : $t) with rfl))
/-! the law's own statements and names, read from the row (never typed) -/
def lastBody (l : List Stmt) : List Stmt := match l.getLast? with | some (.FunctionDef _ _ b _ _ _ _ _ _ _) => b | _ => []
def lastScope (l : List Stmt) : Scope := match l.getLast? with | some (.FunctionDef _ _ _ _ _ _ sc _ _ _) => sc | _ => default
def lawB : List Stmt := lastBody PySem.Challenge.pw_no0415_01.main.body
def lawSc : Scope := lastScope PySem.Challenge.pw_no0415_01.main.body
def lawTail (n : Nat) : List Stmt := lawB.drop n
def lawAt (n : Nat) : Stmt := (lawTail n).head!
def forBody : Stmt → List Stmt | .For _ _ b _ _ => b | _ => []
def forIter : Stmt → Expr | .For _ i _ _ _ => i | _ => default
def lawBody (n j : Nat) : Stmt := ((forBody (lawAt n)).drop j).head!
open PySem PySem.W PyProof.Rows PySem.Spec
set_option maxRecDepth 100000
/-! an item of a table at an open place: only what all items share is handed on -/
section
variable {prog : Program} {w : World} {A : Around} {E : Value → Shared → Prop} {s : Shared} {h₀ : Heap} {L : Addr} {news : Led}
theorem item_P (P : Value → Prop) {value slice : Expr} {l : Addr} {items : Array Value} {n : Nat} {k : Int} {u : Tok} {Q : Value → Shared → Prop} (N : News h₀ L s.heap news) (hm : (l, listOf items n) ∈ news)
    (h0 : 0 ≤ k) (h1 : k < (items.size : Int)) (hz : items.size ≤ 1000) (hall : ∀ v ∈ items.toList, P v) (h : ∀ v, P v → Q v s)
    (hs : subscripted slice false (.ref l) (.int k u) = operate [.ref l, .int k u] (getItem (.ref l) (.int k u)) := by with_unfolding_all rfl) :
    wpAny (model prog w) A (subscriptTail value slice (.ref l) (.int k u)) Q E s := by
  have hlt : k.toNat < items.size := by omega
  exact item_list N hm h0 (by omega) (Array.getElem?_eq_getElem hlt) (h _ (hall _ (Array.mem_toList_iff.mpr (Array.getElem_mem hlt)))) hs
end
def usersL : List (Array UInt8) := [#[], #[97], #[97, 0], #[98]]
def SeqV (v : Value) : Prop := ∃ (q : Nat) (t : Tok), v = .int (q : Int) t ∧ seqOk q
def TgtV (v : Value) : Prop := ∃ (b : Array UInt8) (t : Tok), v = .bytes b t ∧ b.size ≤ 8
def UsrV (v : Value) : Prop := ∃ (b : Array UInt8) (t : Tok), v = .bytes b t ∧ b ∈ usersL
def LimV (v : Value) : Prop := ∃ (z : Int) (t : Tok), v = .int z t ∧ 0 ≤ z ∧ z ≤ 1099511627776
def BndV (v : Value) : Prop := ∃ (o : Option (Array UInt8)) (t : Tok), v = bndV o t ∧ ∀ b, o = some b → b.size ≤ 8
theorem all_P1 {P : Value → Prop} {a : Value} {l : List Value} (h : P a) (g : ∀ v ∈ l, P v) : ∀ v ∈ a :: l, P v := fun v hv => by
  rcases List.mem_cons.mp hv with rfl | hv
  · exact h
  · exact g v hv
theorem seqV1 {t : Tok} : SeqV (.int 1 t) := ⟨1, t, rfl, by unfold seqOk; omega⟩
theorem seqV2 {t : Tok} : SeqV (.int 2 t) := ⟨2, t, rfl, by unfold seqOk; omega⟩
theorem seqV3 {t : Tok} : SeqV (.int 3 t) := ⟨3, t, rfl, by unfold seqOk; omega⟩
theorem seqV4 {t : Tok} : SeqV (.int 255 t) := ⟨255, t, rfl, by unfold seqOk; omega⟩
theorem seqV5 {t : Tok} : SeqV (.int 1099511627776 t) := ⟨1099511627776, t, rfl, by unfold seqOk; omega⟩
theorem limV {z : Int} {t : Tok} (h : 0 ≤ z) (g : z ≤ 1099511627776) : LimV (.int z t) := ⟨z, t, rfl, h, g⟩
theorem tgtV {b : Array UInt8} {t : Tok} (h : b.size ≤ 8) : TgtV (.bytes b t) := ⟨b, t, rfl, h⟩
theorem usrV {b : Array UInt8} {t : Tok} (h : b ∈ usersL) : UsrV (.bytes b t) := ⟨b, t, rfl, h⟩
theorem bndV0 : BndV .none := ⟨none, 0, rfl, fun _ h => nomatch h⟩
theorem bndV1 {b : Array UInt8} {t : Tok} (h : b.size ≤ 8) : BndV (.bytes b t) := ⟨some b, t, rfl, fun _ h' => by cases h'; exact h⟩
open PySem PySem.W PyProof.Rows PySem.SeqAt
set_option maxRecDepth 100000
/-! t[:b] of a tuple -/
section
variable {prog : Program} {w : World} {A : Around} {E : Value → Shared → Prop} {s : Shared}
theorem adjust_to (b n : Nat) (hb : b ≤ n) : Builtin.Slice.sliceAdjust none (some (b : Int)) 1 (n : Int) = ((0 : Int), (b : Int)) := by
  unfold Builtin.Slice.sliceAdjust
  have h1 : ¬ ((1 : Int) < 0) := by omega
  have h2 : ¬ ((b : Int) < 0) := by omega
  simp only [h1, h2, if_false]
  congr 1
  omega
theorem places_to (b : Nat) : Builtin.Slice.slicePlaces (0 : Int) (b : Int) 1 = b := by
  unfold Builtin.Slice.slicePlaces
  have h1 : (1 : Int) > 0 := by omega
  simp only [h1, if_true, Int.ediv_one]
  split <;> omega
theorem sliceApplied_to {sl : Addr} {b n : Nat} {u : Tok} {Q : Int × Int × Nat → Shared → Prop} (hs : s.heap.IsSliceOf sl .none (.int b u) .none) (hb : b ≤ n) (h : Q ((0 : Int), 1, b) s) :
    wpAny (model prog w) A (Builtin.Slice.sliceApplied (.ref sl) (pure (n : Int))) Q E s := by
  obtain ⟨os, hos, hcs, hds⟩ := id hs
  unfold Builtin.Slice.sliceApplied Builtin.Slice.sliceFields
  refine wpAny_bind (wpAny_bind (wpAny_field hos hds (x := .none) rfl (wpAny_bind (wpAny_field hos hds (x := .int b u) rfl (wpAny_bind (wpAny_field hos hds (x := .none) rfl (wpAny_pure ?_)))))))
  refine wpAny_bind (slicePart_none ?_)
  show wpAny _ _ (if ((1 : Int) == 0) = true then _ else _) _ _ s
  rw [if_neg (by decide)]
  refine wpAny_bind (slicePart_none (wpAny_bind (slicePart_int (wpAny_bind (wpAny_pure ?_)))))
  show wpAny _ _ (match Builtin.Slice.sliceAdjust none (some (b : Int)) 1 (n : Int) with | (lo, hi) => pure (lo, (1 : Int), Builtin.Slice.slicePlaces lo hi 1)) _ _ s
  rw [adjust_to b n hb]
  show wpAny _ _ (pure ((0 : Int), (1 : Int), Builtin.Slice.slicePlaces (0 : Int) (b : Int) 1)) _ _ s
  rw [places_to b]
  exact wpAny_pure h
theorem pick_to (xs : Array Value) (b : Nat) (hb : b ≤ xs.size) : ((List.range b).filterMap fun (k : Nat) => xs[((0 : Int) + (k : Int) * 1).toNat]?).toArray = (xs.toList.take b).toArray := by
  have e : (fun (k : Nat) => xs[((0 : Int) + (k : Int) * 1).toNat]?) = fun k => xs[k]? := by
    funext k
    have : ((0 : Int) + (k : Int) * 1).toNat = k := by omega
    rw [this]
  rw [e]
  congr 1
  induction b with
  | zero => rfl
  | succ b ih =>
    rw [List.range_succ, List.filterMap_append, ih (by omega)]
    have h1 : xs[b]? = some xs[b] := Array.getElem?_eq_getElem (by omega)
    rw [List.filterMap_cons, h1]
    show _ ++ [xs[b]] = _
    rw [List.take_add_one]
    congr 1
    rw [Array.getElem?_toList, h1]
    rfl
theorem getItem_tuple_to {t sl : Addr} {items : Array Value} {b : Nat} {u : Tok} {Q : Value → Shared → Prop} (ht : IsTup s.heap t items) (hs : s.heap.IsSliceOf sl .none (.int b u) .none) (hb : b < items.size)
    (h : Q (.ref s.heap.objs.size) { s with heap := s.heap.push { cls := .type "tuple", data := .seq (items.toList.take b).toArray } })
    (hsz : items.size ≤ sizeLine) : wpAny (model prog w) A (getItem (.ref t) (.ref sl)) Q E s := by
  have hdrop : sizeOk (.seq (items.toList.take b).toArray) := by
    show (items.toList.take b).toArray.size ≤ sizeLine
    rw [List.size_toArray, List.length_take, Array.length_toList]
    omega
  obtain ⟨os, hos, hcs, hds⟩ := id hs
  have hTs : s.TypeIs (.ref sl) "slice" := ⟨os, hos, hcs⟩
  unfold getItem
  try with_reducible refine wpAny_holding ?_
  first | refine wpAny_bind (wpAny_pure ?_) | skip
  refine wpAny_bind (wpAny_sequenceKey ht.typeIs (by decide) ?_)
  refine wpAny_bind (wpAny_callSpecial?_slot (name := Str.ofString "__getitem__") ht.typeIs slot_tuple_getitem
    (wpAny_call_entry slot_tuple_getitem ht.typeIs entry_tuple_getitem ?_ (args_tuple_getitem _ _)))
  show wpAny _ _ (Builtin.Tuple.tupleItemsOf (.ref t) >>= _) _ _ s
  refine wpAny_bind (tupleItemsOf_ ht ?_)
  refine wpAny_bind (wpAny_typeOf hTs ?_)
  rw [if_pos (by decide)]
  refine wpAny_bind (sliceApplied_to hs (Nat.le_of_lt hb) ?_)
  have hno : ¬ (((0 : Int) == 0 && (1 : Int) == 1 && b == items.size) = true) := by
    have : (b == items.size) = false := by rw [beq_eq_false_iff_ne]; omega
    rw [this]; simp
  show wpAny _ _ (if ((0 : Int) == 0 && (1 : Int) == 1 && b == items.size) = true then _ else _) _ _ s
  rw [if_neg hno, pick_to items b (Nat.le_of_lt hb)]
  first
    | exact wpAny_bind (m := Builtin.Tuple.tupleExact _) (wpAny_newObj_type (wpAny_pure ⟨_, rfl, wpAny_pure h⟩) hdrop)
    | exact wpAny_bind (m := Builtin.Tuple.tupleExact _) (wpAny_newObj_type (wpAny_bind (wpAny_pure (wpAny_pure ⟨_, rfl, wpAny_pure h⟩))) hdrop)
    | exact wpAny_bind (wpAny_bind (m := Builtin.Tuple.tupleExact _) (wpAny_newObj_type (wpAny_pure (wpAny_pure ⟨_, rfl, wpAny_pure h⟩)) hdrop))
    | exact wpAny_bind (wpAny_bind (m := Builtin.Tuple.tupleExact _) (wpAny_newObj_type (wpAny_pure ⟨_, rfl, wpAny_pure h⟩) hdrop))
end
section
variable {prog : Program} {w : World} {A : Around} {E : Value → Shared → Prop} {s : Shared} {h₀ : Heap} {L : Addr} {m : Str → Option Value} {news : List (Addr × Obj)}
theorem slice_tup {value slice : Expr} {t : Addr} {vs zs : List Value} {b : Int} {u : Tok} {n : Nat} {Q : Value → Shared → Prop}
    (F : Fr h₀ L s.heap m) (N : News h₀ L s.heap news) (hm : (t, tupObj vs n) ∈ news) (h0 : 0 ≤ b) (hb : b < (vs.length : Int)) (hz : vs.length ≤ 1000) (e : vs.take b.toNat = zs)
    (h : ∀ D h', Fr h₀ L h' m → News h₀ L h' ((D, tupObj zs 0) :: news) → (∀ p ∈ news, p.1 < D) → Q (.ref D) { s with heap := h' })
    (hs : subscripted slice false (.ref t) (.ref s.heap.objs.size) = operate [.ref s.heap.objs.size, .ref t] (getItem (.ref t) (.ref s.heap.objs.size)) := by with_unfolding_all rfl)
    (hg : ∀ r, letTemporaryGo value (.ref t) r = pure () := by intro _; with_unfolding_all rfl) :
    wpAny (model prog w) A (subscriptTail value slice (.ref t) (.ref s.heap.objs.size)) Q E { s with heap := s.heap.push { cls := .type "slice", data := .fields #[.none, .int b u, .none] } } := by
  obtain ⟨b, rfl⟩ := Int.eq_ofNat_of_zero_le h0
  have ht : IsTup s.heap t vs.toArray := ⟨_, (N _ hm).1, rfl, n, rfl⟩
  have ht' : IsTup (s.heap.push { cls := .type "slice", data := .fields #[.none, .int b u, .none] }) t vs.toArray := ht.keeps fun _ _ e => Heap.get?_push_of_some _ e
  refine subscriptTail_ops (s := { s with heap := s.heap.push { cls := .type "slice", data := .fields #[.none, .int b u, .none] } }) ht'.typeIs slot_tuple_getitem.lookup
    (getItem_tuple_to ht' (Heap.IsSliceOf.new ..) (by rw [List.size_toArray]; omega) ?_ (by rw [List.size_toArray, sizeLine_eq]; omega)) hs hg
  have N1 := News.push (F.push { cls := .type "slice", data := .fields #[.none, .int b u, .none] }) (N.grown fun _ _ e => Heap.get?_push_of_some _ e) (tupObj zs 0)
  rw [Heap.size_push] at N1
  have ez : vs.toArray.toList.take b = zs := e
  rw [ez]
  show Q (.ref (s.heap.push _).objs.size) _
  rw [Heap.size_push]
  exact h _ _ ((F.push _).push _) N1 fun p hp => Nat.lt_succ_of_lt (Heap.lt_size (N p hp).1)
theorem add_tup {t b : Addr} {vs ws : List Value} {n k : Nat} {Q : Value → Shared → Prop} (F : Fr h₀ L s.heap m) (N : News h₀ L s.heap news) (hm : (t, tupObj vs n) ∈ news) (hb : (b, tupObj ws k) ∈ news) (hv : vs ≠ []) (hw : ws ≠ []) (hz : vs.length + ws.length ≤ 16384)
    (h : ∀ D h', Fr h₀ L h' m → News h₀ L h' ((D, tupObj (vs ++ ws) 0) :: news) → (∀ p ∈ news, p.1 < D) → Q (.ref D) { s with heap := h' }) : wpAny (model prog w) A (binaryOp .Add (.ref t) (.ref b)) Q E s :=
  kde_addT (its := vs.toArray) (its2 := ws.toArray) F N ⟨_, (N _ hm).1, rfl, n, rfl⟩ ⟨_, (N _ hb).1, rfl, k, rfl⟩ hv hw hz rfl h
open Classical in
theorem notin_tups {l x : Addr} {items : Array Value} {k n : Nat} {ws : List Value} {es : List FD} {Q : Value → Shared → Prop} (N : News h₀ L s.heap news) (hl : (l, listOf items k) ∈ news) (hx : (x, tupObj ws n) ∈ news) (Fx : FAll ws es) (hu : A.in1.units < cLine)
    (he : ∀ y ∈ items, ∃ a vs ds n, y = .ref a ∧ a ≠ x ∧ (a, tupObj vs n) ∈ news ∧ FAll vs ds ∧ kindsAll ds es) (h : ∀ b : Bool, (items.size = 0 → b = true) → Q (.bool b) s) : wpAny (model prog w) A (compareOp .NotIn (.ref x) (.ref l)) Q E s := by
  refine notIn_listAt (fun y => if h : ∃ b, EqAt A.in1 s y (.ref x) b then h.choose else false) (News.isList N hl) (fun y hy => ?_) (h _ fun h0 => ?_)
  · obtain ⟨a, vs, ds, n', rfl, hne, hm, hf, hk⟩ := he y hy
    have hex : ∃ b, EqAt A.in1 s (.ref a) (.ref x) b := ⟨_, EqAt.of_refs hne (rc_tuples N hm hx hf Fx hk hu)⟩
    simp only [hex, dif_pos]
    exact hex.choose_spec
  · have : items = #[] := Array.eq_empty_of_size_eq_zero h0
    subst this
    simp
end
open PySem PySem.W PyProof.Rows PySem.Spec
/-! the law's entries: plain law -/
structure Ent where
  u : Array UInt8
  q : Nat
  k : Nat
  c : Nat
  v : Array UInt8
def Ent.fd (e : Ent) : List FD := [.b e.u, .i (0 - (e.q : Int)), .i (0 - (e.k : Int)), .i (e.c : Int), .b e.v]
def Ent.row (e : Ent) : Row := (⟨e.u, e.q, e.k⟩, e.v)
def Ent.z (e : Ent) : Row × Nat := (e.row, e.c)
structure Ent.Ok (n : Nat) (e : Ent) : Prop where
  u : e.u ∈ usersL
  q : seqOk e.q
  k : e.k ≤ 1
  c : e.c < n
  v : e.v.size ≤ 8
theorem ent_lt {a b : Ent} (ha : a.k ≤ 1) (hb : b.k ≤ 1) (h : ltL a.fd b.fd = true) : Zord a.z b.z := by
  unfold Ent.fd at h
  simp only [ltL, ltFD, FD.b.injEq, FD.i.injEq] at h
  unfold Zord
  rw [cmpI_lt, cmpI_eq]
  show (ltB a.u b.u = true ∨ (a.u = b.u ∧ (b.q : Int) * 256 + b.k < (a.q : Int) * 256 + a.k)) ∨ ((a.u = b.u ∧ (a.q : Int) * 256 + a.k = (b.q : Int) * 256 + b.k) ∧ a.c ≤ b.c)
  by_cases e1 : a.u = b.u
  · rw [if_pos e1] at h
    by_cases e2 : (0 : Int) - a.q = 0 - b.q
    · rw [if_pos e2] at h
      by_cases e3 : (0 : Int) - a.k = 0 - b.k
      · rw [if_pos e3] at h
        by_cases e4 : (a.c : Int) = b.c
        · exact .inr ⟨⟨e1, by omega⟩, by omega⟩
        · rw [if_neg e4] at h
          have := of_decide_eq_true h
          exact .inr ⟨⟨e1, by omega⟩, by omega⟩
      · rw [if_neg e3] at h
        have := of_decide_eq_true h
        exact .inl (.inr ⟨e1, by omega⟩)
    · rw [if_neg e2] at h
      have := of_decide_eq_true h
      exact .inl (.inr ⟨e1, by omega⟩)
  · rw [if_neg e1] at h
    exact .inl (.inl h)
def cut3 (e : Ent) : List FD := [.b e.u, .i (0 - (e.q : Int)), .i (0 - (e.k : Int))]
theorem cut_lt {e : Ent} {t : Array UInt8} {s : Nat} (hk : e.k ≤ 1) : ltL (cut3 e) [.b t, .i (0 - (s : Int)), .i (-1)] = decide (cmpI e.row.1 ⟨t, s, 1⟩ < 0) := by
  unfold cut3
  simp only [ltL, ltFD, FD.b.injEq, FD.i.injEq]
  have e0 : (cmpI e.row.1 ⟨t, s, 1⟩ < 0) ↔ (ltB e.u t = true ∨ (e.u = t ∧ (s : Int) * 256 + (1 : Nat) < (e.q : Int) * 256 + e.k)) := cmpI_lt _ _
  rw [Bool.eq_iff_iff, decide_eq_true_iff, e0]
  by_cases e1 : e.u = t
  · subst e1
    simp only [if_true, ltB_irrefl, Bool.false_eq_true, false_or, true_and]
    by_cases e2 : (0 : Int) - e.q = 0 - s
    · rw [if_pos e2]
      by_cases e3 : (0 : Int) - e.k = -1
      · rw [if_pos e3]
        constructor
        · intro h; cases h
        · intro h; omega
      · rw [if_neg e3, decide_eq_true_iff]
        omega
    · rw [if_neg e2, decide_eq_true_iff]
      omega
  · rw [if_neg e1]
    constructor
    · intro h; exact .inl h
    · rintro (h | ⟨h, _⟩)
      · exact h
      · exact absurd h e1
theorem filter_tw {α : Type} {p : α → Bool} : ∀ {l : List α}, (l.Pairwise fun a b => p b = true → p a = true) → l.countP p = (l.takeWhile p).length
  | [], _ => rfl
  | a :: l, h => by
    rw [List.pairwise_cons] at h
    cases e : p a with
    | true => rw [List.countP_cons_of_pos e, List.takeWhile_cons_of_pos e, List.length_cons, filter_tw h.2]
    | false =>
      rw [List.countP_cons_of_neg (by simp [e]), List.takeWhile_cons_of_neg (by simp [e])]
      show _ = 0
      rw [List.countP_eq_zero]
      intro b hb hp
      have := h.1 b hb hp
      rw [e] at this
      cases this
theorem count_lt {R : List Row} (hs : SortedR R) (e : IK) : R.countP (fun x => decide (cmpI x.1 e < 0)) = ltLen R e := by
  refine filter_tw (hs.imp fun {a b} h g => ?_)
  exact decide_eq_true (cmpI_trans_lt h (of_decide_eq_true g))
theorem seekAt_place (R : List Row) (e : IK) : seekAt R e = placeP R.length (ltLen R e : Int) := by
  show (if ltLen R e < R.length then some (ltLen R e) else none) = _
  unfold placeP
  by_cases h : ltLen R e < R.length
  · rw [if_pos h, if_pos ⟨by omega, by omega⟩]; rfl
  · rw [if_neg h, if_neg (by omega)]
theorem firstP_place (n : Nat) : firstP n = placeP n 0 := by
  unfold firstP placeP
  by_cases h : 0 < n
  · rw [if_pos h, if_pos ⟨by omega, by omega⟩]; rfl
  · rw [if_neg h, if_neg (by omega)]
theorem lastP_place (n : Nat) : befOf n = placeP n ((n : Int) - 1) := by
  unfold befOf placeP
  by_cases h : n = 0
  · rw [if_pos h, if_neg (by omega)]
  · rw [if_neg h, if_pos ⟨by omega, by omega⟩]; congr 1; omega
theorem nextP_place {n p : Nat} (h : p < n) : nextP n p = placeP n ((p : Int) + 1) := by
  unfold nextP placeP
  by_cases h : p + 1 < n
  · rw [if_pos h, if_pos ⟨by omega, by omega⟩]; rfl
  · rw [if_neg h, if_neg (by omega)]
theorem backP_place {n p : Nat} (h : p < n) : befOf p = placeP n ((p : Int) - 1) := by
  unfold befOf placeP
  by_cases h : p = 0
  · rw [if_pos h, if_neg (by omega)]
  · rw [if_neg h, if_pos ⟨by omega, by omega⟩]; congr 1; omega
theorem noneP_place (n : Nat) : (none : Option Nat) = placeP n (-1) := by
  unfold placeP
  rw [if_neg (by omega)]
/-! what a user is told, as the law says it -/
def seenOne (ents : List Ent) (upto : Int) (lo hi : Option (Array UInt8)) (u : Array UInt8) : List RowB :=
  if underLo lo u then [] else if pastHi hi u then [] else
  match (ents.filter fun e => e.u == u && decide ((e.q : Int) ≤ upto)).head? with
  | some e => if e.k = 1 then [(u, e.v)] else []
  | none => []
theorem seenOne_key {ents : List Ent} {upto : Int} {lo hi : Option (Array UInt8)} {u : Array UInt8} {r : RowB} (h : r ∈ seenOne ents upto lo hi u) : r.1 = u := by
  unfold seenOne at h
  split at h
  · cases h
  · split at h
    · cases h
    · split at h
      · split at h
        · rw [List.mem_singleton.mp h]
        · cases h
      · cases h
theorem seenOne_pw {ents : List Ent} {upto : Int} {lo hi : Option (Array UInt8)} {u : Array UInt8} : (seenOne ents upto lo hi u).Pairwise fun a b => ltB a.1 b.1 = true := by
  unfold seenOne
  split
  · exact .nil
  · split
    · exact .nil
    · split
      · split
        · exact List.pairwise_singleton _ _
        · exact .nil
      · exact .nil
theorem seen_pw {ents : List Ent} {upto : Int} {lo hi : Option (Array UInt8)} : ∀ {us : List (Array UInt8)}, (us.Pairwise fun a b => ltB a b = true) → (us.flatMap (seenOne ents upto lo hi)).Pairwise fun a b => ltB a.1 b.1 = true
  | [], _ => .nil
  | u :: us, h => by
    rw [List.pairwise_cons] at h
    rw [List.flatMap_cons, List.pairwise_append]
    refine ⟨seenOne_pw, seen_pw h.2, fun a ha b hb => ?_⟩
    obtain ⟨u', hu', hb⟩ := List.mem_flatMap.mp hb
    rw [seenOne_key ha, seenOne_key hb]
    exact h.1 u' hu'
theorem usersL_pw : usersL.Pairwise fun a b => ltB a b = true := by decide
theorem same_lists {α : Type} {lt : α → α → Prop} (irr : ∀ a, ¬ lt a a) (asy : ∀ a b, lt a b → ¬ lt b a) : ∀ {l1 l2 : List α}, l1.Pairwise lt → l2.Pairwise lt → (∀ x, x ∈ l1 ↔ x ∈ l2) → l1 = l2
  | [], [], _, _, _ => rfl
  | [], b :: t, _, _, h => by have := (h b).mpr (.head _); cases this
  | a :: t, [], _, _, h => by have := (h a).mp (.head _); cases this
  | a :: t1, b :: t2, h1, h2, h => by
    rw [List.pairwise_cons] at h1 h2
    have e : a = b := by
      rcases List.mem_cons.mp ((h a).mp (.head _)) with e | ha
      · exact e
      · rcases List.mem_cons.mp ((h b).mpr (.head _)) with e | hb
        · exact e.symm
        · exact absurd (h1.1 b hb) (asy _ _ (h2.1 a ha))
    subst e
    rw [same_lists irr asy h1.2 h2.2 fun x => ⟨fun hx => ?_, fun hx => ?_⟩]
    · rcases List.mem_cons.mp ((h x).mp (.tail _ hx)) with rfl | hx'
      · exact absurd (h1.1 x hx) (irr x)
      · exact hx'
    · rcases List.mem_cons.mp ((h x).mpr (.tail _ hx)) with rfl | hx'
      · exact absurd (h2.1 x hx) (irr x)
      · exact hx'
theorem row_seq {e : Ent} (hk : e.k ≤ 1) : e.row.1.seq = (e.q : Int) := by
  show ((e.q : Int) * 256 + (e.k : Int)) / 256 = e.q
  omega
theorem row_kind {e : Ent} (hk : e.k ≤ 1) : e.row.1.kind = (e.k : Int) := by
  show ((e.q : Int) * 256 + (e.k : Int)) % 256 = e.k
  omega
theorem filter_first {α : Type} {p : α → Bool} : ∀ {l : List α} {x : α}, (l.filter p).head? = some x ↔ ∃ i, l[i]? = some x ∧ p x = true ∧ ∀ (j : Nat) y, j < i → l[j]? = some y → p y = false
  | [], x => by
    constructor
    · intro h; cases h
    · rintro ⟨i, h, _⟩; simp at h
  | a :: l, x => by
    cases e : p a with
    | true =>
      rw [List.filter_cons_of_pos e]
      constructor
      · intro h
        cases h
        exact ⟨0, rfl, e, fun j y hj => absurd hj (Nat.not_lt_zero _)⟩
      · intro hx1
        obtain ⟨i, h1, h2, h3⟩ := hx1
        cases i with
        | zero => cases h1; rfl
        | succ i => have := h3 0 a (Nat.succ_pos _) rfl; rw [e] at this; cases this
    | false =>
      rw [List.filter_cons_of_neg (by simp [e]), filter_first]
      constructor
      · intro hx2
        obtain ⟨i, h1, h2, h3⟩ := hx2
        refine ⟨i + 1, h1, h2, fun j y hj hy => ?_⟩
        cases j with
        | zero => cases hy; exact e
        | succ j => exact h3 j y (by omega) hy
      · intro hx3
        obtain ⟨i, h1, h2, h3⟩ := hx3
        cases i with
        | zero => cases h1; rw [e] at h2; cases h2
        | succ i => exact ⟨i, h1, h2, fun j y hj hy => h3 (j + 1) y (by omega) hy⟩
theorem told_pw {R : List Row} {upto : Int} {lo hi : Option (Array UInt8)} (hs : SortedR R) : (toldRows R upto lo hi).Pairwise fun a b => ltB a.1 b.1 = true := by
  unfold toldRows
  rw [List.pairwise_map]
  refine List.Pairwise.imp_of_mem (R := fun (a b : Nat) => a < b) (fun {i j} hi hj hlt => ?_) toldL_sorted
  obtain ⟨x, hx⟩ := mem_toldL.mp hi
  obtain ⟨y, hy⟩ := mem_toldL.mp hj
  rw [savedK_some hx.here, savedK_some hy.here]
  have h1 := user_at hs hx.here hy.here (Nat.le_of_lt hlt)
  cases e : ltB x.1.u y.1.u with
  | true => rfl
  | false => exact absurd hx.vis (hy.newest i x hlt hx.here (ltB_conn e h1))
theorem seen_told {ents : List Ent} {upto : Int} {lo hi : Option (Array UInt8)} (hs : SortedR (ents.map Ent.row)) (hu : ∀ e ∈ ents, e.u ∈ usersL) (hk : ∀ e ∈ ents, e.k ≤ 1) :
    usersL.flatMap (seenOne ents upto lo hi) = toldRows (ents.map Ent.row) upto lo hi := by
  refine same_lists (lt := fun a b : RowB => ltB a.1 b.1 = true) (fun a h => by rw [ltB_irrefl] at h; cases h) (fun a b h g => by rw [ltB_asymm h] at g; cases g) (seen_pw usersL_pw) (told_pw hs) fun r => ?_
  unfold toldRows
  rw [List.mem_flatMap, List.mem_map]
  constructor
  · intro hx4
    obtain ⟨u, hu1, hr⟩ := hx4
    unfold seenOne at hr
    split at hr
    · cases hr
    · rename_i hlo
      split at hr
      · cases hr
      · rename_i hhi
        split at hr
        · rename_i e he
          split at hr
          · rename_i hk1
            obtain ⟨i, h1, h2, h3⟩ := filter_first.mp he
            have hm := List.mem_of_getElem? h1
            have hke := hk e hm
            have h2' : e.u = u ∧ (e.q : Int) ≤ upto := by simpa using h2
            have hx : (ents.map Ent.row)[i]? = some e.row := by rw [List.getElem?_map, h1]; rfl
            rw [List.mem_singleton.mp hr]
            refine ⟨i, mem_toldL.mpr ⟨e.row, hx, by rw [row_seq hke]; exact h2'.2, by rw [row_kind hke]; omega, ?_, ?_, fun i' y hi' hy hyu => ?_⟩, ?_⟩
            · show underLo lo e.u = false
              rw [h2'.1]; simpa using hlo
            · show pastHi hi e.u = false
              rw [h2'.1]; simpa using hhi
            · rw [List.getElem?_map] at hy
              obtain ⟨f, hf, rfl⟩ := Option.map_eq_some_iff.mp hy
              have h4 := h3 i' f hi' hf
              rw [row_seq (hk f (List.mem_of_getElem? hf))]
              intro h5
              have : (f.u == u && decide ((f.q : Int) ≤ upto)) = true := by
                have : f.u = u := by rw [← h2'.1]; exact hyu
                simp [this, h5]
              rw [this] at h4; cases h4
            · rw [savedK_some hx, savedV_some hx]
              show (e.u, e.v) = _
              rw [h2'.1]
          · cases hr
        · cases hr
  · intro hx5
    obtain ⟨i, hi1, rfl⟩ := hx5
    obtain ⟨x, hx⟩ := mem_toldL.mp hi1
    have hx1 := hx.here
    rw [List.getElem?_map] at hx1
    obtain ⟨e, he, rfl⟩ := Option.map_eq_some_iff.mp hx1
    have hm := List.mem_of_getElem? he
    have hke := hk e hm
    refine ⟨e.u, hu e hm, ?_⟩
    rw [savedK_some hx.here, savedV_some hx.here]
    unfold seenOne
    rw [show underLo lo e.u = false from hx.low, show pastHi hi e.u = false from hx.high]
    have : (ents.filter fun f => f.u == e.u && decide ((f.q : Int) ≤ upto)).head? = some e := by
      refine filter_first.mpr ⟨i, he, ?_, fun j f hj hf => ?_⟩
      · have := hx.vis
        rw [row_seq hke] at this
        simp [this]
      · have h4 := hx.newest j f.row hj (by rw [List.getElem?_map, hf]; rfl)
        cases h5 : (f.u == e.u && decide ((f.q : Int) ≤ upto)) with
        | false => rfl
        | true =>
          have h5' : f.u = e.u ∧ (f.q : Int) ≤ upto := by simpa using h5
          exact absurd (by rw [row_seq (hk f (List.mem_of_getElem? hf))]; exact h5'.2) (h4 h5'.1)
    rw [this]
    have hp := hx.put
    rw [row_kind hke] at hp
    have : e.k = 1 := by omega
    simp only [this, if_true, Bool.false_eq_true, if_false]
    exact List.mem_singleton.mpr rfl
theorem ents_pw {ents : List Ent} (h : ents.Pairwise fun a b => ltL a.fd b.fd = true) (hk : ∀ e ∈ ents, e.k ≤ 1) : (ents.map Ent.z).Pairwise Zord := by
  rw [List.pairwise_map]
  exact List.Pairwise.imp_of_mem (fun {a b} ha hb g => ent_lt (hk a ha) (hk b hb) g) h
theorem ents_sorted {ents : List Ent} (h : ents.Pairwise fun a b => ltL a.fd b.fd = true) (hk : ∀ e ∈ ents, e.k ≤ 1) : SortedR (ents.map Ent.row) := by
  unfold SortedR
  rw [List.pairwise_map]
  exact List.Pairwise.imp_of_mem (fun {a b} ha hb g => Zord.le (ent_lt (hk a ha) (hk b hb) g)) h
theorem placeT_place (T : List Nat) (c : Nat) : placeT T c = placeP T.length (c : Int) := by
  unfold placeT placeP
  by_cases h : c < T.length
  · rw [if_pos h, if_pos ⟨by omega, by omega⟩]; rfl
  · rw [if_neg h, if_neg (by omega)]
theorem told_count (R : List Row) (upto : Int) (lo hi : Option (Array UInt8)) (t : Array UInt8) : (toldL R upto lo hi).countP (fun k => ltB (userAt R k) t) = (toldRows R upto lo hi).countP fun r => ltB r.1 t := by
  unfold toldRows
  rw [List.countP_map]
  rfl
theorem ents_count {ents : List Ent} (hs : SortedR (ents.map Ent.row)) (hk : ∀ e ∈ ents, e.k ≤ 1) (t : Array UInt8) (s : Nat) : ents.countP (fun e => ltL (cut3 e) [.b t, .i (0 - (s : Int)), .i (-1)]) = ltLen (ents.map Ent.row) ⟨t, s, 1⟩ := by
  rw [← count_lt hs, List.countP_map]
  refine List.countP_congr fun e he => ?_
  rw [cut_lt (hk e he)]
  rfl
open PySem PySem.W PyProof.Rows PySem.Spec
set_option maxRecDepth 100000
/-! the law's entries on the ledger -/
structure EntsIn (led : Led) (vs : Array Value) (ents : List Ent) : Prop where
  size : vs.size = ents.length
  at' : ∀ (i : Nat) e, ents[i]? = some e → ∃ a xs k, vs[i]? = some (.ref a) ∧ (a, tupObj xs k) ∈ led ∧ FAll xs e.fd
theorem EntsIn.mono {led led' : Led} {vs : Array Value} {ents : List Ent} (h : EntsIn led vs ents) (hs : ∀ p ∈ led, p ∈ led') : EntsIn led' vs ents :=
  ⟨h.size, fun i e he => by obtain ⟨a, xs, k, h1, h2, h3⟩ := h.at' i e he; exact ⟨a, xs, k, h1, hs _ h2, h3⟩⟩
theorem EntsIn.nil {led : Led} : EntsIn led #[] [] := ⟨rfl, fun i e he => by simp at he⟩
theorem EntsIn.push {led : Led} {vs : Array Value} {ents : List Ent} {e : Ent} {a : Addr} {xs : List Value} {k : Nat} (h : EntsIn led vs ents) (hm : (a, tupObj xs k) ∈ led) (hf : FAll xs e.fd) : EntsIn led (vs.push (.ref a)) (ents ++ [e]) := by
  have hz := h.size
  refine ⟨by simp [hz], fun i e' he => ?_⟩
  by_cases hi : i < ents.length
  · rw [List.getElem?_append_left hi] at he
    obtain ⟨a', xs', k', h1, h2, h3⟩ := h.at' i e' he
    refine ⟨a', xs', k', ?_, h2, h3⟩
    rw [Array.getElem?_push_lt (by omega), ← h1, Array.getElem?_eq_getElem (by omega)]
  · rw [List.getElem?_append_right (by omega)] at he
    have hi2 : i = ents.length := by
      by_cases h0 : i - ents.length = 0
      · omega
      · rw [List.getElem?_eq_none (by simp; omega)] at he; cases he
    subst hi2
    simp at he
    subst he
    refine ⟨a, xs, k, ?_, hm, hf⟩
    rw [← hz]; simp
theorem FAll_c {xs : List Value} {d : FD} {ds : List FD} (h : FAll xs (d :: ds)) : ∃ x r, xs = x :: r ∧ FIs x d ∧ FAll r ds := by
  cases xs with
  | nil => exact h.elim
  | cons x r => exact ⟨x, r, rfl, h.1, h.2⟩
theorem FAll_ent {xs : List Value} {e : Ent} (h : FAll xs e.fd) : ∃ t1 t2 t3 t4 t5, xs = [.bytes e.u t1, .int (0 - (e.q : Int)) t2, .int (0 - (e.k : Int)) t3, .int (e.c : Int) t4, .bytes e.v t5] := by
  obtain ⟨_, _, rfl, ⟨t1, rfl⟩, h1⟩ := FAll_c h
  obtain ⟨_, _, rfl, ⟨t2, rfl⟩, h2⟩ := FAll_c h1
  obtain ⟨_, _, rfl, ⟨t3, rfl⟩, h3⟩ := FAll_c h2
  obtain ⟨_, _, rfl, ⟨t4, rfl⟩, h4⟩ := FAll_c h3
  obtain ⟨_, r, rfl, ⟨t5, rfl⟩, h5⟩ := FAll_c h4
  cases r with
  | nil => exact ⟨t1, t2, t3, t4, t5, rfl⟩
  | cons _ _ => exact h5.elim
theorem FAll_of {e : Ent} {t1 t2 t3 t4 t5 : Tok} : FAll [.bytes e.u t1, .int (0 - (e.q : Int)) t2, .int (0 - (e.k : Int)) t3, .int (e.c : Int) t4, .bytes e.v t5] e.fd :=
  ⟨⟨_, rfl⟩, ⟨_, rfl⟩, ⟨_, rfl⟩, ⟨_, rfl⟩, ⟨_, rfl⟩, trivial⟩
theorem kinds_ent (a b : Ent) : kindsAll a.fd b.fd := ⟨trivial, trivial, trivial, trivial, trivial, trivial⟩
section
variable {prog : Program} {w : World} {A : Around} {E : Value → Shared → Prop} {s : Shared} {h₀ : Heap} {L l : Addr} {m : Str → Option Value} {news : Led} {Q : Value → Shared → Prop}
theorem sorted_ents {vs : Array Value} {n : Nat} {ents : List Ent} (F : Fr h₀ L s.heap m) (N : News h₀ L s.heap news) (hl : (l, listOf vs n) ∈ news) (he : EntsIn news vs ents) (h1 : 1 ≤ ents.length) (h5 : ents.length ≤ 5) (hd : ents.Pairwise fun a b => a.v ≠ b.v)
    (k : ∀ D c h' vs' ents', ents'.length = ents.length → (∀ e ∈ ents', e ∈ ents) → ents'.Pairwise (fun a b => ltL a.fd b.fd = true) → EntsIn news vs' ents' → (∀ q ∈ news, q.1 < D) → Fr h₀ L h' m → News h₀ L h' ((D, listOf vs' c) :: news) → Q (.ref D) { s with heap := h' }) :
    wpAny (model prog w) A (call (.builtin "sorted") [.ref l]) Q E s := by
  have hz := he.size
  by_cases h2 : ents.length = 1
  · obtain ⟨e, rfl⟩ : ∃ e, ents = [e] := by
      match ents, h2 with
      | [e], _ => exact ⟨e, rfl⟩
    obtain ⟨a, xs, k', g1, g2, g3⟩ := he.at' 0 e rfl
    have hv : vs = [Value.ref a].toArray := by
      apply Array.ext
      · simpa using hz
      · intro i h1 h2
        have : i = 0 := by simpa using h2
        subst this
        rw [Array.getElem?_eq_getElem h1] at g1
        simpa using g1
    subst hv
    refine sorted_one F N hl fun D c h' hlt F' N' => k D c h' _ [e] rfl (fun _ h => h) (List.pairwise_singleton _ _) he hlt F' N'
  · have hzl : vs.toList.length = ents.length := by simpa using hz
    refine sorted_tuples (vs := vs.toList) F N (by simpa using hl) (by omega) (by omega) (fun i => (ents.getD i ⟨#[], 1, 0, 0, #[]⟩).fd) (fun i v hv => ?_) (fun i j _ _ => kinds_ent _ _) (fun i _ => ⟨_, _, rfl⟩) (fun i j hi hj hij e => ?_) fun D c h' p p1 p2 p3 p4 F' N' => ?_
    · have hi : i < vs.toList.length := (List.getElem?_eq_some_iff.mp hv).1
      have hi2 : i < ents.length := by omega
      obtain ⟨a, xs, k', g1, g2, g3⟩ := he.at' i _ (List.getElem?_eq_getElem hi2)
      have : v = .ref a := by
        rw [Array.getElem?_toList, g1] at hv
        exact (Option.some.inj hv).symm
      refine ⟨a, xs, k', this, g2, ?_⟩
      show FAll xs (ents.getD i _).fd
      rw [List.getD_eq_getElem?_getD, List.getElem?_eq_getElem hi2]
      exact g3
    · have hi2 : i < ents.length := by omega
      have hj2 : j < ents.length := by omega
      simp only [List.getD_eq_getElem?_getD, List.getElem?_eq_getElem hi2, List.getElem?_eq_getElem hj2, Option.getD_some] at e
      have ev : ents[i].v = ents[j].v := by
        unfold Ent.fd at e
        injection e with _ e
        injection e with _ e
        injection e with _ e
        injection e with _ e
        injection e with e _
        injection e
      rw [List.pairwise_iff_getElem] at hd
      rcases Nat.lt_or_gt_of_ne hij with h | h
      · exact hd i j hi2 hj2 h ev
      · exact hd j i hj2 hi2 h ev.symm
    · refine k D c h' (p.map fun i => vs.toList.getD i .none).toArray (p.map fun i => ents.getD i ⟨#[], 1, 0, 0, #[]⟩) (by rw [List.length_map, p1]; exact hzl) (fun e hm => ?_) (List.pairwise_map.mpr p3) ⟨by simp, fun i e hi => ?_⟩ p4 F' N'
      · obtain ⟨i, hi, rfl⟩ := List.mem_map.mp hm
        have hi2 : i < ents.length := by have := p2 i hi; omega
        simp only [List.getD_eq_getElem?_getD, List.getElem?_eq_getElem hi2, Option.getD_some]
        exact List.getElem_mem hi2
      · rw [List.getElem?_map] at hi
        obtain ⟨j, hj, rfl⟩ := Option.map_eq_some_iff.mp hi
        have hj2 : j < ents.length := by have := p2 j (List.mem_of_getElem? hj); omega
        obtain ⟨a, xs, k', g1, g2, g3⟩ := he.at' j _ (List.getElem?_eq_getElem hj2)
        refine ⟨a, xs, k', ?_, g2, ?_⟩
        · rw [List.getElem?_toArray, List.getElem?_map, hj]
          show some (vs.toList.getD j .none) = _
          rw [List.getD_eq_getElem?_getD, Array.getElem?_toList, g1]
          rfl
        · simp only [List.getD_eq_getElem?_getD, List.getElem?_eq_getElem hj2, Option.getD_some]
          exact g3
end
end Mine
namespace Mine
local macro_rules | `(tactic| fail "r") => `(tactic| with_unfolding_all rfl)
set_option hygiene false in
local macro_rules | `(tactic| fail "e") => `(tactic| ((case ho => with_unfolding_all rfl); (case hcd => with_unfolding_all rfl); (case hb => exact fun s => BindsTo.of_eq rfl); (case hl => exact locs rfl); (case c1 => rfl); (case c2 => rfl); (case c3 => rfl); (case c4 => decide)))
open PySem PySem.W PyProof.Rows
set_option linter.unusedVariables false
set_option maxRecDepth 100000
set_option maxHeartbeats 8000000
local macro_rules | `(tactic| omega) => `(tactic| lia)
section
variable {w : World} {D : Nat} {f C : Addr} {args : List Value} {rest : Led} {post : Value → Led → Prop} {name qual : Str} {params : Arguments} {body : List Stmt} {scope : Scope} {dV kV doc pm cdv ct oc : Value} {an od : Option Addr} {osl : Array (Option Value)} {binds : Addr → List (Str × Value)}
theorem makes_of (hm : makesIn (Mine.hd.heap_39 w.params) C = true) (hi : findIn (Mine.hd.heap_39 w.params) (.ref C) "__init__" = some (some (.ref f))) (hf : isFn (Mine.hd.heap_39 w.params) (.ref f) = true)
    (ho : (Mine.hd.heap_39 w.params).lookup f = some ⟨oc, od, .func (fnOf name qual params body scope dV kV doc pm an cdv ct), osl⟩) (hcd : codeIn (Mine.hd.heap_39 w.params) cdv qual = true)
    (hbind : ∀ x s, BindsTo s (fnOf name qual params body scope dV kV doc pm an cdv ct) ⟨.ref x :: args, []⟩ (binds x)) (hloc : ∀ x, ∀ y ∈ binds x, scope.names.lookup y.1 = some .local)
    (hco : scope.isCoroutine = false) (hgen : scope.isGenerator = false) (hk : scope.kind = .function) (hcell : ∀ x ∈ scope.names, x.2 ≠ .cell)
    (h : ∀ (b : Bx) (x dx : Addr), Okx w D b → (∀ p ∈ rest, @LT.lt Nat _ p.1 dx) → @LT.lt Nat _ dx x → ∀ φ : Flow → (Str → Option Value) → Led → Prop, (∀ fl m' fp', retv fl = .none → post (.ref x) fp' → φ fl m' (fp' ++ rest)) →
      Lx w ⟨qual, scope, f, cdv⟩ b (execs body (evx ⟨qual, scope, f, cdv⟩ b)) φ (fun y => (binds x).reverse.lookup y) ((x, instObj C dx) :: (dx, dictOf [] 0) :: rest)) :
    Calls w (D + 2) C args [] rest post := by
  intro dp un gd cn cs a ccd cl outer A₀ base h₀ L m mg mb mean s Q E B F X N T hkk hd hu k
  refine call_cls F X N hm hi hf fun x dx h1 F1 N1 l1 l2 => ?_
  refine code_def (s := { s with heap := h1 }) (env := envX cn cs L a ccd cl) (outer := outer) B F1 X N1 T rfl rfl hkk ho hcd ?_ (hbind x _) (hloc x) (fun g L' h' FG F' N' B' X' T' => ?_) hco hgen hk hcell
  · show dp + 1 < recursionLimit; omega
  · refine h ⟨dp + 2, un + _ + 3, _, [], envX cn cs L a ccd cl :: outer, _, base, g, L', mg, mb, mean⟩ x dx ⟨B', X', T', by show dp + 2 + D < _; omega, ?_⟩ l1 l2 (fun fl _ led' => retv fl = .none ∧ ∃ fp', led' = fp' ++ rest ∧ post (.ref x) fp') (fun fl m' fp' hn hp => ⟨hn, fp', rfl, hp⟩) _ _ _ F' N' ?_
    · show un + 1 + 3 + 8 * D < _
      omega
    · intro fl m' led' h'' tk' hp F'' N''
      obtain ⟨hn, fp', rfl, hp⟩ := hp
      refine leaveK_ F'' N'' fun F3 N3 => ?_
      exact ⟨hn, k _ _ _ _ F3 N3 hp⟩
end
section
variable {w : World} {D : Nat} {F : FnC} {b : Bx} {m : Str → Option Value} {led : Led} {env : Env} {pos : Pos} {φ : Flow → (Str → Option Value) → Led → Prop} {x : Str}
theorem lx_list0 {lp : Pos} {φ : Value → (Str → Option Value) → Led → Prop} (hq : ∀ l, (∀ p ∈ led, @LT.lt Nat _ p.1 l) → φ (.ref l) m ((l, listOf #[] 0) :: led)) : Lx w F b (eval (.List [] lp) env) φ m led := fun s Q E f N q =>
  List_ (args_nil (newList_K f N (fun l h' F' N' hlt => q _ m _ h' _ (hq l hlt) F' N') (by decide)))
inductive FldU (w : World) (x : Str) (r C dx : Addr) (name : Str) (φ : Flow → (Str → Option Value) → Led → Prop) (v : Value) (m : Str → Option Value) (led : Led) : Prop
  | mk (es : List DictEntry) (n : Nat) (led2 : Tok → Led) (hv : m x = some (.ref r)) (m1 : (r, instObj C dx) ∈ led) (m2 : (dx, dictOf es n) ∈ led) (hl : (getL name es).isSome = true) (e : ∀ t', (putL name (PyData.keyHash w.params name) (.str name t') v es, putN name es n) = (es ++ [⟨PyData.keyHash w.params name, .str name t', v⟩], n + 1))
    (U : ∀ t', Upd dx (dictOf es n) (dictOf (es ++ [⟨PyData.keyHash w.params name, .str name t', v⟩]) (n + 1)) led (led2 t')) (hz : es.length ≤ 900) (hq : ∀ t', φ .next m (led2 t')) : FldU w x r C dx name φ v m led
theorem lx_fld {value : Expr} {xp pos' : Pos} {r C dx : Addr} {name : Str} (ok : Okx w D b) (h : Lx w F b (eval value (evx F b)) (FldU w x r C dx name φ) m led)
    (hs' : findIn (Mine.hd.heap_39 w.params) (.ref C) "__setattr__" = some (some (.builtin "object.__setattr__"))) (hp : plainOver (Mine.hd.heap_39 w.params) C = true) (ht : takerIn (Mine.hd.heap_39 w.params) C name = some none) (hh : hasDictIn (Mine.hd.heap_39 w.params) C = true)
    (hk : F.cs.kind = .function) (hx : (evx F b).kindOf x = some .local) (hd : (x == ("__debug__" : Str)) = false)
    (hs : swapsWith value (some (.Attribute (.Name x xp) name pos')) pos.line (evx F b) = pure false) : Lx w F b (exec (.Assign [.Attribute (.Name x xp) name pos'] value pos) (evx F b)) φ m led := fun s Q E f N q =>
  plainObj_wpAny_Assign_Attribute (h s _ E f N fun a m' led' h' tk' pa F' N' => by
    obtain ⟨es, n, led2, hv, m1, m2, hl, e, U, hz, hq⟩ := pa
    exact rx_name hv hk hx hd _ _ E F' N' (set_dict F' ok.X N' (InstAt.of_news N' m1 m2) rfl hs' hp ht hh hl (e _) (U _) (by rw [List.length_append]; exact Nat.le_trans (Nat.add_le_add_right hz 1) (by decide)) fun h2' F2' N2' => q _ _ _ h2' _ (hq _) F2' N2')) hs
inductive AppU (l : Addr) (ψ : Value → (Str → Option Value) → Led → Prop) (v : Value) (m : Str → Option Value) (led : Led) : Prop
  | mk (items : Array Value) (n : Nat) (led2 : Led) (hm : (l, listOf items n) ∈ led) (U : Upd l (listOf items n) (listOf (items.push v) (n + 1)) led led2) (hz : items.size ≤ 10000) (hq : ψ .none m led2) : AppU l ψ v m led
theorem lx_append {o e : Expr} {apos : Pos} {pl : Sem Bool} {l : Addr} {items : Array Value} {n : Nat} {ψ : Value → (Str → Option Value) → Led → Prop} (ho : Px w F b (eval o env) (fun a => a = .ref l) m led) (hm : (l, listOf items n) ∈ led) (h : Lx w F b (eval e env) (AppU l ψ) m led)
    (ha : starEach [e] env = (false, eval e env) :: starEach [] env)
    (hc : eval (.Call (.Attribute o "append" apos) [e] [] pos) env = (do
      let ov ← eval o env
      standAt apos.atName
      let (f, first) ← holding [ov] (getMethod ov "append" pl)
      callWith pos f first (backTo pos (starEach [e] env)) [])) : Lx w F b (eval (.Call (.Attribute o "append" apos) [e] [] pos) env) ψ m led := fun s Q E f N q =>
  MethodCall_ (ho s _ E f N fun a h' tk' pa F' N' => by
    subst pa
    exact PySem.Calls.getMethod_list_append (N' _ hm).1 rfl rfl (callWith_method1 (args_cons (h _ _ E F' N' fun v m2 led2 h2 tk2 pv F2 N2 => by
      obtain ⟨its, n2, led3, hm2, U, hz, hq⟩ := pv
      exact args_nil (app_list F2 N2 U hz fun h3 F3 N3 => q _ _ _ h3 tk2 hq F3 N3)) ha) ha rfl)) hc
theorem lf0 {o : Expr} {fv : Value} {ψ : Value → (Str → Option Value) → Led → Prop} (ok : Okx w D b) (h1 : Px w F b (eval o env) (fun a => a = fv) m led) (h4 : Lx w F b (call fv []) ψ m led) (hk : keepIn (Mine.hd.heap_39 w.params) fv = true)
    (he : eval (.Call o [] [] pos) env = (do callWith pos (← eval o env) [] (backTo pos (starEach [] env)) (backToKw pos (keywordEach [] env)))) : Lx w F b (eval (.Call o [] [] pos) env) ψ m led := fun s Q E f N q =>
  Call_ (h1 s _ E f N fun a h' tk' pa F' N' => by
    subst pa
    exact callWith_K0 (ok.X.keeps F'.keep) hk (h4 _ _ E F' N' q)) he
theorem lx_new0 {C : Addr} {ψ : Value → (Str → Option Value) → Led → Prop} (ok : Okx w D b) (hm : makesIn (Mine.hd.heap_39 w.params) C = true) (hi : findIn (Mine.hd.heap_39 w.params) (.ref C) "__init__" = some (some (.builtin "object.__init__")))
    (hq : ∀ y dy, (∀ p ∈ led, @LT.lt Nat _ p.1 dy) → @LT.lt Nat _ dy y → ψ (.ref y) m ((y, instObj C dy) :: (dy, dictOf [] 0) :: led)) : Lx w F b (call (.ref C) []) ψ m led := fun s Q E f N q =>
  call_cls0 f ok.X N hm hi fun y dy h' F' N' l1 l2 => q _ m _ h' s.toks (hq y dy l1 l2) F' N'
theorem sx_forL {px : Pos} {body rest : List Stmt} {it : Expr} {l : Addr} {items : Array Value} {n : Nat} (he : Px w F b (eval it (evx F b)) (fun a => a = .ref l) m led)
    (J : Nat → (Str → Option Value) → Led → Prop) (hl : ∀ i m' nw, J i m' nw → (l, listOf items n) ∈ nw) (hj : J 0 m led)
    (turn : ∀ i v m₁ led₁ I o, items[i]? = some v → J i m₁ led₁ → (∀ p ∈ led₁, p.1 ≠ I) → ∀ Φ : Flow → (Str → Option Value) → Led → Prop,
      (∀ fl m' led' led2, fl = .next ∨ fl = .cont → J (i + 1) m' led' → (∀ p ∈ led', p ∈ led2) → (I, o) ∈ led2 → (∀ p ∈ led', p.1 ≠ I) → Φ fl m' led2) → (∀ v m' led', φ (.ret v) m' led' → Φ (.ret v) m' led') →
      Lx w F b (execs body (evx F b)) Φ (ms m₁ x v) ((I, o) :: led₁))
    (hX : ∀ m' led', J items.size m' led' → Lx w F b (execs rest (evx F b)) φ m' led') (hk : F.cs.kind = .function) (hx : (evx F b).kindOf x = some .local)
    (hf : ∀ x, foldedSetIterable it (evx F b) x = pure x) :
    Lx w F b (execs (.For (.Name x px) it body [] pos :: rest) (evx F b)) φ m led := lx_seq fun s Q E f N q => by
  refine wpAny_mono (E := fun _ _ => False) (For_invV b.g (Q := Q) hx (by show (F.cs.kind == .class || (F.cs.kind == .module && b.L != mainGlobals)) = false; rw [hk]; rfl) ?_ hf ?_) (fun _ _ x => x) fun _ _ x => x.elim
  · have hh : (tpx F b).handled = none := rfl
    refine he s _ _ f N fun a h' tk' pa F' N' => ?_
    subst pa
    refine iter_listJ J hh F' N' hl hj (fun i v m₁ news₁ h tk I o hi hJ hne F₁ N₁ => ?_) fun m₁ news₁ h tk hJ F₁ N₁ => q _ _ _ _ _ (hX _ _ hJ) F₁ N₁
    refine turn i v m₁ news₁ I o hi hJ hne (fun fl m' led' => ∀ (h' : Heap) (tk' : Nat), Fr b.g b.L h' m' → News b.g b.L h' led' → TurnJ b.g b.L (J (i + 1)) I o { s with heap := h, toks := tk } Q fl { s with heap := h', toks := tk' }) ?_ ?_ _ _ _ F₁ N₁ fun fl m' led' h' tk' hp F' N' => hp h' tk' F' N'
    · intro fl m' led' led2 hfl hJ' hsub hI hne' h' tk' F' N'
      rcases hfl with rfl | rfl <;> exact ⟨h', tk', m', led', led2, rfl, F', N', hI, hsub, hne', hJ'⟩
    · intro v m' led' hp h' tk' F' N'
      exact q _ _ _ h' tk' hp F' N'
  · passes_own
theorem lx_forUp {px : Pos} {body : List Stmt} {g e : Expr} {cp : Pos} {n : Nat} (ok : Okx w D b) (hr : Px w F b (eval g (evx F b)) (fun a => a = .type "range") m led) (he : Px w F b (eval e (evx F b)) (IsI (n : Int)) m led) (hn : n ≤ 1000000)
    (J : Nat → (Str → Option Value) → Led → Prop) (hj : J 0 m led)
    (turn : ∀ i m₁ led₁ I o t, i < n → J i m₁ led₁ → (∀ p ∈ led₁, p.1 ≠ I) → ∀ Φ : Flow → (Str → Option Value) → Led → Prop,
      (∀ fl m' led' led2, fl = .next ∨ fl = .cont → J (i + 1) m' led' → (∀ p ∈ led', p ∈ led2) → (I, o) ∈ led2 → (∀ p ∈ led', p.1 ≠ I) → Φ fl m' led2) → (∀ v m' led', φ (.ret v) m' led' → Φ (.ret v) m' led') →
      Lx w F b (execs body (evx F b)) Φ (ms m₁ x (.int (i : Int) t)) ((I, o) :: led₁))
    (hX : ∀ m' led', J n m' led' → φ .next m' led') (hk : F.cs.kind = .function) (hx : (evx F b).kindOf x = some .local)
    (ha : starEach [e] (evx F b) = (false, eval e (evx F b)) :: starEach [] (evx F b))
    (hc : eval (.Call g [e] [] cp) (evx F b) = (do callWith cp (← eval g (evx F b)) [] (backTo cp (starEach [e] (evx F b))) (backToKw cp (keywordEach [] (evx F b)))))
    (hf : ∀ x, foldedSetIterable (.Call g [e] [] cp) (evx F b) x = pure x) :
    Lx w F b (exec (.For (.Name x px) (.Call g [e] [] cp) body [] pos) (evx F b)) φ m led := fun s Q E f N q => by
  refine wpAny_mono (E := fun _ _ => False) (For_invV b.g (Q := Q) hx (by show (F.cs.kind == .class || (F.cs.kind == .module && b.L != mainGlobals)) = false; rw [hk]; rfl) ?_ hf ?_) (fun _ _ x => x) fun _ _ x => x.elim
  · have hh : (tpx F b).handled = none := rfl
    refine Call_ (hr s _ _ f N fun a h' tk' pa F' N' => ?_) hc
    subst pa
    refine Pv.callWith_type1 (px_args1 he ha _ _ _ F' N' fun vs h2' tk2' pa2 F2' N2' => ?_) ha rfl
    obtain ⟨_, rfl, t0, rfl⟩ := pa2
    refine range1_rows F2' N2' fun h3' tk3 t₁ u₁ v₁ R F3' N3' _ => ?_
    refine iter_up (n := n) J hh R hn F3' N3' hj (fun i t m₁ news₁ h tk I o hi hJ hne F₁ N₁ => ?_) fun m₁ news₁ h tk hJ F₁ N₁ => q _ _ _ _ _ (hX _ _ hJ) F₁ N₁
    refine turn i m₁ news₁ I o t hi hJ hne (fun fl m' led' => ∀ (h' : Heap) (tk' : Nat), Fr b.g b.L h' m' → News b.g b.L h' led' → TurnJ b.g b.L (J (i + 1)) I o { s with heap := h, toks := tk } Q fl { s with heap := h', toks := tk' }) ?_ ?_ _ _ _ F₁ N₁ fun fl m' led' h' tk' hp F' N' => hp h' tk' F' N'
    · intro fl m' led' led2 hfl hJ' hsub hI hne' h' tk' F' N'
      rcases hfl with rfl | rfl <;> exact ⟨h', tk', m', led', led2, rfl, F', N', hI, hsub, hne', hJ'⟩
    · intro v m' led' hp h' tk' F' N'
      exact q _ _ _ h' tk' hp F' N'
  · passes_own
end
open PySem PySem.W PyProof.Rows
set_option linter.unusedVariables false
set_option maxRecDepth 100000
set_option maxHeartbeats 8000000
section
variable {w : World} {D : Nat} {rest : Led} {rl od inner pl : Addr} {upto : Int} {tu tl th : Tok} {lo hi : Option (Array UInt8)}
inductive LNew (rest : Led) (rl od : Addr) : Value → Led → Prop
  | mk (x dx : Addr) (q : LP) (t : Tok) (hne : @Ne Nat x dx) (hoff : ∀ p ∈ rest, @Ne Nat p.1 x ∧ @Ne Nat p.1 dx) : LNew rest rl od (.ref x) [(x, instObj 380 dx), (dx, LD q rl od (-1) t)]
theorem fld_x {F : FnC} {b : Bx} {m : Str → Option Value} {x dx C : Addr} {name self : Str} {φ : Flow → (Str → Option Value) → Led → Prop} {t : Sem Value} {P : Value → Prop} {es : List DictEntry} {n : Nat} (h : Px w F b t P m ((x, instObj C dx) :: (dx, dictOf es n) :: rest)) (hv : m self = some (.ref x)) (l1 : ∀ p ∈ rest, @LT.lt Nat _ p.1 dx) (l2 : @LT.lt Nat _ dx x)
    (hl : (getL name es).isSome = true) (e : ∀ v t', (putL name (PyData.keyHash w.params name) (.str name t') v es, putN name es n) = (es ++ [⟨PyData.keyHash w.params name, .str name t', v⟩], n + 1)) (hz : es.length ≤ 900)
    (hq : ∀ v t', P v → φ .next m ((x, instObj C dx) :: (dx, dictOf (es ++ [⟨PyData.keyHash w.params name, .str name t', v⟩]) (n + 1)) :: rest)) : Lx w F b t (FldU w self x C dx name φ) m ((x, instObj C dx) :: (dx, dictOf es n) :: rest) :=
  h.lx fun v pv => .mk es n _ hv (.head _) (.tail _ (.head _)) hl (e v) (fun t' => .tail (Nat.ne_of_lt l2).symm (.head fun p hp => Nat.ne_of_lt (l1 p hp))) hz fun t' => hq v t' pv
theorem linit_c : Calls w (D + 2) 380 [.ref rl, .ref od] [] rest (LNew rest rl od) := by
  refine' makes_of (binds := fun x => [("self", .ref x), ("rows", .ref rl), ("order", .ref od)]) ?hm ?hi ?hf ?ho ?hcd ?hb ?hl ?c1 ?c2 ?c3 ?c4 ?_
  (case hm => with_unfolding_all rfl)
  (case hi => with_unfolding_all rfl)
  (case hf => with_unfolding_all rfl)
  (case ho => with_unfolding_all rfl)
  (case hcd => with_unfolding_all rfl)
  (case hb => exact fun x s => BindsTo.of_eq rfl)
  (case hl => exact fun x => locs rfl)
  (case c1 => rfl)
  (case c2 => rfl)
  (case c3 => rfl)
  (case c4 => decide)
  intro bb x dx ok l1 l2 φ kφ
  refine lx_seq (lx_fld (C := 380) (r := x) (dx := dx) ok (fld_x (px_name rfl rfl rfl rfl) rfl l1 l2 rfl (fun _ _ => rfl) (Nat.le_of_ble_eq_true rfl) fun v t1 hv => ?_) (by fail "r") (by fail "r") (by fail "r") (by fail "r") rfl rfl rfl rfl)
  subst hv
  refine lx_seq (lx_fld (C := 380) (r := x) (dx := dx) ok (fld_x (px_name rfl rfl rfl rfl) rfl l1 l2 rfl (fun _ _ => rfl) (Nat.le_of_ble_eq_true rfl) fun v t2 hv => ?_) (by fail "r") (by fail "r") (by fail "r") (by fail "r") rfl rfl rfl rfl)
  subst hv
  refine lx_seq (lx_fld (C := 380) (r := x) (dx := dx) ok (fld_x (px_neg px_int) rfl l1 l2 rfl (fun _ _ => rfl) (Nat.le_of_ble_eq_true rfl) fun v t3 hv => ?_) (by fail "r") (by fail "r") (by fail "r") (by fail "r") rfl rfl rfl rfl)
  obtain ⟨t, rfl⟩ := hv
  exact lx_nil (kφ .next _ [_, _] rfl (.mk x dx ⟨_, _, _, t1, t2, t3⟩ t (Nat.ne_of_lt l2).symm fun p hp => ⟨Nat.ne_of_lt (Nat.lt_trans (l1 p hp) l2), Nat.ne_of_lt (l1 p hp)⟩))
inductive UNew (rest : Led) (inner : Addr) (upto : Int) (lo hi : Option (Array UInt8)) : Value → Led → Prop
  | mk (x dx : Addr) (q : UP) (tg tk1 tv1 : Tok) (hne : @Ne Nat x dx) (hoff : ∀ p ∈ rest, @Ne Nat p.1 x ∧ @Ne Nat p.1 dx) : UNew rest inner upto lo hi (.ref x) [(x, instObj 611 dx), (dx, UD q inner upto lo hi 0 tg false #[] tk1 #[] tv1)]
theorem uinit_c : Calls w (D + 2) 611 [.ref inner, .int upto tu, .ref od, bndV lo tl, bndV hi th] [] rest (UNew rest inner upto lo hi) := by
  refine' makes_of (binds := fun x => [("self", .ref x), ("inner", .ref inner), ("seq", .int upto tu), ("order", .ref od), ("low", bndV lo tl), ("high", bndV hi th)]) ?hm ?hi ?hf ?ho ?hcd ?hb ?hl ?c1 ?c2 ?c3 ?c4 ?_
  (case hm => with_unfolding_all rfl)
  (case hi => with_unfolding_all rfl)
  (case hf => with_unfolding_all rfl)
  (case ho => with_unfolding_all rfl)
  (case hcd => with_unfolding_all rfl)
  (case hb => exact fun x s => BindsTo.of_eq rfl)
  (case hl => exact fun x => locs rfl)
  (case c1 => rfl)
  (case c2 => rfl)
  (case c3 => rfl)
  (case c4 => decide)
  intro bb x dx ok l1 l2 φ kφ
  refine lx_seq (lx_fld (C := 611) (r := x) (dx := dx) ok (fld_x (px_name rfl rfl rfl rfl) rfl l1 l2 rfl (fun _ _ => rfl) (Nat.le_of_ble_eq_true rfl) fun v t1 hv => ?_) (by fail "r") (by fail "r") (by fail "r") (by fail "r") rfl rfl rfl rfl)
  subst hv
  refine lx_seq (lx_fld (C := 611) (r := x) (dx := dx) ok (fld_x (px_name rfl rfl rfl rfl) rfl l1 l2 rfl (fun _ _ => rfl) (Nat.le_of_ble_eq_true rfl) fun v t2 hv => ?_) (by fail "r") (by fail "r") (by fail "r") (by fail "r") rfl rfl rfl rfl)
  subst hv
  refine lx_seq (lx_fld (C := 611) (r := x) (dx := dx) ok (fld_x (px_name rfl rfl rfl rfl) rfl l1 l2 rfl (fun _ _ => rfl) (Nat.le_of_ble_eq_true rfl) fun v t3 hv => ?_) (by fail "r") (by fail "r") (by fail "r") (by fail "r") rfl rfl rfl rfl)
  subst hv
  refine lx_seq (lx_fld (C := 611) (r := x) (dx := dx) ok (fld_x (px_name rfl rfl rfl rfl) rfl l1 l2 rfl (fun _ _ => rfl) (Nat.le_of_ble_eq_true rfl) fun v t4 hv => ?_) (by fail "r") (by fail "r") (by fail "r") (by fail "r") rfl rfl rfl rfl)
  subst hv
  refine lx_seq (lx_fld (C := 611) (r := x) (dx := dx) ok (fld_x (px_globI ok (by fail "r") rfl rfl rfl) rfl l1 l2 rfl (fun _ _ => rfl) (Nat.le_of_ble_eq_true rfl) fun v t5 hv => ?_) (by fail "r") (by fail "r") (by fail "r") (by fail "r") rfl rfl rfl rfl)
  obtain ⟨tg, rfl⟩ := hv
  refine lx_seq (lx_fld (C := 611) (r := x) (dx := dx) ok (fld_x px_bool rfl l1 l2 rfl (fun _ _ => rfl) (Nat.le_of_ble_eq_true rfl) fun v t6 hv => ?_) (by fail "r") (by fail "r") (by fail "r") (by fail "r") rfl rfl rfl rfl)
  subst hv
  refine lx_seq (lx_fld (C := 611) (r := x) (dx := dx) ok (fld_x px_bytes rfl l1 l2 rfl (fun _ _ => rfl) (Nat.le_of_ble_eq_true rfl) fun v t7 hv => ?_) (by fail "r") (by fail "r") (by fail "r") (by fail "r") rfl rfl rfl rfl)
  obtain ⟨tk1, rfl⟩ := hv
  refine lx_seq (lx_fld (C := 611) (r := x) (dx := dx) ok (fld_x px_bytes rfl l1 l2 rfl (fun _ _ => rfl) (Nat.le_of_ble_eq_true rfl) fun v t8 hv => ?_) (by fail "r") (by fail "r") (by fail "r") (by fail "r") rfl rfl rfl rfl)
  obtain ⟨tv1, rfl⟩ := hv
  exact lx_nil (kφ .next _ [_, _] rfl (.mk x dx ⟨_, _, _, _, _, _, _, _, t1, t2, t3, t4, t5, t6, t7, t8, tu, tl, th⟩ tg tk1 tv1 (Nat.ne_of_lt l2).symm fun p hp => ⟨Nat.ne_of_lt (Nat.lt_trans (l1 p hp) l2), Nat.ne_of_lt (l1 p hp)⟩))
inductive ONew (rest : Led) : Value → Led → Prop
  | mk (od : Addr) (fp : Led) (h : OrdIn (fp ++ rest) od) (hlt : ∀ p ∈ fp, ∀ q ∈ rest, @LT.lt Nat _ q.1 p.1) : ONew rest (.ref od) fp
theorem order_c : Calls w (D + 2) 284 [] [] rest (ONew rest) := by
  refine' makes_of (binds := fun x => [("self", .ref x)]) ?hm ?hi ?hf ?ho ?hcd ?hb ?hl ?c1 ?c2 ?c3 ?c4 ?_
  (case hm => with_unfolding_all rfl)
  (case hi => with_unfolding_all rfl)
  (case hf => with_unfolding_all rfl)
  (case ho => with_unfolding_all rfl)
  (case hcd => with_unfolding_all rfl)
  (case hb => exact fun x s => BindsTo.of_eq rfl)
  (case hl => exact fun x => locs rfl)
  (case c1 => rfl)
  (case c2 => rfl)
  (case c3 => rfl)
  (case c4 => decide)
  intro bb x dx ok l1 l2 φ kφ
  refine lx_seq (lx_fld (C := 284) (r := x) (dx := dx) ok (lf0 (fv := .ref 230) ok (px_glob ok (by fail "r") rfl rfl rfl) (lx_new0 ok (by fail "r") (by fail "r") fun y dy g1 g2 => ?_) (by fail "r") rfl) (by fail "r") (by fail "r") (by fail "r") (by fail "r") rfl rfl rfl rfl)
  have n1 : ∀ p ∈ rest, @LT.lt Nat _ p.1 dy := fun p hp => g1 p (.tail _ (.tail _ hp))
  have n2 := g1 _ (.tail _ (.head _))
  have n3 := g1 _ (.head _)
  refine .mk [] 0 _ rfl (.tail _ (.tail _ (.head _))) (.tail _ (.tail _ (.tail _ (.head _)))) rfl (fun _ => rfl) (fun t => .tail (Nat.ne_of_lt (Nat.lt_trans n2 g2)).symm (.tail (Nat.ne_of_lt n2).symm (.tail (Nat.ne_of_lt l2).symm (.head fun p hp => Nat.ne_of_lt (l1 p hp))))) (by decide) fun t => ?_
  refine lx_nil (kφ .next _ [_, _, _, _] rfl (.mk x _ ⟨dx, y, dy, _, t, _, .tail _ (.tail _ (.head _)), .tail _ (.tail _ (.tail _ (.head _))), .head _, .tail _ (.head _)⟩ fun p hp q hq => ?_))
  rcases List.mem_cons.mp hp with rfl | hp
  · exact Nat.lt_trans (n1 q hq) g2
  · rcases List.mem_cons.mp hp with rfl | hp
    · exact n1 q hq
    · rcases List.mem_cons.mp hp with rfl | hp
      · exact Nat.lt_trans (l1 q hq) l2
      · rw [List.mem_singleton.mp hp]; exact l1 q hq
inductive MNew (rest : Led) (vs : Array Value) (od : Addr) : Value → Led → Prop
  | mk (x dx ch tp : Addr) (q : MP) (tc tg : Tok) (nc nt : Nat) (tops : Array Value) (fp : Led) (ht : tops.size = vs.size) (hne : x ≠ dx ∧ x ≠ ch ∧ x ≠ tp ∧ dx ≠ ch ∧ dx ≠ tp ∧ ch ≠ tp) (hoff : ∀ p ∈ rest, p.1 ≠ x ∧ p.1 ≠ dx ∧ p.1 ≠ ch ∧ p.1 ≠ tp)
    (hs : ∀ p ∈ (x, instObj 506 dx) :: (dx, MD q ch tp od (-1) tc 0 tg) :: (ch, listOf vs nc) :: (tp, listOf tops nt) :: rest, p ∈ fp ++ rest) : MNew rest vs od (.ref x) fp
inductive MJ (w : World) (rest : Led) (x dx ch tp od : Addr) (vs : Array Value) (t1 t2 : Tok) : Nat → (Str → Option Value) → Led → Prop
  | mk (i : Nat) (m : Str → Option Value) (cv tops : Array Value) (nc nt : Nat) (e1 : m "self" = some (.ref x)) (e2 : m "order" = some (.ref od)) (hc : cv.toList = vs.toList.take i) (ht : tops.size = i) : MJ w rest x dx ch tp od vs t1 t2 i m ((tp, listOf tops nt) :: (ch, listOf cv nc) :: (x, instObj 506 dx) :: (dx, dictOf [⟨PyData.keyHash w.params (Str.ofString "children"), .str "children" t1, .ref ch⟩, ⟨PyData.keyHash w.params (Str.ofString "tops"), .str "tops" t2, .ref tp⟩] 2) :: rest)
theorem minit_c {vs : Array Value} {n : Nat} (hl : (pl, listOf vs n) ∈ rest) (hn : vs.size ≤ 1000) : Calls w (D + 2) 506 [.ref pl, .ref od] [] rest (MNew rest vs od) := by
  refine' makes_of (binds := fun x => [("self", .ref x), ("iters", .ref pl), ("order", .ref od)]) ?hm ?hi ?hf ?ho ?hcd ?hb ?hl ?c1 ?c2 ?c3 ?c4 ?_
  (case hm => with_unfolding_all rfl)
  (case hi => with_unfolding_all rfl)
  (case hf => with_unfolding_all rfl)
  (case ho => with_unfolding_all rfl)
  (case hcd => with_unfolding_all rfl)
  (case hb => exact fun x s => BindsTo.of_eq rfl)
  (case hl => exact fun x => locs rfl)
  (case c1 => rfl)
  (case c2 => rfl)
  (case c3 => rfl)
  (case c4 => decide)
  intro bb x dx ok l1 l2 φ kφ
  have k1 : ∀ p ∈ rest, @Ne Nat p.1 dx := fun p hp => Nat.ne_of_lt (l1 p hp)
  have k2 : ∀ p ∈ rest, @Ne Nat p.1 x := fun p hp => Nat.ne_of_lt (Nat.lt_trans (l1 p hp) l2)
  refine lx_seq (lx_fld (C := 506) (r := x) (dx := dx) ok (lx_list0 fun ch gc => .mk [] 0 _ rfl (.tail _ (.head _)) (.tail _ (.tail _ (.head _))) rfl (fun _ => rfl) (fun t => .tail (Nat.ne_of_lt (gc _ (.tail _ (.head _)))).symm (.tail (Nat.ne_of_lt l2).symm (.head k1))) (by decide) fun t1 => ?_) (by fail "r") (by fail "r") (by fail "r") (by fail "r") rfl rfl rfl rfl)
  refine lx_seq (lx_fld (C := 506) (r := x) (dx := dx) ok (lx_list0 fun tp gt => .mk [_] 1 _ rfl (.tail _ (.tail _ (.head _))) (.tail _ (.tail _ (.tail _ (.head _)))) rfl (fun _ => rfl) (fun t => .tail (Nat.ne_of_lt (gt _ (.tail _ (.tail _ (.head _))))).symm (.tail (Nat.ne_of_lt (gc _ (.tail _ (.head _)))).symm (.tail (Nat.ne_of_lt l2).symm (.head k1)))) (Nat.le_of_ble_eq_true rfl) fun t2 => ?_) (by fail "r") (by fail "r") (by fail "r") (by fail "r") rfl rfl rfl rfl)
  have c1 : @Ne Nat x ch := Nat.ne_of_lt (gc _ (.head _))
  have c2 : @Ne Nat dx ch := Nat.ne_of_lt (gc _ (.tail _ (.head _)))
  have c3 : ∀ p ∈ rest, @Ne Nat p.1 ch := fun p hp => Nat.ne_of_lt (gc p (.tail _ (.tail _ hp)))
  have d0 : @Ne Nat ch tp := Nat.ne_of_lt (gt _ (.head _))
  have d1 : @Ne Nat x tp := Nat.ne_of_lt (gt _ (.tail _ (.head _)))
  have d2 : @Ne Nat dx tp := Nat.ne_of_lt (gt _ (.tail _ (.tail _ (.head _))))
  have d3 : ∀ p ∈ rest, @Ne Nat p.1 tp := fun p hp => Nat.ne_of_lt (gt p (.tail _ (.tail _ (.tail _ hp))))
  refine sx_forL (l := pl) (items := vs) (n := n) (px_name rfl rfl rfl rfl) (MJ w rest x dx ch tp od vs t1 t2) (fun i m' nw h => by cases h; exact .tail _ (.tail _ (.tail _ (.tail _ hl)))) (.mk 0 _ #[] #[] 0 0 rfl rfl rfl rfl) (fun i v m₁ led₁ I o hv hJ hI Φ hΦ hR => ?_) (fun m' led' hJ => ?_) rfl rfl (fun _ => rfl)
  · obtain ⟨cv, tops, nc, nt, e1, e2, hc, ht⟩ := hJ
    have hi : i < vs.size := (Array.getElem?_eq_some_iff.mp hv).1
    have i1 := hI _ (.head _)
    have i2 := hI _ (.tail _ (.head _))
    have hcz : cv.size = i := by
      have := congrArg List.length hc
      simpa [Nat.min_eq_left (Nat.le_of_lt hi)] using this
    refine sx_expr (lx_append (l := ch) (items := cv) (n := nc) ((px_attr ok e1 (.tail _ (.tail _ (.tail _ (.head _)))) (.tail _ (.tail _ (.tail _ (.tail _ (.head _))))) rfl rfl (by fail "r") (by fail "r") (by fail "r") (by fail "r") rfl rfl rfl rfl)) (.tail _ (.tail _ (.head _))) (Px.lx (px_name rfl rfl rfl rfl) fun a1 ha => .mk cv nc _ (.tail _ (.tail _ (.head _))) (.tail (fun e => i2 e.symm) (.tail d0.symm (.head fun p hp => ?_))) (by omega) ?_) rfl rfl) rfl rfl
    · rcases List.mem_cons.mp hp with rfl | hp
      · exact c1
      · rcases List.mem_cons.mp hp with rfl | hp
        · exact c2
        · exact c3 p hp
    subst ha
    refine sx_expr (lx_append (l := tp) (items := tops) (n := nt) ((px_attr ok e1 (.tail _ (.tail _ (.tail _ (.head _)))) (.tail _ (.tail _ (.tail _ (.tail _ (.head _))))) rfl rfl (by fail "r") (by fail "r") (by fail "r") (by fail "r") rfl rfl rfl rfl)) (.tail _ (.head _)) (Px.lx px_none fun a ha => .mk tops nt _ (.tail _ (.head _)) (.tail (fun e => i1 e.symm) (.head fun p hp => ?_)) (by omega) ?_) rfl rfl) rfl rfl
    · rcases List.mem_cons.mp hp with rfl | hp
      · exact d0
      · rcases List.mem_cons.mp hp with rfl | hp
        · exact d1
        · rcases List.mem_cons.mp hp with rfl | hp
          · exact d2
          · exact d3 p hp
    subst ha
    refine lx_nil (hΦ .next _ _ _ (.inl rfl) (.mk (i + 1) _ (cv.push a1) (tops.push .none) (nc + 1) (nt + 1) e1 e2 ?_ (by rw [Array.size_push, ht])) (fun p hp => .tail _ hp) (.head _) fun p hp => ?_)
    · have hv2 : vs.toList[i]? = some a1 := by simpa using hv
      rw [List.take_add_one, hv2, Array.toList_push, hc]
      rfl
    · rcases List.mem_cons.mp hp with rfl | hp
      · exact i1
      · rcases List.mem_cons.mp hp with rfl | hp
        · exact i2
        · exact hI p (.tail _ (.tail _ hp))
  · obtain ⟨cv, tops, nc, nt, e1, e2, hc, ht⟩ := hJ
    have hU : ∀ {es : List DictEntry} {n : Nat} {o' : Obj}, Upd dx (dictOf es n) o' ((tp, listOf tops nt) :: (ch, listOf cv nc) :: (x, instObj 506 dx) :: (dx, dictOf es n) :: rest) ((tp, listOf tops nt) :: (ch, listOf cv nc) :: (x, instObj 506 dx) :: (dx, o') :: rest) := .tail d2.symm (.tail c2.symm (.tail (Nat.ne_of_lt l2).symm (.head k1)))
    refine lx_seq (lx_fld (C := 506) (r := x) (dx := dx) ok (Px.lx (px_name e2 rfl rfl rfl) fun v hv => .mk _ 2 _ e1 (.tail _ (.tail _ (.head _))) (.tail _ (.tail _ (.tail _ (.head _)))) rfl (fun _ => rfl) (fun t => hU) (Nat.le_of_ble_eq_true rfl) fun t3 => ?_) (by fail "r") (by fail "r") (by fail "r") (by fail "r") rfl rfl rfl rfl)
    subst hv
    refine lx_seq (lx_fld (C := 506) (r := x) (dx := dx) ok (Px.lx (px_neg px_int) fun v hv => .mk _ 3 _ e1 (.tail _ (.tail _ (.head _))) (.tail _ (.tail _ (.tail _ (.head _)))) rfl (fun _ => rfl) (fun t => hU) (Nat.le_of_ble_eq_true rfl) fun t4 => ?_) (by fail "r") (by fail "r") (by fail "r") (by fail "r") rfl rfl rfl rfl)
    obtain ⟨tc, rfl⟩ := hv
    refine lx_seq (lx_fld (C := 506) (r := x) (dx := dx) ok (Px.lx (px_globI ok (by fail "r") rfl rfl rfl) fun v hv => .mk _ 4 _ e1 (.tail _ (.tail _ (.head _))) (.tail _ (.tail _ (.tail _ (.head _)))) rfl (fun _ => rfl) (fun t => hU) (Nat.le_of_ble_eq_true rfl) fun t5 => ?_) (by fail "r") (by fail "r") (by fail "r") (by fail "r") rfl rfl rfl rfl)
    obtain ⟨tg, rfl⟩ := hv
    have hcv : cv = vs := Array.toList_inj.mp (by rw [hc, List.take_of_length_le (by simp)])
    subst hcv
    refine lx_nil (kφ .next _ [(tp, listOf tops nt), (ch, listOf cv nc), (x, instObj 506 dx), (dx, MD ⟨PyData.keyHash w.params "children", PyData.keyHash w.params "tops", PyData.keyHash w.params "order", PyData.keyHash w.params "current", PyData.keyHash w.params "going", t1, t2, t3, t4, t5⟩ ch tp od (-1) tc 0 tg)] rfl (.mk x dx ch tp ⟨PyData.keyHash w.params "children", PyData.keyHash w.params "tops", PyData.keyHash w.params "order", PyData.keyHash w.params "current", PyData.keyHash w.params "going", t1, t2, t3, t4, t5⟩ tc tg nc nt tops _ ht ⟨(Nat.ne_of_lt l2).symm, c1, d1, c2, d2, d0⟩ (fun p hp => ⟨k2 p hp, k1 p hp, c3 p hp, d3 p hp⟩) fun p hp => ?_))
    rcases List.mem_cons.mp hp with rfl | hp
    · exact .tail _ (.tail _ (.head _))
    · rcases List.mem_cons.mp hp with rfl | hp
      · exact .tail _ (.tail _ (.tail _ (.head _)))
      · rcases List.mem_cons.mp hp with rfl | hp
        · exact .tail _ (.head _)
        · rcases List.mem_cons.mp hp with rfl | hp
          · exact .head _
          · exact .tail _ (.tail _ (.tail _ (.tail _ hp)))
end
open PySem PySem.W PyProof.Rows PyProof.Rows.LCg PyProof.Rows.LCt
set_option linter.unusedVariables false
set_option maxRecDepth 100000
set_option maxHeartbeats 8000000
inductive EltP (J : List Value → Led → Prop) (m : Str → Option Value) (ys : List Value) (nw T : Led) : Value → (Str → Option Value) → Led → Prop
  | mk (y : Value) (fp : Led) (hf : ∀ q ∈ fp, ∀ p ∈ T, @Ne Nat p.1 q.1) (h : J (ys ++ [y]) (fp ++ nw)) : EltP J m ys nw T y m (fp ++ T)
def OwnV (w : World) (F : FnC) (b : Bx) (env : Env) (x : Str) (v : Value) (m : Str → Option Value) (T : Led) : Prop := ∀ T' p, (∀ q ∈ T, q ∈ T') → Px w F b (eval (.Name x p) env) (fun a => a = v) m T'
inductive TurnR (w : World) (F : FnC) (b : Bx) (env : Env) (ct elt : Expr) (m : Str → Option Value) (ys : List Value) (nw T : Led) (J : List Value → Led → Prop) : Prop
  | mk (c : Bool) (h1 : Px w F b (isTrue ct env (eval ct env)) (fun a => a = c) m T) (h2 : c = true → Lx w F b (eval elt env) (EltP J m ys nw T) m T) (h3 : c = false → J ys nw) : TurnR w F b env ct elt m ys nw T J
def TurnT (w : World) (F : FnC) (b : Bx) (sc : Scope) (cl : List (Str × Addr)) (ct elt : Expr) (x : Str) (m : Str → Option Value) (led : Led) (P : Nat → Value → Prop) (n : Nat) (J : Nat → List Value → Led → Prop) : Prop :=
  ∀ i v ys nw T C, i < n → P i v → J i ys nw → (∀ p ∈ led, p ∈ nw) → (∀ p ∈ nw, p ∈ T) → OwnV w F b (compEnvC sc cl C (evx F b)) x v m T → TurnR w F b (compEnvC sc cl C (evx F b)) ct elt m ys nw T (J (i + 1))
def TurnU (w : World) (F : FnC) (b : Bx) (sc : Scope) (cl : List (Str × Addr)) (elt : Expr) (x : Str) (m : Str → Option Value) (led : Led) (P : Nat → Value → Prop) (n : Nat) (J : Nat → List Value → Led → Prop) : Prop :=
  ∀ i v ys nw T C, i < n → P i v → J i ys nw → (∀ p ∈ led, p ∈ nw) → (∀ p ∈ nw, p ∈ T) → OwnV w F b (compEnvC sc cl C (evx F b)) x v m T → Lx w F b (eval elt (compEnvC sc cl C (evx F b))) (EltP (J (i + 1)) m ys nw T) m T
section
variable {w : World} {D : Nat} {F : FnC} {b : Bx} {m : Str → Option Value} {led : Led} {ct elt : Expr} {x y : Str} {sc : Scope} {cl : List (Str × Addr)} {P : Nat → Value → Prop} {S : Led → Prop} {n : Nat} {J : Nat → List Value → Led → Prop} {Fin : List Value → Led → Prop} {s : Shared}
theorem off3_app {I C D : Addr} {fp nw : Led} (h : ∀ q ∈ fp, @Ne Nat I q.1 ∧ @Ne Nat C q.1 ∧ @Ne Nat D q.1) (g : Off3 I C D nw) : Off3 I C D (fp ++ nw) := Off3.of fun p hp => by
  rcases List.mem_append.mp hp with hp | hp
  · have := h p hp; exact ⟨fun e => this.1 e.symm, fun e => this.2.1 e.symm, fun e => this.2.2 e.symm⟩
  · exact g.mem p hp
theorem sub_app {a c e : Addr × Obj} {fp nw : Led} : ∀ p ∈ a :: c :: e :: (fp ++ nw), p ∈ fp ++ (a :: c :: e :: nw) := fun p hp => by
  simp only [List.mem_cons, List.mem_append] at hp ⊢
  rcases hp with h | h | h | h | h
  · exact .inr (.inl h)
  · exact .inr (.inr (.inl h))
  · exact .inr (.inr (.inr (.inl h)))
  · exact .inl h
  · exact .inr (.inr (.inr (.inr h)))
theorem elt_end {I C D : Addr} {oI oC : Obj} {ys : List Value} {nw : Led} {i : Nat} {a : Value} {m' : Str → Option Value} {led' : Led} {h' : Heap} {tk' : Nat} (hS : ∀ nw, (∀ p ∈ led, p ∈ nw) → S nw) (hsub : ∀ p ∈ led, p ∈ nw) (hO : Off3 I C D nw) (hp : EltP (J (i + 1)) m ys nw ((I, oI) :: (C, oC) :: (D, lst ys) :: nw) a m' led') (F' : Fr b.g b.L h' m') (N' : News b.g b.L h' led') :
    CompEnd b.g b.L m s I oI C oC D (lst ys) S (fun y news' => (∀ p ∈ led, p ∈ news') ∧ J (i + 1) (ys ++ [y]) news') a { s with heap := h', toks := tk' } := by
  cases hp with
  | mk fp hf h =>
    have hs2 : ∀ p ∈ led, p ∈ fp ++ nw := fun p hp => List.mem_append_right _ (hsub p hp)
    exact CompEnd.intro F' N' (fp ++ nw) sub_app (off3_app (fun q hq => ⟨hf q hq _ (.head _), hf q hq _ (.tail _ (.head _)), hf q hq _ (.tail _ (.tail _ (.head _)))⟩) hO) (hS _ hs2) ⟨hs2, h⟩
theorem own_v {I C D : Addr} {oI oC oD : Obj} {nw : Led} {m₂ : Str → Option Value} {v : Value} (hN : NsObj oC m₂) (hx : m₂ x = some v) (hk : ∀ C, (compEnvC sc cl C (evx F b)).scope.kind = .function) (hl : ∀ C, (compEnvC sc cl C (evx F b)).kindOf x = some .local) (hd : (x == ("__debug__" : Str)) = false) :
    OwnV w F b (compEnvC sc cl C (evx F b)) x v m ((I, oI) :: (C, oC) :: (D, oD) :: nw) := fun T' p hs s Q E f N q => LCgL.ld_own N (hs _ (.tail _ (.head _))) hN hx (q _ s.heap s.toks rfl f N) (hk C) (hl C) hd
theorem rest_T (turn : TurnT w F b sc cl ct elt x m led P n J) (hS : ∀ nw, (∀ p ∈ led, p ∈ nw) → S nw) (h0 : J 0 [] led) (fin : ∀ ys nw, J n ys nw → (∀ p ∈ led, p ∈ nw) → Fin ys nw)
    (hk : ∀ C, (compEnvC sc cl C (evx F b)).scope.kind = .function) (hl : ∀ C, (compEnvC sc cl C (evx F b)).kindOf x = some .local) (hd : (x == ("__debug__" : Str)) = false) : CompRestT PG w (tpx F b) b.g b.L m (evx F b) ct elt x sc cl s S P Fin n 0 [] led :=
  compRestT_inv (fun i ys nw => (∀ p ∈ led, p ∈ nw) ∧ J i ys nw) n (fun i ys nw v I oI C oC D m₂ h tk E' hi hJ hP hN hx FF NN hO hne => by
    obtain ⟨c, h1, h2, h3⟩ := turn i v ys nw _ C hi hP hJ.2 hJ.1 (fun p hp => .tail _ (.tail _ (.tail _ hp))) (own_v (I := I) (oI := oI) (D := D) (oD := lst ys) hN hx hk hl hd)
    refine h1 _ _ _ FF NN fun a h' tk' pa F' N' => ?_
    subst pa
    cases a with
    | true => rw [if_pos rfl]; exact h2 rfl _ _ _ F' N' fun y m' led' h'' tk'' hp F'' N'' => elt_end hS hJ.1 hO hp F'' N''
    | false =>
      rw [if_neg (by simp)]
      exact CompEnd.intro F' N' nw (fun p hp => hp) hO (hS _ hJ.1) ⟨hJ.1, h3 rfl⟩) (fun ys nw h => fin ys nw h.2 h.1) n 0 [] led (Nat.zero_add _) ⟨fun _ h => h, h0⟩
theorem rest_U (turn : TurnU w F b sc cl elt x m led P n J) (hS : ∀ nw, (∀ p ∈ led, p ∈ nw) → S nw) (h0 : J 0 [] led) (fin : ∀ ys nw, J n ys nw → (∀ p ∈ led, p ∈ nw) → Fin ys nw)
    (hk : ∀ C, (compEnvC sc cl C (evx F b)).scope.kind = .function) (hl : ∀ C, (compEnvC sc cl C (evx F b)).kindOf x = some .local) (hd : (x == ("__debug__" : Str)) = false) : CompRest PG w (tpx F b) b.g b.L m (evx F b) elt x sc cl s S P Fin n 0 [] led :=
  compRest_inv (fun i ys nw => (∀ p ∈ led, p ∈ nw) ∧ J i ys nw) n (fun i ys nw v I oI C oC D m₂ h tk E' hi hJ hP hN hx FF NN hO hne =>
    turn i v ys nw _ C hi hP hJ.2 hJ.1 (fun p hp => .tail _ (.tail _ (.tail _ hp))) (own_v (I := I) (oI := oI) (D := D) (oD := lst ys) hN hx hk hl hd) _ _ _ FF NN fun y m' led' h'' tk'' hp F'' N'' => elt_end hS hJ.1 hO hp F'' N'') (fun ys nw h => fin ys nw h.2 h.1) n 0 [] led (Nat.zero_add _) ⟨fun _ h => h, h0⟩
theorem off1_ne {D : Addr} : ∀ {l : Led}, Off1 D l → ∀ p ∈ l, @Ne Nat p.1 D
  | [], _, _, h => nomatch h
  | _ :: _, x, p, h => by
    rcases List.mem_cons.mp h with rfl | h
    · exact x.1
    · exact off1_ne x.2 p h
end
section
variable {w : World} {D : Nat} {F : FnC} {b : Bx} {m : Str → Option Value} {led : Led} {ct elt iter g e : Expr} {x y : Str} {sc : Scope} {cl : List (Str × Addr)} {J : Nat → List Value → Led → Prop} {px py pos spos cp : Pos} {ax : Addr} {its : Array Value} {k n : Nat} {φ : Value → (Str → Option Value) → Led → Prop} {ψ : Flow → (Str → Option Value) → Led → Prop}
theorem lx_compT (hi : Px w F b (eval iter (evx F b)) (fun a => a = .ref ax) m led) (hm : (ax, listOf its k) ∈ led) (hz : its.size ≤ 1000) (h0 : J 0 [] led) (turn : TurnT w F b sc cl ct elt x m led (fun i v => its[i]? = some v) its.size J)
    (hq : ∀ D ys nw, J its.size ys nw → (∀ p ∈ led, p ∈ nw) → (∀ p ∈ nw, @Ne Nat p.1 D) → φ (.ref D) m ((D, lst ys) :: nw))
    (hclos : closureFor sc (evx F b) = pure cl) (hcell : ∀ y ∈ sc.names, y.2 ≠ .cell) (hkind : sc.kind = .function) (hnames : ∀ y ∈ sc.names, y.2 = .local → sc.names.lookup y.1 = some .local) (hx : sc.names.lookup x = some .local)
    (hk : ∀ C, (compEnvC sc cl C (evx F b)).scope.kind = .function) (hl : ∀ C, (compEnvC sc cl C (evx F b)).kindOf x = some .local) (hd : (x == ("__debug__" : Str)) = false) (hs : ∀ x, foldedSetIterable iter (evx F b) x = pure x) :
    Lx w F b (eval (.ListComp elt [⟨.Name x px, iter, [ct], 0⟩] sc pos) (evx F b)) φ m led := fun s Q E f N q =>
  ListComp_T f hclos hcell hkind hnames hx (hi s _ E f N fun a h' tk' pa F' N' => by
    subst pa
    exact CompSrcT.ledger (by exact rfl) F' N' hm (Nat.le_trans hz (by decide)) fun g => rest_T turn (fun nw h => .inr ⟨_, h _ hm, rfl, _, rfl⟩) h0 (fun ys nw hJ hsub D h tk F2 N2 o => q _ _ _ h tk (hq D ys nw hJ hsub (off1_ne o)) F2 N2) hk hl hd) hs
theorem lx_compU (hi : Px w F b (eval iter (evx F b)) (fun a => a = .ref ax) m led) (hm : (ax, listOf its k) ∈ led) (hz : its.size ≤ 1000) (h0 : J 0 [] led) (turn : TurnU w F b sc cl elt x m led (fun i v => its[i]? = some v) its.size J)
    (hq : ∀ D ys nw, J its.size ys nw → (∀ p ∈ led, p ∈ nw) → (∀ p ∈ nw, @Ne Nat p.1 D) → φ (.ref D) m ((D, lst ys) :: nw))
    (hclos : closureFor sc (evx F b) = pure cl) (hcell : ∀ y ∈ sc.names, y.2 ≠ .cell) (hkind : sc.kind = .function) (hnames : ∀ y ∈ sc.names, y.2 = .local → sc.names.lookup y.1 = some .local) (hx : sc.names.lookup x = some .local)
    (hk : ∀ C, (compEnvC sc cl C (evx F b)).scope.kind = .function) (hl : ∀ C, (compEnvC sc cl C (evx F b)).kindOf x = some .local) (hd : (x == ("__debug__" : Str)) = false) (hs : ∀ x, foldedSetIterable iter (evx F b) x = pure x) :
    Lx w F b (eval (.ListComp elt [⟨.Name x px, iter, [], 0⟩] sc pos) (evx F b)) φ m led := fun s Q E f N q =>
  ListComp_U f hclos hcell hkind hnames hx (hi s _ E f N fun a h' tk' pa F' N' => by
    subst pa
    exact CompSrc.ledger (by exact rfl) F' N' hm (Nat.le_trans hz (by decide)) fun g => rest_U turn (fun nw h => .inr ⟨_, h _ hm, rfl, _, rfl⟩) h0 (fun ys nw hJ hsub D h tk F2 N2 o => q _ _ _ h tk (hq D ys nw hJ hsub (off1_ne o)) F2 N2) hk hl hd) hs
theorem lx_asgT (hi : Px w F b (eval iter (evx F b)) (fun a => a = .ref ax) m led) (hm : (ax, listOf its k) ∈ led) (hz : its.size ≤ 1000) (h0 : J 0 [] led) (turn : TurnT w F b sc cl ct elt x m led (fun i v => its[i]? = some v) its.size J)
    (hq : ∀ D ys nw, J its.size ys nw → (∀ p ∈ led, p ∈ nw) → (∀ p ∈ nw, @Ne Nat p.1 D) → ψ .next (ms m y (.ref D)) ((D, lst ys) :: nw))
    (hsw : swapsWith (.ListComp elt [⟨.Name x px, iter, [ct], 0⟩] sc pos) (some (.Name y py)) spos.line (evx F b) = pure true)
    (hclos : closureFor sc (evx F b) = pure cl) (hcell : ∀ y ∈ sc.names, y.2 ≠ .cell) (hkind : sc.kind = .function) (hnames : ∀ y ∈ sc.names, y.2 = .local → sc.names.lookup y.1 = some .local) (hx : sc.names.lookup x = some .local)
    (hy : (evx F b).kindOf y = some .local) (hp : (((evx F b).scope.kind == .class) || (((evx F b).scope.kind == .module) && (evx F b).locals != (evx F b).globals)) = false)
    (hk : ∀ C, (compEnvC sc cl C (evx F b)).scope.kind = .function) (hl : ∀ C, (compEnvC sc cl C (evx F b)).kindOf x = some .local) (hd : (x == ("__debug__" : Str)) = false) (hs : ∀ x, foldedSetIterable iter (evx F b) x = pure x) :
    Lx w F b (exec (.Assign [.Name y py] (.ListComp elt [⟨.Name x px, iter, [ct], 0⟩] sc pos) spos) (evx F b)) ψ m led := fun s Q E f N q =>
  Assign_ListComp_T f rfl hsw hclos hcell hkind hnames hx hy hp (hi s _ E f N fun a h' tk' pa F' N' => by
    subst pa
    exact CompSrcT.ledger (by exact rfl) F' N' hm (Nat.le_trans hz (by decide)) fun g => rest_T turn (fun nw h => .inr ⟨_, h _ hm, rfl, _, rfl⟩) h0 (fun ys nw hJ hsub D h tk F2 N2 o => q _ _ _ h tk (hq D ys nw hJ hsub (off1_ne o)) F2 N2) hk hl hd) hs
theorem lx_asgR (hr : Px w F b (eval g (evx F b)) (fun a => a = .type "range") m led) (he : Px w F b (eval e (evx F b)) (IsI (n : Int)) m led) (hn : n ≤ 1000) (h0 : J 0 [] led) (turn : TurnT w F b sc cl ct elt x m led (fun i v => IsI (i : Int) v) n J)
    (hq : ∀ D ys nw, J n ys nw → (∀ p ∈ led, p ∈ nw) → (∀ p ∈ nw, @Ne Nat p.1 D) → ψ .next (ms m y (.ref D)) ((D, lst ys) :: nw))
    (hsw : swapsWith (.ListComp elt [⟨.Name x px, .Call g [e] [] cp, [ct], 0⟩] sc pos) (some (.Name y py)) spos.line (evx F b) = pure true)
    (hclos : closureFor sc (evx F b) = pure cl) (hcell : ∀ y ∈ sc.names, y.2 ≠ .cell) (hkind : sc.kind = .function) (hnames : ∀ y ∈ sc.names, y.2 = .local → sc.names.lookup y.1 = some .local) (hx : sc.names.lookup x = some .local)
    (hy : (evx F b).kindOf y = some .local) (hp : (((evx F b).scope.kind == .class) || (((evx F b).scope.kind == .module) && (evx F b).locals != (evx F b).globals)) = false)
    (hk : ∀ C, (compEnvC sc cl C (evx F b)).scope.kind = .function) (hl : ∀ C, (compEnvC sc cl C (evx F b)).kindOf x = some .local) (hd : (x == ("__debug__" : Str)) = false) (hs : ∀ x, foldedSetIterable (.Call g [e] [] cp) (evx F b) x = pure x)
    (ha : starEach [e] (evx F b) = (false, eval e (evx F b)) :: starEach [] (evx F b))
    (hc : eval (.Call g [e] [] cp) (evx F b) = (do callWith cp (← eval g (evx F b)) [] (backTo cp (starEach [e] (evx F b))) (backToKw cp (keywordEach [] (evx F b))))) :
    Lx w F b (exec (.Assign [.Name y py] (.ListComp elt [⟨.Name x px, .Call g [e] [] cp, [ct], 0⟩] sc pos) spos) (evx F b)) ψ m led := fun s Q E f N q =>
  Assign_ListComp_T f rfl hsw hclos hcell hkind hnames hx hy hp (Call_ (hr s _ _ f N fun a h' tk' pa F' N' => by
    subst pa
    refine Pv.callWith_type1 (px_args1 he ha _ _ _ F' N' fun vs h2' tk2' pa2 F2' N2' => ?_) ha rfl
    obtain ⟨_, rfl, t0, rfl⟩ := pa2
    refine range1_rows F2' N2' fun h3' tk3 t₁ u₁ v₁ R F3' N3' _ => ?_
    refine CompSrcT.range (n := n) (by exact rfl) F3' N3' R (small_up (Nat.le_trans hn (by decide))) (size_up n) (Nat.le_trans hn (by decide)) fun g => rest_T (P := fun i v => ∃ t, v = .int (0 + (i : Int)) t) (fun i v ys nw T C hi hP => turn i v ys nw T C hi (by obtain ⟨t, rfl⟩ := hP; exact ⟨t, by rw [Int.zero_add]⟩)) (fun nw h => trivial) h0 (fun ys nw hJ hsub D h tk F2 N2 o => q _ _ _ h tk (hq D ys nw hJ hsub (off1_ne o)) F2 N2) hk hl hd) hc) hs
end
/-! names in a comprehension -/
section
variable {w : World} {D : Nat} {F : FnC} {b : Bx} {m : Str → Option Value} {led : Led} {x : Str} {sc : Scope} {cl : List (Str × Addr)} {C c : Addr} {o : Obj} {v : Value} {p : Pos}
theorem px_ccell (hm : (c, o) ∈ led) (hd : o.data = .cell (some v)) (hc : cl.lookup x = some c) (hk : (compEnvC sc cl C (evx F b)).scope.kind = .function) (hx : (compEnvC sc cl C (evx F b)).kindOf x = some .cell) (hb : (x == ("__debug__" : Str)) = false) :
    Px w F b (eval (.Name x p) (compEnvC sc cl C (evx F b))) (fun a => a = v) m led := fun s Q E f N q => lcf_cell N hc hm hd (q _ s.heap s.toks rfl f N) hk hx hb
theorem px_cglob (ok : Okx w D b) (e : nsIn (Mine.hd.heap_39 w.params) mainGlobals x = some (some v)) (hk : (compEnvC sc cl C (evx F b)).scope.kind = .function) (hx : (compEnvC sc cl C (evx F b)).kindOf x = some .globalImplicit) (hd : (x == ("__debug__" : Str)) = false) :
    Px w F b (eval (.Name x p) (compEnvC sc cl C (evx F b))) (fun a => a = v) m led := fun s Q E f N q => LCgL.ld_global f ok.X ok.T e (q _ s.heap s.toks rfl f N) rfl hk hx hd
theorem px_cell (hm : (c, o) ∈ led) (hd : o.data = .cell (some v)) (hc : b.cl.lookup x = some c) (hk : F.cs.kind = .function) (hx : (evx F b).kindOf x = some .cell) (hb : (x == ("__debug__" : Str)) = false) :
    Px w F b (eval (.Name x p) (evx F b)) (fun a => a = v) m led := fun s Q E f N q => nameX_C N hc hm hd (q _ s.heap s.toks rfl f N) hk hx hb
theorem lx_cell {value : Expr} {pos pos' : Pos} {P : Value → Prop} {v₀ : Option Value} {g : Obj → Led} {φ : Flow → (Str → Option Value) → Led → Prop} (h : Px w F b (eval value (evx F b)) P m led) (U : UpdF c o led g) (hd : o.data = .cell v₀) (hc : b.cl.lookup x = some c) (hk : F.cs.kind = .function) (hx : (evx F b).kindOf x = some .cell)
    (hs : swapsWith value (some (.Name x pos')) pos.line (evx F b) = pure false) (hq : ∀ v o', P v → o'.data = .cell (some v) → φ .next m (g o')) : Lx w F b (exec (.Assign [.Name x pos'] value pos) (evx F b)) φ m led := fun s Q E f N q =>
  wpAny_Assign_Name (h s _ E f N fun v h' tk' pa F' N' => storeX_C F' N' hc U hd (fun h2 o' F2 N2 d2 => q _ _ _ h2 _ (hq v o' pa d2) F2 N2) hk hx) hs
theorem lx_augname {value : Expr} {op : Operator} {pos pos' : Pos} {P P' : Value → Prop} {old : Value} {φ : Flow → (Str → Option Value) → Led → Prop} (ho : m x = some old) (h : Px w F b (eval value (evx F b)) P m led) (hop : ∀ u, P u → Px w F b (inplaceOp op old u) P' m led) (hq : ∀ v, P' v → φ .next (ms m x v) led) (hk : F.cs.kind = .function) (hx : (evx F b).kindOf x = some .local) : Lx w F b (exec (.AugAssign (.Name x pos') op value pos) (evx F b)) φ m led := fun s Q E f N q =>
  wpAny_AugAssign_Name (wpAny_loadName_local hk hx f.ns ho (h s _ E f N fun u h' tk' pa F' N' => hop u pa _ _ E F' N' fun v h2 tk2 pv F2 N2 => storeX_L F2 N2 (fun h3 F3 N3 => q _ _ _ h3 _ (hq v pv) F3 N3) hk hx))
end
open PySem PySem.W PyProof.Rows PySem.Spec
set_option linter.unusedVariables false
set_option maxRecDepth 100000
set_option maxHeartbeats 8000000
def Ly {α : Type} (w : World) (F : FnC) (b : Bx) (t : Sem α) (s : Shared) (Q : α → Shared → Prop) (E : Value → Shared → Prop) (m : Str → Option Value) (led : Led) : Prop :=
  ∀ h tk, Fr b.g b.L h m → News b.g b.L h led → wpAny (model PG w) (tpx F b) t Q E { s with heap := h, toks := tk }
section
variable {w : World} {D D' : Nat} {F : FnC} {b : Bx} {m : Str → Option Value} {led : Led} {env : Env} {pos : Pos} {s : Shared} {Q : Flow → Shared → Prop} {E : Value → Shared → Prop} {x : Str} {P : Value → Prop} {c : Bool} {i j : Int} {l r e : Expr} {v : Value}
theorem ly_cons {st : Stmt} {rest : List Stmt} (ψ : Flow → (Str → Option Value) → Led → Prop) (h : Lx w F b (exec st env) ψ m led) (h1 : ∀ m' led', ψ .next m' led' → Ly w F b (execs rest env) s Q E m' led') (h2 : ∀ f m' led', f ≠ .next → ¬ ψ f m' led') : Ly w F b (execs (st :: rest) env) s Q E m led := fun hp tk f N =>
  wpAny_execs_cons (h _ _ E f N fun fl m' led' h' tk' p F' N' => by
    cases fl with
    | next => exact h1 _ _ p h' tk' F' N'
    | ret v => exact absurd p (h2 _ _ _ (by simp))
    | brk => exact absurd p (h2 _ _ _ (by simp))
    | cont => exact absurd p (h2 _ _ _ (by simp)))
inductive NmT (P : Value → Prop) (x : Str) (m : Str → Option Value) (led : Led) : Flow → (Str → Option Value) → Led → Prop
  | mk (v : Value) (h : P v) : NmT P x m led .next (ms m x v) led
theorem ly_name {value : Expr} {pos' : Pos} {rest : List Stmt} (h : Px w F b (eval value (evx F b)) P m led) (hq : ∀ v, P v → Ly w F b (execs rest (evx F b)) s Q E (ms m x v) led) (hk : F.cs.kind = .function) (hx : (evx F b).kindOf x = some .local)
    (hs : swapsWith value (some (.Name x pos')) pos.line (evx F b) = pure false) : Ly w F b (execs (.Assign [.Name x pos'] value pos :: rest) (evx F b)) s Q E m led :=
  ly_cons (NmT P x m led) (lx_nameC (h.lx fun v hv => .mk v hv) hk hx hs) (fun m' led' h => by obtain ⟨v, hv⟩ := h; exact hq v hv) fun f m' led' hf h => by cases h; exact hf rfl
def AllN (P : Value → Prop) (n : Nat) (vs : List Value) : Prop := vs.length = n ∧ ∀ v ∈ vs, P v
theorem px_all0 : Px w F b (spliced (backTo pos (starEach [] env))) (AllN P 0) m led := fun s Q E f N q => args_nil (q [] s.heap s.toks ⟨rfl, fun _ h => nomatch h⟩ f N)
theorem px_allS {n : Nat} {es : List Expr} (h1 : Px w F b (eval e env) P m led) (h2 : Px w F b (spliced (backTo pos (starEach es env))) (AllN P n) m led) (he : starEach (e :: es) env = (false, eval e env) :: starEach es env) : Px w F b (spliced (backTo pos (starEach (e :: es) env))) (AllN P (n + 1)) m led := fun s Q E f N q =>
  args_cons (h1 s _ E f N fun a h' tk' pa F' N' => h2 _ _ E F' N' fun vs h2' tk2' pvs F2' N2' => q (a :: vs) h2' tk2' ⟨congrArg (· + 1) pvs.1, all_P1 pa pvs.2⟩ F2' N2') he
inductive TbP (P : Value → Prop) (n : Nat) : Value → Led → Prop
  | mk (l : Addr) (vs : Array Value) (k : Nat) (hz : vs.size = n) (h : ∀ v ∈ vs.toList, P v) : TbP P n (.ref l) [(l, listOf vs k)]
theorem sx_table {n : Nat} {elts : List Expr} {lp : Pos} {φ : Flow → (Str → Option Value) → Led → Prop} {rest : List Stmt} (h : Px w F b (spliced (backTo lp (starEach elts env))) (AllN P n) m led) (hn : n ≤ 1000) (hq : ∀ r fp, TbP P n r fp → φ (.ret r) m (fp ++ led)) : Lx w F b (execs (.Return (some (.List elts lp)) pos :: rest) env) φ m led :=
  lx_seq (lx_retC fun s Q E f N q => List_ (h s _ E f N fun vs h' tk' p F' N' => newList_K F' N' (fun l h2' F2' N2' _ => q _ _ _ h2' _ (hq _ _ (.mk l _ 0 (by rw [List.size_toArray]; exact p.1) p.2)) F2' N2') (by rw [p.1]; exact Nat.le_trans hn (by decide))))
theorem px_tab {n f : Nat} {o slice : Expr} {cp : Pos} (ok : Okx w D b) (ho : Px w F b (eval o env) (fun a => a = .ref f) m led) (H : ∀ {rest}, Calls w D' f [] [] rest (TbP P n)) (h2 : ∀ z, Px w F b (eval slice env) (IsI i) m (z :: led)) (h0 : 0 ≤ i) (h1 : i < n) (hn : n ≤ 1000) (hk : F.cs.kind = .function) (hD : D' ≤ D) (hkf : keepIn (Mine.hd.heap_39 w.params) (.ref f) = true)
    (he : eval (.Call o [] [] cp) env = (do callWith cp (← eval o env) [] (backTo cp (starEach [] env)) (backToKw cp (keywordEach [] env))))
    (hs : ∀ l u, subscripted slice false (.ref l) (.int i u) = operate [.ref l, .int i u] (getItem (.ref l) (.int i u))) : Px w F b (eval (.Subscript (.Call o [] [] cp) slice pos) env) P m led := fun s Q E f N q =>
  Subscript_ (Call_ (ho s _ E f N fun a h' tk' pa F' N' => by
    subst pa
    refine callWith_K0 (ok.X.keeps F'.keep) hkf (H.use ok.B F' ok.X N' ok.T hk (by have := ok.hd; omega) (by have := ok.hu; omega) (fun p hp => hp) fun r fp' h2' tk2 F2 N2 hr => ?_)
    obtain ⟨l, vs, k, hz, hall⟩ := hr
    exact h2 _ _ _ E F2 N2 fun a2 h3' tk3 pa2 F3 N3 => by
      obtain ⟨t, rfl⟩ := pa2
      exact item_P P N3 (.head _) h0 (by omega) (by omega) hall (fun v hv => q v h3' _ hv F3 (news_of N3 fun _ h => .tail _ h)) (hs l t)) he)
end
section
variable {w : World} {D : Nat} {rest : Led}
theorem px_nilC {F : FnC} {b : Bx} {m : Str → Option Value} {led : Led} {env : Env} {k pos} {P : Value → Prop} {c : List UInt8} (h : ∀ t, P (.bytes c.toArray t)) : Px w F b (eval (.Constant (.bytes c) k pos) env) P m led := px_bytes.mono fun v hv => by obtain ⟨t, rfl⟩ := hv; exact h t
theorem px_intC {F : FnC} {b : Bx} {m : Str → Option Value} {led : Led} {env : Env} {k pos} {P : Value → Prop} {i : Int} (h : ∀ t, P (.int i t)) : Px w F b (eval (.Constant (.int i) k pos) env) P m led := px_int.mono fun v hv => by obtain ⟨t, rfl⟩ := hv; exact h t
theorem users_c : Calls w (D + 1) 622 [] [] rest (TbP UsrV 4) := by
  refine' calls_ofG (binds := []) ?ho ?hcd ?hb ?hl ?c1 ?c2 ?c3 ?c4 ?_
  fail "e"
  intro bb ok φ kφ
  exact sx_table (px_allS (px_nilC fun t => usrV (by decide)) (px_allS (px_nilC fun t => usrV (by decide)) (px_allS (px_nilC fun t => usrV (by decide)) (px_allS (px_nilC fun t => usrV (by decide)) px_all0 rfl) rfl) rfl) rfl) (by decide) fun r fp h => kφ (.ret r) _ fp h
theorem seqs_c : Calls w (D + 1) 629 [] [] rest (TbP SeqV 5) := by
  refine' calls_ofG (binds := []) ?ho ?hcd ?hb ?hl ?c1 ?c2 ?c3 ?c4 ?_
  fail "e"
  intro bb ok φ kφ
  exact sx_table (px_allS (px_intC fun t => seqV1) (px_allS (px_intC fun t => seqV2) (px_allS (px_intC fun t => seqV3) (px_allS (px_intC fun t => seqV4) (px_allS (px_intC fun t => seqV5) px_all0 rfl) rfl) rfl) rfl) rfl) (by decide) fun r fp h => kφ (.ret r) _ fp h
theorem limits_c : Calls w (D + 1) 636 [] [] rest (TbP LimV 6) := by
  refine' calls_ofG (binds := []) ?ho ?hcd ?hb ?hl ?c1 ?c2 ?c3 ?c4 ?_
  fail "e"
  intro bb ok φ kφ
  exact sx_table (px_allS (px_intC fun t => limV (by decide) (by decide)) (px_allS (px_intC fun t => limV (by decide) (by decide)) (px_allS (px_intC fun t => limV (by decide) (by decide)) (px_allS (px_intC fun t => limV (by decide) (by decide)) (px_allS (px_intC fun t => limV (by decide) (by decide)) (px_allS (px_intC fun t => limV (by decide) (by decide)) px_all0 rfl) rfl) rfl) rfl) rfl) rfl) (by decide) fun r fp h => kφ (.ret r) _ fp h
theorem bounds_c : Calls w (D + 1) 643 [] [] rest (TbP BndV 7) := by
  refine' calls_ofG (binds := []) ?ho ?hcd ?hb ?hl ?c1 ?c2 ?c3 ?c4 ?_
  fail "e"
  intro bb ok φ kφ
  exact sx_table (px_allS (px_none.mono fun v h => h ▸ bndV0) (px_allS (px_nilC fun t => bndV1 (by decide)) (px_allS (px_none.mono fun v h => h ▸ bndV0) (px_allS (px_nilC fun t => bndV1 (by decide)) (px_allS (px_nilC fun t => bndV1 (by decide)) (px_allS (px_nilC fun t => bndV1 (by decide)) (px_allS (px_nilC fun t => bndV1 (by decide)) px_all0 rfl) rfl) rfl) rfl) rfl) rfl) rfl) (by decide) fun r fp h => kφ (.ret r) _ fp h
theorem targets_c : Calls w (D + 1) 650 [] [] rest (TbP TgtV 6) := by
  refine' calls_ofG (binds := []) ?ho ?hcd ?hb ?hl ?c1 ?c2 ?c3 ?c4 ?_
  fail "e"
  intro bb ok φ kφ
  exact sx_table (px_allS (px_nilC fun t => tgtV (by decide)) (px_allS (px_nilC fun t => tgtV (by decide)) (px_allS (px_nilC fun t => tgtV (by decide)) (px_allS (px_nilC fun t => tgtV (by decide)) (px_allS (px_nilC fun t => tgtV (by decide)) (px_allS (px_nilC fun t => tgtV (by decide)) px_all0 rfl) rfl) rfl) rfl) rfl) rfl) (by decide) fun r fp h => kφ (.ret r) _ fp h
def bL (A₀ : Around) (base h₀ : Heap) (L : Addr) (mg mb : Str → Option Value) (mean : ExcName → Option Value) : Bx := ⟨callerA.depth + 1, callerA.units + 3, callerA.guards, cellsFrom (L + 1) lawSc.names [], [], A₀, base, h₀, L, mg, mb, mean⟩
abbrev FL (a : Addr) (ccd : Value) : FnC := ⟨Str.ofString "law", lawSc, a, ccd⟩
theorem okL {A₀ : Around} {base h₀ : Heap} {L : Addr} {mg mb : Str → Option Value} {mean : ExcName → Option Value} (B : Below A₀ base [] h₀) (X : (Mine.hd.heap_39 w.params).In h₀) (T : Top VW (looseW VW []) mean mg mb h₀) : Okx w 100 (bL A₀ base h₀ L mg mb mean) := ⟨B, X, T, by show callerA.depth + 1 + 100 < recursionLimit; decide, by show callerA.units + 3 + _ < _; decide⟩
end
open PySem PySem.W PyProof.Rows PySem.Spec
set_option linter.unusedVariables false
set_option maxRecDepth 100000
set_option maxHeartbeats 8000000
inductive Cn (P : Value → Prop) (A : List Value → Prop) : List Value → Prop
  | mk (v : Value) (r : List Value) (hv : P v) (hr : A r) : Cn P A (v :: r)
section
variable {w : World} {D D' : Nat} {F : FnC} {b : Bx} {m : Str → Option Value} {led : Led} {env : Env} {pos : Pos} {s : Shared} {Q : Flow → Shared → Prop} {E : Value → Shared → Prop} {x : Str} {P : Value → Prop} {c : Bool} {i j : Int} {l r e : Expr} {v : Value}
theorem px_cn {A : List Value → Prop} {es : List Expr} (h1 : Px w F b (eval e env) P m led) (h2 : Px w F b (spliced (backTo pos (starEach es env))) A m led) (he : starEach (e :: es) env = (false, eval e env) :: starEach es env) : Px w F b (spliced (backTo pos (starEach (e :: es) env))) (Cn P A) m led := fun s Q E f N q =>
  args_cons (h1 s _ E f N fun a h' tk' pa F' N' => h2 _ _ E F' N' fun vs h2' tk2' pvs F2' N2' => q (a :: vs) h2' tk2' (.mk a vs pa pvs) F2' N2') he
theorem px_cn0 : Px w F b (spliced (backTo pos (starEach [] env))) (fun vs => vs = []) m led := fun s Q E f N q => args_nil (q [] s.heap s.toks rfl f N)
theorem ly_tup {elts : List Expr} {k : Nat} {tp pos' : Pos} {rest : List Stmt} {A : List Value → Prop} (h : Px w F b (spliced (backTo tp (starEach elts (evx F b)))) A m led) (hz : ∀ vs, A vs → vs.length ≤ 1000) (hq : ∀ vs hd, A vs → (∀ p ∈ led, @LT.lt Nat _ p.1 hd) → Ly w F b (execs rest (evx F b)) s Q E (ms m x (.ref hd)) ((hd, tupObj vs 0) :: led)) (hk : F.cs.kind = .function) (hx : (evx F b).kindOf x = some .local)
    (hs : swapsWith (.Tuple elts k tp) (some (.Name x pos')) pos.line (evx F b) = pure false) : Ly w F b (execs (.Assign [.Name x pos'] (.Tuple elts k tp) pos :: rest) (evx F b)) s Q E m led :=
  ly_cons (fun fl m' led' => fl = .next ∧ ∃ vs hd, A vs ∧ (∀ p ∈ led, @LT.lt Nat _ p.1 hd) ∧ m' = ms m x (.ref hd) ∧ led' = (hd, tupObj vs 0) :: led)
    (lx_nameC (fun s Q E f N q => Tuple_ (h s _ E f N fun vs h' tk' pa F' N' => kup_newTuple F' N' (fun a h2' F2' N2' hlt => q _ m _ h2' _ ⟨rfl, vs, a, pa, hlt, rfl, rfl⟩ F2' N2') (Nat.le_trans (hz vs pa) (by decide)))) hk hx hs)
    (fun m' led' h => by obtain ⟨-, vs, hd, pa, hlt, rfl, rfl⟩ := h; exact hq vs hd pa hlt) fun f m' led' hf h => hf h.1
theorem ly_if {test : Expr} {body : List Stmt} {rest : List Stmt} (h : Px w F b (isTrue test env (eval test env)) (fun a => a = c) m led) (ψ : (Str → Option Value) → Prop) (h1 : c = true → Lx w F b (execs body env) (fun fl m' led' => fl = .next ∧ ψ m' ∧ led' = led) m led) (h2 : c = false → ψ m) (hq : ∀ m', ψ m' → Ly w F b (execs rest env) s Q E m' led) : Ly w F b (execs (.If test body [] pos :: rest) env) s Q E m led :=
  ly_cons (fun fl m' led' => fl = .next ∧ ψ m' ∧ led' = led) (fun s Q E f N q => wpAny_If (h s _ E f N fun a h' tk' pa F' N' => by
      subst pa
      cases a with
      | true => exact h1 rfl _ _ _ F' N' q
      | false => exact wpAny_execs_nil (q .next m led h' tk' ⟨rfl, h2 rfl, rfl⟩ F' N')))
    (fun m' led' h => by obtain ⟨-, p, rfl⟩ := h; exact hq m' p) fun f m' led' hf h => hf h.1
theorem px_draw {nl : Addr} {vs : Array Value} {n kk : Nat} {g e1 e2 : Expr} {cp : Pos} (ok : Okx w D b) (hn : NumsIn led nl vs n kk) (hg : Px w F b (eval g env) (fun a => a = .ref 657) m led) (h1 : Px w F b (eval e1 env) (fun a => a = .ref nl) m led) (h2 : Px w F b (eval e2 env) (IsI i) m led) (h0 : 0 ≤ i) (hi : i ≤ 20) (hk : F.cs.kind = .function) (hD : 1 ≤ D)
    (ha : starEach [e1, e2] env = (false, eval e1 env) :: starEach [e2] env) (ha2 : starEach [e2] env = (false, eval e2 env) :: starEach [] env) (hp : (backTo cp (starEach [e2] env)).any (·.1) = false)
    (he : eval (.Call g [e1, e2] [] cp) env = (do callWith cp (← eval g env) [] (backTo cp (starEach [e1, e2] env)) (backToKw cp (keywordEach [] env)))) : Px w F b (eval (.Call g [e1, e2] [] cp) env) IsD m led :=
  pf1 ok hg (px_args2 h1 h2 ha ha2) (fun vs h => by
    obtain ⟨_, _, rfl, rfl, t, rfl⟩ := h
    exact px_call ok (draw_c hn h0 hi) (fun _ _ h => h) (fun p hp => nomatch hp) hk hD) (by fail "r") ha hp he
end
section
variable {w : World} {A₀ : Around} {base h₀ : Heap} {L a : Addr} {ccd : Value} {m mg mb : Str → Option Value} {mean : ExcName → Option Value} {s : Shared} {rest led : Led} {Q : Flow → Shared → Prop} {E : Value → Shared → Prop} {R : List Stmt}
inductive KdP (m : Str → Option Value) : (Str → Option Value) → Prop
  | mk (m' : Str → Option Value) (kd : Nat) (h : kd ≤ 1) (hv : ∃ v, m' "kind" = some v ∧ IsI (kd : Int) v) (he : ∀ y : Str, y ≠ "kind" → m' y = m y) : KdP m m'
theorem st9a {nl : Addr} {vs : Array Value} {n kk i cnt : Nat} {ti tc : Tok} (B : Below A₀ base [] h₀) (F : Fr h₀ L s.heap m) (X : (Mine.hd.heap_39 w.params).In h₀) (N : News h₀ L s.heap (led)) (T : Top VW (looseW VW []) mean mg mb h₀)
    (hn : NumsIn led nl vs n kk) (e1 : m "nums" = some (.ref nl)) (e2 : m "count" = some (.int (cnt : Int) tc)) (e3 : m "i" = some (.int (i : Int) ti)) (hi : i < 5) (hc : 0 < cnt) (hc2 : cnt ≤ 3)
    (k : ∀ hd u (q kd c : Nat) t1 t2 t3 t4 nn m' h' tk', u ∈ usersL → seqOk q → kd ≤ 1 → c < cnt → (∀ p ∈ led, @LT.lt Nat _ p.1 hd) → (∀ y : Str, y ≠ "x" → y ≠ "kind" → y ≠ "head" → m' y = m y) → m' "head" = some (.ref hd) → Fr h₀ L h' m' → News h₀ L h' ((hd, tupObj [.bytes u t1, .int (0 - (q : Int)) t2, .int (0 - (kd : Int)) t3, .int (c : Int) t4] nn) :: led) → wpAny (model Challenge.rw_no0415_01.row.prog w) (callerA.deeper (envOfC (Str.ofString "law") lawSc L a ccd)) (execs (R) (envOfC (Str.ofString "law") lawSc L a ccd)) Q E { s with heap := h', toks := tk' }) :
    wpAny (model Challenge.rw_no0415_01.row.prog w) (callerA.deeper (envOfC (Str.ofString "law") lawSc L a ccd)) (execs (lawBody 9 0 :: lawBody 9 1 :: lawBody 9 2 :: lawBody 9 3 :: R) (envOfC (Str.ofString "law") lawSc L a ccd)) Q E s := by
  have ok := okL (L := L) (mean := mean) (mg := mg) (mb := mb) B X T
  refine (?_ : Ly w (FL a ccd) (bL A₀ base h₀ L mg mb mean) (execs (lawBody 9 0 :: lawBody 9 1 :: lawBody 9 2 :: lawBody 9 3 :: R) (evx (FL a ccd) (bL A₀ base h₀ L mg mb mean))) s Q E m led) s.heap s.toks F N
  conv in (lawBody _ _) => whnf
  conv in (lawBody _ _) => whnf
  conv in (lawBody _ _) => whnf
  conv in (lawBody _ _) => whnf
  refine ly_name (px_draw ok hn (px_glob ok (by fail "r") rfl rfl rfl) (px_name e1 rfl rfl rfl) (px_add px_int (px_nameP ⟨_, e3, _, rfl⟩ rfl rfl rfl)) (by omega) (by omega) rfl (by decide) rfl rfl rfl rfl) (fun vx hv => ?_) rfl rfl rfl
  obtain ⟨z, hz, h0, h1⟩ := hv
  refine ly_name px_int (fun v hv => ly_if (pc_eqI (px_fmod (px_mod60 (px_nameP ⟨_, rfl, hz⟩ rfl rfl rfl) px_int (by decide) (by decide)) px_int (by decide)) px_int rfl) (KdP (ms m "x" vx)) (fun _ => sx_name px_int (fun v hv => lx_nil ⟨rfl, .mk _ 0 (by decide) ⟨v, rfl, hv⟩ fun y hy => by simp only [ms, if_neg hy], rfl⟩) rfl rfl rfl) (fun _ => .mk _ 1 (by decide) ⟨v, rfl, hv⟩ fun y hy => by simp only [ms, if_neg hy]) (fun m' hm' => ?_)) rfl rfl rfl
  obtain ⟨kd, hkd, hk, hm⟩ := hm'
  have c0 := Int.fmod_nonneg_of_pos (z.fdiv 60 + (i : Int)) (b := (cnt : Int)) (by omega)
  have c1 := Int.fmod_lt_of_pos (z.fdiv 60 + (i : Int)) (b := (cnt : Int)) (by omega)
  have hx := hm "x" (by decide)
  refine ly_tup (px_cn (P := UsrV) (px_tab ok (px_glob ok (by fail "r") rfl rfl rfl) (users_c (D := 0)) (fun _ => px_fmod (px_nameP ⟨_, hx, hz⟩ rfl rfl rfl) px_int (by decide)) (Int.fmod_nonneg_of_pos _ (by decide)) (Int.fmod_lt_of_pos _ (by decide)) (by decide) rfl (by decide) (by fail "r") rfl fun _ _ => (by fail "r"))
    (px_cn (P := fun v => ∃ q : Nat, seqOk q ∧ IsI (0 - (q : Int)) v) (px_binop px_int (px_tab ok (px_glob ok (by fail "r") rfl rfl rfl) (seqs_c (D := 0)) (fun _ => px_fmod (px_mod60 (px_nameP ⟨_, hx, hz⟩ rfl rfl rfl) px_int (by decide) (by decide)) px_int (by decide)) (Int.fmod_nonneg_of_pos _ (by decide)) (Int.fmod_lt_of_pos _ (by decide)) (by decide) rfl (by decide) (by fail "r") rfl fun _ _ => (by fail "r")) fun u v hu hv s Q E f N q => by
        obtain ⟨t, rfl⟩ := hu; obtain ⟨sq, t', rfl, hsq⟩ := hv; exact sub_int (q _ s.heap _ ⟨sq, hsq, _, rfl⟩ f N)) (px_cn (px_sub px_int (px_nameP hk rfl rfl rfl)) (px_cn (px_fmod (px_add (px_mod60 (px_nameP ⟨_, hx, hz⟩ rfl rfl rfl) px_int (by decide) (by decide)) (px_nameP ⟨_, (hm "i" (by decide)).trans e3, _, rfl⟩ rfl rfl rfl)) (px_nameP ⟨_, (hm "count" (by decide)).trans e2, _, rfl⟩ rfl rfl rfl) (by simp; omega)) px_cn0 rfl) rfl) rfl) rfl) (fun vs h => ?_) (fun vs hd h hlt => ?_) rfl rfl rfl
  · obtain ⟨_, _, -, _, _, -, _, _, -, _, _, -, rfl⟩ := h
    show 4 ≤ 1000
    decide
  · obtain ⟨_, _, ⟨u, t1, rfl, hu⟩, _, _, ⟨sq, hsq, t2, rfl⟩, _, _, ⟨t3, rfl⟩, _, _, ⟨t4, rfl⟩, rfl⟩ := h
    generalize (z.fdiv 60 + (i : Int)).fmod (cnt : Int) = cc at c0 c1
    obtain ⟨cc, rfl⟩ := Int.eq_ofNat_of_zero_le c0
    exact fun h' tk' F' N' => k hd u sq kd cc t1 t2 t3 t4 _ _ h' tk' hu hsq hkd (by omega) hlt (fun y a1 a2 a3 => by simp only [ms, if_neg a3, hm y a2, if_neg a1]) rfl F' N'
end
open PySem PySem.W PyProof.Rows PySem.Spec
set_option linter.unusedVariables false
set_option maxRecDepth 100000
set_option maxHeartbeats 8000000
section
variable {w : World} {D D' : Nat} {F : FnC} {b : Bx} {m : Str → Option Value} {led : Led} {env : Env} {pos : Pos} {e l' r : Expr} {i : Int} {n : Nat} {P : Value → Prop} {whole : Sem Value}
inductive NewL (m : Str → Option Value) (led : Led) (R : Array Value → Led → Prop) : Value → (Str → Option Value) → Led → Prop
  | mk (l : Addr) (ys : Array Value) (k : Nat) (led' : Led) (hm : (l, listOf ys k) ∈ led') (hs : ∀ p ∈ led, p ∈ led') (h : R ys led') : NewL m led R (.ref l) m led'
theorem px_lenL (h1 : Lx w F b (eval e env) (NewL m led fun ys _ => ys.size = n) m led) (hn : Px w F b (eval l' env) (fun a => a = .builtin "len") m led) (hz : n ≤ 1000)
    (ha : starEach [e] env = (false, eval e env) :: starEach [] env)
    (he : eval (.Call l' [e] [] pos) env = (do callWith pos (← eval l' env) [] (backTo pos (starEach [e] env)) (backToKw pos (keywordEach [] env)))) : Px w F b (eval (.Call l' [e] [] pos) env) (IsI n) m led :=
  fun s Q E f N q => Call_ (hn s _ E f N fun a h' tk' pa F' N' => by
    subst pa
    exact callWith_method1 (args_cons (h1 _ _ E F' N' fun v m' led' h2 tk2 hv F2 N2 => by
      obtain ⟨l, ys, k, _, hm, hs, rfl⟩ := hv
      exact args_nil (PySem.Calls.call_len_list (News.isList N2 hm) (by omega) (q _ h2 _ ⟨_, rfl⟩ F2 (news_of N2 hs)))) ha) ha rfl) he
inductive CutT (m : Str → Option Value) (led : Led) (zs : List Value) : Value → (Str → Option Value) → Led → Prop
  | mk (D : Addr) (hlt : ∀ p ∈ led, @LT.lt Nat _ p.1 D) : CutT m led zs (.ref D) m ((D, tupObj zs 0) :: led)
theorem lx_cut {o up : Expr} {sp : Pos} {t : Addr} {vs zs : List Value} (h1 : Px w F b (eval o env) (fun a => a = .ref t) m led) (h2 : Px w F b (eval up env) (IsI i) m led) (hm : (t, tupObj vs n) ∈ led) (h0 : 0 ≤ i) (h3 : i < (vs.length : Int)) (hz : vs.length ≤ 1000) (hv : vs.take i.toNat = zs)
    (hs : ∀ x, subscripted (.Slice none (some up) none sp) false (.ref t) (.ref x) = operate [.ref x, .ref t] (getItem (.ref t) (.ref x))) (hg : ∀ r, letTemporaryGo o (.ref t) r = pure ()) :
    Lx w F b (eval (.Subscript o (.Slice none (some up) none sp) pos) env) (CutT m led zs) m led := fun s Q E f N q =>
  Subscript_ (h1 s _ E f N fun a h' tk' pa F' N' => by
    subst pa
    refine wpAny_Slice (wpAny_pure (h2 _ _ E F' N' fun a2 h2' tk2 pa2 F2 N2 => ?_))
    obtain ⟨u, rfl⟩ := pa2
    exact wpAny_pure (slice_tup (s := { s with heap := h2', toks := tk2 }) F2 N2 hm h0 h3 hz hv (fun D h3' F3 N3 hlt => q _ _ _ h3' _ (.mk D hlt) F3 N3) (hs _) hg))
theorem pc_cutLt {o up : Expr} {sp tp pos' : Pos} {t : Addr} {vs zs : List Value} {elts : List Expr} {k : Nat} {A : List Value → Prop} {ds es : List FD} (ok : Okx w D b) (h1 : Px w F b (eval o env) (fun a => a = .ref t) m led) (h2 : Px w F b (eval up env) (IsI i) m led) (hm : (t, tupObj vs n) ∈ led) (h0 : 0 ≤ i) (h3 : i < (vs.length : Int)) (hz : vs.length ≤ 1000) (hv : vs.take i.toNat = zs) (hd : FAll zs ds)
    (ha : ∀ z, Px w F b (spliced (backTo tp (starEach elts env))) A m (z :: led)) (hA : ∀ ws, A ws → FAll ws es ∧ ws.length ≤ 1000) (hK : kindsAll ds es)
    (hs : ∀ x, subscripted (.Slice none (some up) none sp) false (.ref t) (.ref x) = operate [.ref x, .ref t] (getItem (.ref t) (.ref x))) (hg : ∀ r, letTemporaryGo o (.ref t) r = pure ()) (hb : behindInMarks .Lt (.Tuple elts k tp) = false) :
    Px w F b (isTrue (.Compare (.Subscript o (.Slice none (some up) none sp) pos) [.Lt] [.Tuple elts k tp] pos') env whole) (fun a => a = ltL ds es) m led := fun s Q E f N q =>
  wpAny_isTrue_Compare1 (lx_cut h1 h2 hm h0 h3 hz hv hs hg s _ E f N fun v m' led' h' tk' hv' F' N' => by
    obtain ⟨D, hlt⟩ := hv'
    exact Tuple_ (ha _ _ _ E F' N' fun ws h2' tk2 pa F2 N2 => kup_newTuple F2 N2 (fun D2 h3' F3 N3 hlt2 => lt_tuples N3 (.tail _ (.head _)) (.head _) hd (hA ws pa).1 hK (by have := ok.hu; have e : (tpx F b).units = b.un := rfl; rw [e]; omega)
      (wpAny_truthy_bool (q _ h3' tk2 rfl F3 (news_of N3 fun p hp => .tail _ (.tail _ hp))))) (Nat.le_trans (hA ws pa).2 (by decide)))) hb
theorem px_lik {u : Array UInt8} {q kd : Nat} (ok : Okx w D b) (hk : F.cs.kind = .function) (hD : 1 ≤ D) (hq : seqOk q) (hkd : kd ≤ 1) (hu : u.size ≤ 1000) {t0 t1 t2 : Tok} : Px w F b (call (.ref 664) [.bytes u t0, .int (q : Int) t1, .int (kd : Int) t2]) (IsB (ikb ⟨u, q, kd⟩)) m led := fun s Q E f N qq =>
  (px_call ok (lik_c (t0 := t0) (t1 := t1) (t2 := t2) hq hkd hu) (fun _ _ h => h) (fun _ h => nomatch h) hk hD : Px w F b _ _ m led) s Q E f N qq
theorem px_wk {wk : Bool} {rows : List RowB} {W : Led → Led → Addr → Option Nat → Prop} {fp rest : Led} {c : Addr} {p : Option Nat} {pl : Sem Bool} (ok : Okx w D b) (S : WkSpec w D' wk rows W) (hC : W fp rest c p) (hs : ∀ p ∈ fp ++ rest, p ∈ led) (mn : MN) : Px w F b (getMethod (.ref c) mn.name pl) (fun a => a = (.ref (adrW wk mn), [.ref c])) m led := by
  obtain ⟨dx, es, n, h1, h2, h3⟩ := S.obj hC
  have h3 := h3 mn
  have h1 := hs _ (List.mem_append_right _ h1)
  have h2 := hs _ (List.mem_append_left _ h2)
  cases wk <;> cases mn <;> exact px_meth ok h1 h2 h3 (by fail "r") (by fail "r") (by fail "r")
theorem keepW (w : World) (kd : Bool) (mn : MN) : keepIn (Mine.hd.heap_39 w.params) (.ref (adrW kd mn)) = true := by
  cases kd <;> cases mn <;> rfl
end
open PySem PySem.W PyProof.Rows PySem.Spec PyProof.Rows.LCg
set_option linter.unusedVariables false
set_option maxRecDepth 100000
set_option maxHeartbeats 8000000
theorem off_E {fp R1 : Led} {T S : Addr} {a b : Obj} (ho : Off fp R1) (hap : ∀ p ∈ fp ++ R1, p.1 ≠ T ∧ p.1 ≠ S) : Off fp ((T, a) :: (S, b) :: R1) := fun p hp q hq => by
  have h := hap p (List.mem_append_left _ hp)
  rcases List.mem_cons.mp hq with rfl | hq
  · exact fun e => h.1 e.symm
  · rcases List.mem_cons.mp hq with rfl | hq
    · exact fun e => h.2 e.symm
    · exact ho p hp q hq
theorem led_in {fp R1 : Led} {x y : Addr × Obj} : ∀ p ∈ fp ++ (x :: y :: R1), p ∈ x :: y :: (fp ++ R1) := fun p hp => by
  rcases List.mem_append.mp hp with hp | hp
  · exact .tail _ (.tail _ (List.mem_append_left _ hp))
  · rcases List.mem_cons.mp hp with rfl | hp
    · exact .head _
    · rcases List.mem_cons.mp hp with rfl | hp
      · exact .tail _ (.head _)
      · exact .tail _ (.tail _ (List.mem_append_right _ hp))
theorem led_out {fp R1 : Led} {x y : Addr × Obj} : ∀ p ∈ x :: y :: (fp ++ R1), p ∈ fp ++ (x :: y :: R1) := fun p hp => by
  rcases List.mem_cons.mp hp with rfl | hp
  · exact List.mem_append_right _ (.head _)
  · rcases List.mem_cons.mp hp with rfl | hp
    · exact List.mem_append_right _ (.tail _ (.head _))
    · rcases List.mem_append.mp hp with hp | hp
      · exact List.mem_append_left _ hp
      · exact List.mem_append_right _ (.tail _ (.tail _ hp))
theorem apart_new {fp fp' R1 : Led} {T S : Addr} (hs : sameAdr fp' fp) (hap : ∀ p ∈ fp ++ R1, p.1 ≠ T ∧ p.1 ≠ S) : ∀ p ∈ fp' ++ R1, p.1 ≠ T ∧ p.1 ≠ S := fun p hp => by
  rcases List.mem_append.mp hp with hp | hp
  · have : p.1 ∈ fp.map (·.1) := hs ▸ List.mem_map_of_mem hp
    obtain ⟨q, hq, e⟩ := List.mem_map.mp this
    have := hap q (List.mem_append_left _ hq)
    rw [e] at this
    exact this
  · exact hap p (List.mem_append_right _ hp)
theorem countP_take {α : Type} {l : List α} {p : α → Bool} {i : Nat} {e : α} (h : l[i]? = some e) : (l.take (i + 1)).countP p = (l.take i).countP p + if p e = true then 1 else 0 := by
  rw [List.take_add_one, h, List.countP_append]
  exact congrArg (_ + ·) (by show List.countP p [e] = _; rw [List.countP_cons, List.countP_nil, Nat.zero_add])
def JCnt {α : Type} (l : List α) (p : α → Bool) (i : Nat) (ys : List Value) (nw : Led) : Prop := ys.length = (l.take i).countP p
theorem jcnt {α : Type} {l : List α} {p : α → Bool} {i : Nat} {e : α} {w : World} {F : FnC} {b : Bx} {env : Env} {x : Str} {v : Value} {m : Str → Option Value} {ys : List Value} {nw T : Led} {ct : Expr} {px : Pos} (he : l[i]? = some e) (hJ : JCnt l p i ys nw) (hown : OwnV w F b env x v m T) (h1 : Px w F b (isTrue ct env (eval ct env)) (fun a => a = p e) m T) : TurnR w F b env ct (.Name x px) m ys nw T (JCnt l p (i + 1)) :=
  .mk (p e) h1 (fun h => (hown T px fun _ h => h).lx fun a ha => EltP.mk a [] (fun _ h => nomatch h) (by unfold JCnt at hJ ⊢; rw [countP_take he, if_pos h, List.length_append, hJ]; rfl)) fun h => by unfold JCnt at hJ ⊢; rw [countP_take he, if_neg (by rw [h]; exact Bool.false_ne_true), hJ]; rfl
theorem jcnt_all {α : Type} {l : List α} {p : α → Bool} {n : Nat} {ys : List Value} {nw : Led} (h : JCnt l p n ys nw) (hn : n = l.length) : ys.toArray.size = l.countP p := by
  subst hn
  rw [List.size_toArray]
  unfold JCnt at h
  rwa [List.take_length] at h
inductive ActP (W : Led → Led → Addr → Option Nat → Prop) (R0 R1 fp : Led) (c L : Addr) (nr : Nat) (m : Str → Option Value) : Flow → (Str → Option Value) → Led → Prop
  | mk (fp' : Led) (place' : Int) (oT' oS' : Obj) (vT' vS' : Option Value) (m' : Str → Option Value) (led' : Led) (hsa : sameAdr fp' fp) (hW : W fp' R0 c (placeP nr place')) (dT : oT'.data = .cell vT') (dS : oS'.data = .cell vS') (hm : ∀ y : Str, y ≠ "place" → m' y = m y) (hp : ∃ v, m' "place" = some v ∧ IsI place' v)
    (hs : ∀ p ∈ (L + 1 + 1 + 1 + 1, oT') :: (L + 1 + 1 + 1 + 1 + 1, oS') :: (fp' ++ R1), p ∈ led') : ActP W R0 R1 fp c L nr m .next m' led'
section
variable {w : World} {D D' : Nat} {F : FnC} {b : Bx} {m : Str → Option Value} {led : Led} {wk : Bool} {rows : List RowB} {W : Led → Led → Addr → Option Nat → Prop} {fp R0 R1 E0 : Led} {c L : Addr} {x : Str} {p : Option Nat} {φ : Flow → (Str → Option Value) → Led → Prop}
theorem lxp_if {env : Env} {pos : Pos} {test : Expr} {body orelse : List Stmt} {cc : Bool} (h : Px w F b (isTrue test env (eval test env)) (fun a => a = cc) m led) (h1 : cc = true → Lx w F b (execs body env) φ m led) (h2 : cc = false → Lx w F b (execs orelse env) φ m led) : Lx w F b (exec (.If test body orelse pos) env) φ m led := fun s Q E f N q =>
  wpAny_If (h s _ E f N fun a h' tk' pa F' N' => by
    subst pa
    cases a with
    | true => exact h1 rfl _ _ _ F' N' q
    | false => exact h2 rfl _ _ _ F' N' q)
theorem lx_nilk {env : Env} {st : Stmt} (h : Lx w F b (exec st env) φ m led) : Lx w F b (execs [st] env) φ m led := fun s Q E f N q => wpAny_execs_cons (h s _ E f N fun fl m' led' h' tk' hp F' N' => by
  cases fl with
  | next => exact wpAny_execs_nil (q _ _ _ h' tk' hp F' N')
  | ret v => exact q _ _ _ h' tk' hp F' N'
  | brk => exact q _ _ _ h' tk' hp F' N'
  | cont => exact q _ _ _ h' tk' hp F' N')
theorem sx_mvW {mn : MN} {pl : Sem Bool} {P' : Option Nat} {p1 p2 p3 p4 : Pos} {rest : List Stmt} (ok : Okx w D b) (S : WkSpec w D' wk rows W) (hC : W fp R0 c p) (hv : m x = some (.ref c)) (H : Calls w D' (adrW wk mn) [.ref c] fp E0 fun r fp' => r = .none ∧ sameAdr fp' fp ∧ W fp' R0 c P') (hR : ∀ q ∈ R0, q ∈ E0) (hs : ∀ q ∈ fp ++ E0, q ∈ led) (hD : D' ≤ D)
    (hq : ∀ fp', sameAdr fp' fp → W fp' R0 c P' → Lx w F b (execs rest (evx F b)) φ m (fp' ++ E0)) (hk : F.cs.kind = .function) (hx : (evx F b).kindOf x = some .local) (hd : (x == ("__debug__" : Str)) = false) (hi : interactive (evx F b) = false) (hsw : swapsWith (.Call (.Attribute (.Name x p1) mn.name p2) [] [] p3) none p4.line (evx F b) = pure false)
    (he : eval (.Call (.Attribute (.Name x p1) mn.name p2) [] [] p3) (evx F b) = (do
      let ov ← eval (.Name x p1) (evx F b)
      standAt p2.atName
      let (f, first) ← holding [ov] (getMethod ov mn.name pl)
      callWith p3 f first (backTo p3 (starEach [] (evx F b))) [])) : Lx w F b (execs (.Expr (.Call (.Attribute (.Name x p1) mn.name p2) [] [] p3) p4 :: rest) (evx F b)) φ m led :=
  sx_expr (lm0 ok (px_name hv hk hx hd) (px_wk ok S hC (fun q hq => hs q ((List.mem_append.mp hq).elim (List.mem_append_left _) fun h => List.mem_append_right _ (hR q h))) mn) (lx_call ok hk hD H hs fun r fp' h => hq fp' h.2.1 h.2.2) (keepW w wk mn) he) hi hsw
end
section
variable {w : World} {A₀ : Around} {base h₀ : Heap} {L a : Addr} {ccd : Value} {m mg mb : Str → Option Value} {mean : ExcName → Option Value} {s : Shared} {rest led : Led} {Q : Flow → Shared → Prop} {E : Value → Shared → Prop} {R : List Stmt}
theorem b1 {D : Nat} {c : Addr} {wk : Bool} {rows : List RowB} {W : Led → Led → Addr → Option Nat → Prop} {fp R0 R1 : Led}{rl : Addr} {rvs : Array Value} {rn : Nat} {place z av : Int} {tp zt at' : Tok} {b : Bool} {oT oS : Obj} {vT vS : Option Value} {el : Addr} {vs : Array Value} {n cnt : Nat} {ents : List Ent} {oE : Obj} (B : Below A₀ base [] h₀) (F : Fr h₀ L s.heap m) (X : (Mine.hd.heap_39 w.params).In h₀) (N : News h₀ L s.heap ((L + 1 + 1 + 1 + 1, oT) :: (L + 1 + 1 + 1 + 1 + 1, oS) :: (fp ++ R1))) (T : Top VW (looseW VW []) mean mg mb h₀)
    (hS : WkSpec w D wk rows W) (hC : W fp R0 c (placeP rows.length place)) (hD : D ≤ 60) (hR0 : ∀ x ∈ R0, x ∈ R1) (ho : Off fp R1) (hT : oT.data = .cell vT) (hS5 : oS.data = .cell vS) (hap : ∀ p ∈ fp ++ R1, p.1 ≠ L + 1 + 1 + 1 + 1 ∧ p.1 ≠ L + 1 + 1 + 1 + 1 + 1) (e1 : m "x" = some (.int z zt)) (e2 : m "act" = some (.int av at')) (e3 : m "off" = some (.bool b)) (e4 : m "walker" = some (.ref c)) (e5 : m "merged" = some (.bool wk)) (e6 : m "place" = some (.int place tp)) (e7 : m "rows" = some (.ref rl)) (hz0 : 0 ≤ z) (hz1 : z < 2000000) (ha0 : 0 ≤ av) (ha1 : av < 9) (hb : b = true ↔ place < 0 ∨ (rows.length : Int) ≤ place) (hr : RowsL R0 rl rows rvs rn)
    (hE : oE.data = .cell (some (.ref el))) (hcE : (L + 1, oE) ∈ R0) (hl : (el, listOf vs n) ∈ R0) (he : EntsIn R0 vs ents) (hsz : ents.length ≤ 5) (hsm : wk = true → ∀ {fp E0 : Led} {p : Option Nat} (u : Array UInt8) (q : Nat) (t : Tok), W fp R0 c p → (∀ x ∈ R0, x ∈ E0) → Off fp E0 → u.size ≤ 8 → seqOk q → Calls w D (adrW wk .seek) [.ref c, .bytes (ikb ⟨u, q, 1⟩) t] fp E0 fun r fp' => r = .none ∧ sameAdr fp' fp ∧ W fp' R0 c (placeP rows.length ((ents.countP fun e => ltL (cut3 e) [.b u, .i (0 - (q : Int)), .i (-1)] : Nat) : Int))) (hsu : wk = false → ∀ {fp E0 : Led} {p : Option Nat} (u : Array UInt8) (t : Tok), W fp R0 c p → (∀ x ∈ R0, x ∈ E0) → Off fp E0 → u.size ≤ 8 → Calls w D (adrW wk .seek) [.ref c, .bytes u t] fp E0 fun r fp' => r = .none ∧ sameAdr fp' fp ∧ W fp' R0 c (placeP rows.length ((rows.countP fun r => ltB r.1 u : Nat) : Int)))
    (k : ∀ fp' place' tp' oT' oS' vT' vS' m' h' tk', sameAdr fp' fp → W fp' R0 c (placeP rows.length place') → oT'.data = .cell vT' → oS'.data = .cell vS' → (∀ y : Str, y ≠ "place" → m' y = m y) → m' "place" = some (.int place' tp') → Fr h₀ L h' m' → News h₀ L h' ((L + 1 + 1 + 1 + 1, oT') :: (L + 1 + 1 + 1 + 1 + 1, oS') :: (fp' ++ R1)) → wpAny (model Challenge.rw_no0415_01.row.prog w) (callerA.deeper (envOfC (Str.ofString "law") lawSc L a ccd)) (execs (R) (envOfC (Str.ofString "law") lawSc L a ccd)) Q E { s with heap := h', toks := tk' }) :
    wpAny (model Challenge.rw_no0415_01.row.prog w) (callerA.deeper (envOfC (Str.ofString "law") lawSc L a ccd)) (execs (lawBody 20 3 :: R) (envOfC (Str.ofString "law") lawSc L a ccd)) Q E s := by
  have ok := okL (L := L) (mean := mean) (mg := mg) (mb := mb) B X T
  refine (?_ : Ly w (FL a ccd) (bL A₀ base h₀ L mg mb mean) (execs (lawBody 20 3 :: R) (evx (FL a ccd) (bL A₀ base h₀ L mg mb mean))) s Q E m _) s.heap s.toks F N
  have hA := fun x hx => List.mem_cons_of_mem (L + 1 + 1 + 1 + 1, oT) (List.mem_cons_of_mem (L + 1 + 1 + 1 + 1 + 1, oS) (hR0 x hx))
  have hO := off_E (a := oT) (b := oS) ho hap
  refine ly_cons (ActP W R0 R1 fp c L rows.length m) ?_ (fun m' led' h => ?_) fun f m' led' hf h => by cases h; exact hf rfl
  · conv in (lawBody _ _) => whnf
    refine lxp_if (pc_eqI (px_nameP ⟨_, e2, _, rfl⟩ rfl rfl rfl) px_int rfl) (fun h => ?_) fun h => ?_
    · have neT : ∀ p ∈ (L + 1 + 1 + 1 + 1 + 1, oS) :: (fp ++ R1), @Ne Nat p.1 (L + 1 + 1 + 1 + 1) := fun p hp => by
        rcases List.mem_cons.mp hp with rfl | hp
        · exact Nat.succ_ne_self _
        · exact (hap p hp).1
      refine lx_seq (lx_cell (P := TgtV) (px_tab ok (px_glob ok (by fail "r") rfl rfl rfl) (targets_c (D := 0)) (fun _ => px_fmod (px_mod60 (px_nameP ⟨_, e1, _, rfl⟩ rfl rfl rfl) px_int (by decide) (by decide)) px_int (by decide)) (Int.fmod_nonneg_of_pos _ (by decide)) (Int.fmod_lt_of_pos _ (by decide)) (by decide) rfl (by decide) (by fail "r") rfl fun _ _ => (by fail "r")) (.head neT) hT rfl rfl rfl rfl fun v oT' hv dT => ?_)
      obtain ⟨u, tu, rfl, hu⟩ := hv
      refine lx_seq (lx_cell (P := SeqV) (px_tab ok (px_glob ok (by fail "r") rfl rfl rfl) (seqs_c (D := 0)) (fun _ => px_fmod (px_mod60 (px_nameP ⟨_, e1, _, rfl⟩ rfl rfl rfl) px_int (by decide) (by decide)) px_int (by decide)) (Int.fmod_nonneg_of_pos _ (by decide)) (Int.fmod_lt_of_pos _ (by decide)) (by decide) rfl (by decide) (by fail "r") rfl fun _ _ => (by fail "r")) (.tail (Nat.succ_ne_self _).symm (.head fun p hp => (hap p hp).2)) hS5 rfl rfl rfl rfl fun v oS' hv dS => ?_)
      obtain ⟨sq, ts, rfl, hsq⟩ := hv
      have hA := fun x hx => List.mem_cons_of_mem (L + 1 + 1 + 1 + 1, oT') (List.mem_cons_of_mem (L + 1 + 1 + 1 + 1 + 1, oS') (hR0 x hx))
      have hO := off_E (a := oT') (b := oS') ho hap
      refine lx_nilk (lxp_if (pc_val (px_name e5 rfl rfl rfl) rfl) (fun hwk => ?_) fun hwk => ?_)
      · refine sx_expr (lm1 ok (px_name e4 rfl rfl rfl) (px_wk ok hS hC (fun q hq => led_in q ((List.mem_append.mp hq).elim (List.mem_append_left _) fun h => List.mem_append_right _ (hA q h))) .seek) (px_args1 (P := IsB (ikb ⟨u, sq, 1⟩)) (pf1 (fv := .ref 664) ok (px_glob ok (by fail "r") rfl rfl rfl) (px_args3 (px_cell (.head _) dT rfl rfl rfl rfl) (px_cell (.tail _ (.head _)) dS rfl rfl rfl rfl) px_int rfl rfl rfl) (fun vs h => by
            obtain ⟨_, _, _, rfl, rfl, rfl, t3, rfl⟩ := h
            exact px_lik ok rfl (by decide) hsq (Nat.le_refl _) (by omega)) (by fail "r") rfl rfl rfl) rfl) (fun vs h => by
            obtain ⟨_, rfl, t, rfl⟩ := h
            refine lx_call ok rfl (by omega) (hsm hwk u sq t hC hA hO hu hsq) led_in fun r fp' h => ?_
            obtain ⟨-, hsa, hW⟩ := h
            refine sx_name (px_lenL (n := ents.countP (fun e => ltL (cut3 e) [.b u, .i (0 - (sq : Int)), .i (-1)])) (lx_compT (J := JCnt ents (fun e => ltL (cut3 e) [.b u, .i (0 - (sq : Int)), .i (-1)])) (px_cell (List.mem_append_right _ (hA _ hcE)) hE rfl rfl rfl rfl) (List.mem_append_right _ (hA _ hl)) (by have := he.size; omega) rfl (fun i v ys nw T C hi hP hJ hsub hT hown => ?_) (fun D ys nw h hs hne => .mk D _ _ _ (.head _) (fun p hp => .tail _ (hs p hp)) (jcnt_all h he.size)) (by fail "r") (by decide) rfl (by decide) rfl (fun _ => rfl) (fun _ => rfl) rfl (fun _ => rfl)) (px_builtin ok (by fail "r") (by fail "r") (by decide) rfl rfl rfl) (Nat.le_trans List.countP_le_length (by have := hr.small; omega)) rfl rfl) (fun v hv => lx_nil (.mk fp' _ oT' oS' _ _ _ _ hsa hW dT dS (fun y hy => if_neg hy) ⟨v, rfl, hv⟩ led_out)) rfl rfl rfl
            obtain ⟨e9, he9⟩ : ∃ e, ents[i]? = some e := ⟨_, List.getElem?_eq_getElem (by have := he.size; omega)⟩
            obtain ⟨aa, xs, kx, hv, hxm, hxf⟩ := he.at' i e9 he9
            obtain rfl : v = .ref aa := Option.some.inj ((show vs[i]? = some v from hP).symm.trans hv)
            obtain ⟨y1, y2, y3, y4, y5, rfl⟩ := FAll_ent hxf
            have hin : ∀ q ∈ (L + 1 + 1 + 1 + 1, oT') :: (L + 1 + 1 + 1 + 1 + 1, oS') :: R1, q ∈ T := fun q hq => hT q (hsub q (List.mem_append_right _ hq))
            exact jcnt he9 hJ hown (pc_cutLt (i := 3) (zs := [_, _, _]) (ds := cut3 e9) (es := [.b u, .i (0 - (sq : Int)), .i (-1)]) ok (hown _ _ fun _ h => h) px_int (hin _ (hA _ hxm)) (by decide) (by show (3 : Int) < 5; decide) (by show 5 ≤ 1000; decide) rfl ⟨⟨_, rfl⟩, ⟨_, rfl⟩, ⟨_, rfl⟩, trivial⟩ (fun z => px_args3 (px_ccell (.tail _ (hin _ (.head _))) dT rfl rfl rfl rfl) (px_sub px_int (Px.mono (px_ccell (.tail _ (hin _ (.tail _ (.head _)))) dS rfl rfl rfl rfl) isI)) (px_neg px_int) rfl rfl rfl) (fun ws h => by
              obtain ⟨_, _, _, rfl, rfl, ⟨_, rfl⟩, ⟨_, rfl⟩⟩ := h
              exact ⟨⟨⟨_, rfl⟩, ⟨_, rfl⟩, ⟨_, rfl⟩, trivial⟩, by show 3 ≤ 1000; decide⟩) ⟨trivial, trivial, trivial, trivial⟩ (fun _ => (by fail "r")) (fun _ => (by fail "r")) rfl)) (keepW w wk .seek) rfl rfl rfl) rfl rfl
      · refine sx_expr (lm1 ok (px_name e4 rfl rfl rfl) (px_wk ok hS hC (fun q hq => led_in q ((List.mem_append.mp hq).elim (List.mem_append_left _) fun h => List.mem_append_right _ (hA q h))) .seek) (px_args1 (px_cell (.head _) dT rfl rfl rfl rfl) rfl) (fun vs h => by
            obtain ⟨_, rfl, rfl⟩ := h
            refine lx_call ok rfl (by omega) (hsu hwk u tu hC hA hO hu) led_in fun r fp' h => ?_
            obtain ⟨-, hsa, hW⟩ := h
            refine sx_name (px_lenL (n := rows.countP (fun r => ltB r.1 u)) (lx_compT (J := JCnt rows (fun r => ltB r.1 u)) (px_name e7 rfl rfl rfl) (List.mem_append_right _ (hA _ hr.lst)) (by have := hr.size; have := hr.small; omega) rfl (fun i v ys nw T C hi hP hJ hsub hT hown => ?_) (fun D ys nw h hs hne => .mk D _ _ _ (.head _) (fun p hp => .tail _ (hs p hp)) (jcnt_all h hr.size)) (by fail "r") (by decide) rfl (by decide) rfl (fun _ => rfl) (fun _ => rfl) rfl (fun _ => rfl)) (px_builtin ok (by fail "r") (by fail "r") (by decide) rfl rfl rfl) (Nat.le_trans List.countP_le_length (by have := hr.small; omega)) rfl rfl) (fun v hv => lx_nil (.mk fp' _ oT' oS' _ _ _ _ hsa hW dT dS (fun y hy => if_neg hy) ⟨v, rfl, hv⟩ led_out)) rfl rfl rfl
            obtain ⟨⟨rk, rv⟩, he9⟩ : ∃ e, rows[i]? = some e := ⟨_, List.getElem?_eq_getElem (by have := hr.size; omega)⟩
            obtain ⟨aa, t1, t2, kx, hv, hxm⟩ := hr.row i rk rv he9
            obtain rfl : v = .ref aa := Option.some.inj ((show rvs[i]? = some v from hP).symm.trans hv)
            have hin : ∀ q ∈ (L + 1 + 1 + 1 + 1, oT') :: (L + 1 + 1 + 1 + 1 + 1, oS') :: R1, q ∈ T := fun q hq => hT q (hsub q (List.mem_append_right _ hq))
            exact jcnt he9 hJ hown (pc_ltB (Px.mono (px_itemT (k := 0) (hown _ _ fun _ h => h) px_int (hin _ (hA _ hxm)) (by decide) (by decide) rfl fun _ => (by fail "r")) fun a h => ⟨_, h⟩) (Px.mono (px_ccell (hin _ (.head _)) dT rfl rfl rfl rfl) fun a h => ⟨_, h⟩) rfl)) (keepW w wk .seek) rfl rfl rfl) rfl rfl
    · refine lx_nilk (lxp_if (pc_or2 (pc_eqI (px_nameP ⟨_, e2, _, rfl⟩ rfl rfl rfl) px_int rfl) fun _ => pc_and (pc_geI (px_nameP ⟨_, e2, _, rfl⟩ rfl rfl rfl) px_int rfl) fun _ => pc_and (pc_ltI (px_nameP ⟨_, e2, _, rfl⟩ rfl rfl rfl) px_int rfl) fun _ => pc_and (pc_val (px_name e3 rfl rfl rfl) rfl) fun _ => pc_and0) (fun h => ?_) fun h0 => ?_)
      · refine sx_mvW (mn := .first) ok hS hC e4 (hS.first hC hA hO) hA led_in (by omega) (fun fp' hsa hW => ?_) rfl rfl rfl rfl rfl rfl
        exact sx_name px_int (fun v hv => lx_nil (.mk fp' 0 oT oS vT vS _ _ hsa (by rw [← firstP_place]; exact hW) hT hS5 (fun y hy => if_neg hy) ⟨v, rfl, hv⟩ led_out)) rfl rfl rfl
      · refine lx_nilk (lxp_if (pc_or2 (pc_eqI (px_nameP ⟨_, e2, _, rfl⟩ rfl rfl rfl) px_int rfl) fun _ => pc_val (px_name e3 rfl rfl rfl) rfl) (fun h => ?_) fun h1 => ?_)
        · refine sx_mvW (mn := .last) ok hS hC e4 (hS.last hC hA hO) hA led_in (by omega) (fun fp' hsa hW => ?_) rfl rfl rfl rfl rfl rfl
          refine sx_name (px_sub (px_len ok (px_name e7 rfl rfl rfl) (px_builtin ok (by fail "r") (by fail "r") (by decide) rfl rfl rfl) (List.mem_append_right _ (hA _ hr.lst)) (by have := hr.size; have := hr.small; omega) rfl rfl) px_int) (fun v hv => lx_nil (.mk fp' (rows.length - 1) oT oS vT vS _ _ hsa (by rw [← lastP_place]; exact hW) hT hS5 (fun y hy => if_neg hy) ⟨v, rfl, by rw [← hr.size]; exact hv⟩ led_out)) rfl rfl rfl
        · have hb0 : b = false := by simp only [Bool.or_eq_false_iff] at h1; exact h1.2
          have hin : ¬ (place < 0 ∨ (rows.length : Int) ≤ place) := fun h => by rw [hb0] at hb; exact Bool.false_ne_true (hb.mpr h)
          obtain ⟨pn, rfl⟩ : ∃ pn : Nat, place = pn := Int.eq_ofNat_of_zero_le (by omega)
          have hpl : placeP rows.length (pn : Int) = some pn := by unfold placeP; rw [if_pos ⟨by omega, by omega⟩]; rfl
          have hC' := hC
          rw [hpl] at hC'
          refine lx_nilk (lxp_if (pc_ltI (px_nameP ⟨_, e2, _, rfl⟩ rfl rfl rfl) px_int rfl) (fun h => ?_) fun _ => ?_)
          · refine sx_mvW (mn := .step) ok hS hC' e4 (hS.step hC' hA hO) hA led_in (by omega) (fun fp' hsa hW => ?_) rfl rfl rfl rfl rfl rfl
            exact lx_seq (lx_augname e6 px_int (op_iadd ⟨_, rfl⟩) (fun v hv => lx_nil (.mk fp' (pn + 1) oT oS vT vS _ _ hsa (by rw [← nextP_place (by omega)]; exact hW) hT hS5 (fun y hy => if_neg hy) ⟨v, rfl, hv⟩ led_out)) rfl rfl)
          · refine sx_mvW (mn := .back) ok hS hC' e4 (hS.back hC' hA hO) hA led_in (by omega) (fun fp' hsa hW => ?_) rfl rfl rfl rfl rfl rfl
            exact lx_seq (lx_augname e6 px_int (op_isub ⟨_, rfl⟩) (fun v hv => lx_nil (.mk fp' (pn - 1) oT oS vT vS _ _ hsa (by rw [← backP_place (by omega)]; exact hW) hT hS5 (fun y hy => if_neg hy) ⟨v, rfl, hv⟩ led_out)) rfl rfl)
  · obtain ⟨fp', place', oT', oS', vT', vS', m', led', hsa, hW, dT, dS, hm, ⟨_, hp, tp', rfl⟩, hs⟩ := h
    exact fun h' tk' F' N' => k fp' place' tp' oT' oS' vT' vS' m' h' tk' hsa hW dT dS hm hp F' (news_of N' hs)
end
open PySem PySem.W PyProof.Rows PySem.Spec PyProof.Rows.LCg
set_option linter.unusedVariables false
set_option maxRecDepth 100000
set_option maxHeartbeats 8000000
def KY (w : World) (F : FnC) (b : Bx) (env : Env) (rest : List Stmt) (s : Shared) (Q : Flow → Shared → Prop) (E : Value → Shared → Prop) : Flow → (Str → Option Value) → Led → Prop
  | .next, m', led' => Ly w F b (execs rest env) s Q E m' led'
  | _, _, _ => False
inductive CellU (c : Addr) (φ : Flow → (Str → Option Value) → Led → Prop) (v : Value) (m : Str → Option Value) (led : Led) : Prop
  | mk (led1 : Led) (hs : ∀ p ∈ led1, p ∈ led) (o : Obj) (v₀ : Option Value) (g : Obj → Led) (U : UpdF c o led1 g) (hd : o.data = .cell v₀) (hq : ∀ o', o'.data = .cell (some v) → φ .next m (g o')) : CellU c φ v m led
section
variable {w : World} {D D' : Nat} {F : FnC} {b : Bx} {m : Str → Option Value} {led : Led} {env : Env} {pos : Pos} {s : Shared} {Q : Flow → Shared → Prop} {E : Value → Shared → Prop} {x : Str} {P : Value → Prop} {c c2 : Bool} {φ : Flow → (Str → Option Value) → Led → Prop}
theorem ly_seq {st : Stmt} {rest : List Stmt} (h : Lx w F b (exec st env) (KY w F b env rest s Q E) m led) : Ly w F b (execs (st :: rest) env) s Q E m led := fun hp tk f N =>
  wpAny_execs_cons (h _ _ E f N fun fl m' led' h' tk' p F' N' => by
    cases fl with
    | next => exact p _ _ F' N'
    | ret v => exact p.elim
    | brk => exact p.elim
    | cont => exact p.elim)
theorem lx_cellL {ca : Addr} {value : Expr} {pos' : Pos} (h : Lx w F b (eval value (evx F b)) (CellU ca φ) m led) (hc : b.cl.lookup x = some ca) (hk : F.cs.kind = .function) (hx : (evx F b).kindOf x = some .cell) (hs : swapsWith value (some (.Name x pos')) pos.line (evx F b) = pure false) : Lx w F b (exec (.Assign [.Name x pos'] value pos) (evx F b)) φ m led := fun s Q E f N q =>
  wpAny_Assign_Name (h s _ E f N fun v m' led' h' tk' hp F' N' => by
    obtain ⟨led1, hs, o, v₀, g, U, hd, hq⟩ := hp
    exact storeX_C F' (news_of N' hs) hc U hd (fun h2 o' F2 N2 d2 => q _ _ _ h2 _ (hq o' d2) F2 N2) hk hx) hs
theorem lb1 {id : String} {o e : Expr} {es : List Expr} {A : List Value → Prop} {ψ : Value → (Str → Option Value) → Led → Prop} (h1 : Px w F b (eval o env) (fun a => a = .builtin id) m led) (h3 : Px w F b (spliced (backTo pos (starEach (e :: es) env))) A m led) (h4 : ∀ vs, A vs → Lx w F b (call (.builtin id) ([] ++ vs)) ψ m led)
    (ha : starEach (e :: es) env = (false, eval e env) :: starEach es env) (hp : (backTo pos (starEach es env)).any (·.1) = false)
    (he : eval (.Call o (e :: es) [] pos) env = (do callWith pos (← eval o env) [] (backTo pos (starEach (e :: es) env)) (backToKw pos (keywordEach [] env)))) : Lx w F b (eval (.Call o (e :: es) [] pos) env) ψ m led :=
  fun s Q E f N q => Call_ (h1 s _ E f N fun a h' tk' pa F' N' => by
    subst pa
    exact callWith_method1 (h3 _ _ E F' N' fun vs h3' tk3' pa F3' N3' => h4 vs pa _ _ _ F3' N3' q) ha hp) he
theorem pv_or {e1 e2 : Expr} (h1 : Px w F b (eval e1 env) (fun a => a = .bool c) m led) (h2 : c = false → Px w F b (eval e2 env) (fun a => a = .bool c2) m led) : Px w F b (eval (.BoolOp .Or [e1, e2] pos) env) (fun a => a = .bool (c || c2)) m led := fun s Q E f N q =>
  BoolOp_or (h1 s _ E f N fun a h' tk' pa F' N' => by
    subst pa
    refine wpAny_truthy_bool ?_
    cases c with
    | true => exact q _ _ _ rfl F' N'
    | false => exact BoolOp_one (h2 rfl _ _ _ F' N' q))
end
theorem room_b {D : Nat} (hD : D ≤ 60) : callerA.depth + 1 + (D + 12) < recursionLimit := Nat.lt_of_le_of_lt (Nat.add_le_add_left (show D + 12 ≤ 100 by omega) _) (by show callerA.depth + 1 + 100 < recursionLimit; decide)
theorem units_b {D : Nat} (hD : D ≤ 60) : callerA.units + 3 + 8 * (D + 12) < cLine := Nat.lt_of_le_of_lt (Nat.add_le_add_left (show 8 * (D + 12) ≤ 800 by omega) _) (by show callerA.units + 3 + 800 < cLine; decide)
theorem EntsIn.drop {led : Led} {c : Addr} {o : Obj} {v : Option Value} {vs : Array Value} {ents : List Ent} (h : EntsIn ((c, o) :: led) vs ents) (hd : o.data = .cell v) : EntsIn led vs ents :=
  ⟨h.size, fun i e he => by
    obtain ⟨a, xs, k, h1, h2, h3⟩ := h.at' i e he
    rcases List.mem_cons.mp h2 with e | h2
    · injection e with _ e
      rw [← e] at hd
      cases hd
    · exact ⟨a, xs, k, h1, h2, h3⟩⟩
section
variable {w : World} {A₀ : Around} {base h₀ : Heap} {L a : Addr} {ccd : Value} {m mg mb : Str → Option Value} {mean : ExcName → Option Value} {s : Shared} {rest led : Led} {Q : Flow → Shared → Prop} {E : Value → Shared → Prop} {R : List Stmt}
theorem st234 {nl : Addr} {vs : Array Value} {n kk : Nat} (B : Below A₀ base [] h₀) (F : Fr h₀ L s.heap m) (X : (Mine.hd.heap_39 w.params).In h₀) (N : News h₀ L s.heap (led)) (T : Top VW (looseW VW []) mean mg mb h₀)
    (hn : NumsIn led nl vs n kk) (e1 : m "nums" = some (.ref nl))
    (k : ∀ z tz wk (cnt : Nat) tc m' h' tk', 0 ≤ z → z < 2000000 → 0 < cnt → cnt ≤ 3 → (∀ y : Str, y ≠ "setup" → y ≠ "merged" → y ≠ "count" → m' y = m y) → m' "setup" = some (.int z tz) → m' "merged" = some (.bool wk) → m' "count" = some (.int (cnt : Int) tc) → Fr h₀ L h' m' → News h₀ L h' led → wpAny (model Challenge.rw_no0415_01.row.prog w) (callerA.deeper (envOfC (Str.ofString "law") lawSc L a ccd)) (execs (R) (envOfC (Str.ofString "law") lawSc L a ccd)) Q E { s with heap := h', toks := tk' }) :
    wpAny (model Challenge.rw_no0415_01.row.prog w) (callerA.deeper (envOfC (Str.ofString "law") lawSc L a ccd)) (execs (lawAt 2 :: lawAt 3 :: lawAt 4 :: R) (envOfC (Str.ofString "law") lawSc L a ccd)) Q E s := by
  have ok := okL (L := L) (mean := mean) (mg := mg) (mb := mb) B X T
  refine (?_ : Ly w (FL a ccd) (bL A₀ base h₀ L mg mb mean) (execs (lawAt 2 :: lawAt 3 :: lawAt 4 :: R) (evx (FL a ccd) (bL A₀ base h₀ L mg mb mean))) s Q E m _) s.heap s.toks F N
  conv in (lawAt _) => whnf
  conv in (lawAt _) => whnf
  conv in (lawAt _) => whnf
  refine ly_name (px_draw ok hn (px_glob ok (by fail "r") rfl rfl rfl) (px_name e1 rfl rfl rfl) px_int (by decide) (by decide) rfl (by decide) rfl rfl rfl rfl) (fun vx hv => ?_) rfl rfl rfl
  obtain ⟨z, hz, h0, h1⟩ := hv
  have c0 := Int.fmod_nonneg_of_pos (z.fdiv 2) (b := 3) (by decide)
  have c1 := Int.fmod_lt_of_pos (z.fdiv 2) (b := 3) (by decide)
  refine ly_name (P := fun a => a = .bool (z.fmod 2 == 1)) (pv_cmp (px_fmod (px_nameP ⟨_, rfl, hz⟩ rfl rfl rfl) px_int (by decide)) px_int (fun u v hu hv s Q E f N q => by obtain ⟨t, rfl⟩ := hu; obtain ⟨t', rfl⟩ := hv; exact eq_int (q _ s.heap _ rfl f N)) rfl) (fun v hv => ?_) rfl rfl rfl
  subst hv
  refine ly_name (px_add px_int (px_fmod (px_mod60 (px_nameP ⟨_, rfl, hz⟩ rfl rfl rfl) px_int (by decide) (by decide)) px_int (by decide))) (fun v hv => ?_) rfl rfl rfl
  obtain ⟨tz, rfl⟩ := hz
  obtain ⟨tc, rfl⟩ := hv
  obtain ⟨c, hc9⟩ := Int.eq_ofNat_of_zero_le (show 0 ≤ 1 + (z.fdiv 2).fmod 3 by omega)
  rw [hc9]
  exact fun h' tk' F' N' => k z tz _ c tc _ h' tk' h0 h1 (by omega) (by omega) (fun y h1 h2 h3 => by simp only [ms, if_neg h1, if_neg h2, if_neg h3]) rfl rfl rfl F' N'
theorem st5 {z : Int} {tz : Tok} (B : Below A₀ base [] h₀) (F : Fr h₀ L s.heap m) (X : (Mine.hd.heap_39 w.params).In h₀) (N : News h₀ L s.heap (rest)) (T : Top VW (looseW VW []) mean mg mb h₀)
    (hz : m "setup" = some (.int z tz)) (hz0 : 0 ≤ z) (hz1 : z < 2000000)
    (k : ∀ uv ut h' tk', 0 ≤ uv → uv ≤ 1099511627776 → Fr h₀ L h' (fun y => if y = "upto" then some (.int uv ut) else m y) → News h₀ L h' (rest) → wpAny (model Challenge.rw_no0415_01.row.prog w) (callerA.deeper (envOfC (Str.ofString "law") lawSc L a ccd)) (execs (R) (envOfC (Str.ofString "law") lawSc L a ccd)) Q E { s with heap := h', toks := tk' }) :
    wpAny (model Challenge.rw_no0415_01.row.prog w) (callerA.deeper (envOfC (Str.ofString "law") lawSc L a ccd)) (execs (lawAt 5 :: R) (envOfC (Str.ofString "law") lawSc L a ccd)) Q E s := by
  have ok := okL (L := L) (mean := mean) (mg := mg) (mb := mb) B X T
  refine (?_ : Ly w (FL a ccd) (bL A₀ base h₀ L mg mb mean) (execs (lawAt 5 :: R) (evx (FL a ccd) (bL A₀ base h₀ L mg mb mean))) s Q E m _) s.heap s.toks F N
  conv in (lawAt _) => whnf
  refine ly_name (P := LimV) (px_tab ok (px_glob ok (by fail "r") rfl rfl rfl) (limits_c (D := 0)) (fun _ => px_fmod (px_add (px_mod60 (px_nameP ⟨_, hz, _, rfl⟩ rfl rfl rfl) px_int (by decide) (by decide)) (px_mod60 (px_nameP ⟨_, hz, _, rfl⟩ rfl rfl rfl) px_int (by decide) (by decide))) px_int (by decide)) (Int.fmod_nonneg_of_pos _ (by decide)) (Int.fmod_lt_of_pos _ (by decide)) (by decide) rfl (by decide) (by fail "r") rfl fun _ _ => (by fail "r")) (fun v hv => ?_) rfl rfl rfl
  obtain ⟨uv, ut, rfl, h0, h1⟩ := hv
  exact fun h' tk' F' N' => k uv ut h' tk' h0 h1 F' N'
theorem st6 {z : Int} {tz : Tok} (B : Below A₀ base [] h₀) (F : Fr h₀ L s.heap m) (X : (Mine.hd.heap_39 w.params).In h₀) (N : News h₀ L s.heap (rest)) (T : Top VW (looseW VW []) mean mg mb h₀)
    (hz : m "setup" = some (.int z tz)) (hz0 : 0 ≤ z) (hz1 : z < 2000000)
    (k : ∀ bv bt h' tk', (∀ b, bv = some b → b.size ≤ 8) → Fr h₀ L h' (fun y => if y = "low" then some (bndV bv bt) else m y) → News h₀ L h' (rest) → wpAny (model Challenge.rw_no0415_01.row.prog w) (callerA.deeper (envOfC (Str.ofString "law") lawSc L a ccd)) (execs (R) (envOfC (Str.ofString "law") lawSc L a ccd)) Q E { s with heap := h', toks := tk' }) :
    wpAny (model Challenge.rw_no0415_01.row.prog w) (callerA.deeper (envOfC (Str.ofString "law") lawSc L a ccd)) (execs (lawAt 6 :: R) (envOfC (Str.ofString "law") lawSc L a ccd)) Q E s := by
  have ok := okL (L := L) (mean := mean) (mg := mg) (mb := mb) B X T
  refine (?_ : Ly w (FL a ccd) (bL A₀ base h₀ L mg mb mean) (execs (lawAt 6 :: R) (evx (FL a ccd) (bL A₀ base h₀ L mg mb mean))) s Q E m _) s.heap s.toks F N
  conv in (lawAt _) => whnf
  refine ly_name (P := BndV) (px_tab ok (px_glob ok (by fail "r") rfl rfl rfl) (bounds_c (D := 0)) (fun _ => px_fmod (px_mod60 (px_nameP ⟨_, hz, _, rfl⟩ rfl rfl rfl) px_int (by decide) (by decide)) px_int (by decide)) (Int.fmod_nonneg_of_pos _ (by decide)) (Int.fmod_lt_of_pos _ (by decide)) (by decide) rfl (by decide) (by fail "r") rfl fun _ _ => (by fail "r")) (fun v hv => ?_) rfl rfl rfl
  obtain ⟨bv, bt, rfl, hb⟩ := hv
  exact fun h' tk' F' N' => k bv bt h' tk' hb F' N'
theorem st7 {z : Int} {tz : Tok} (B : Below A₀ base [] h₀) (F : Fr h₀ L s.heap m) (X : (Mine.hd.heap_39 w.params).In h₀) (N : News h₀ L s.heap (rest)) (T : Top VW (looseW VW []) mean mg mb h₀)
    (hz : m "setup" = some (.int z tz)) (hz0 : 0 ≤ z) (hz1 : z < 2000000)
    (k : ∀ bv bt h' tk', (∀ b, bv = some b → b.size ≤ 8) → Fr h₀ L h' (fun y => if y = "high" then some (bndV bv bt) else m y) → News h₀ L h' (rest) → wpAny (model Challenge.rw_no0415_01.row.prog w) (callerA.deeper (envOfC (Str.ofString "law") lawSc L a ccd)) (execs (R) (envOfC (Str.ofString "law") lawSc L a ccd)) Q E { s with heap := h', toks := tk' }) :
    wpAny (model Challenge.rw_no0415_01.row.prog w) (callerA.deeper (envOfC (Str.ofString "law") lawSc L a ccd)) (execs (lawAt 7 :: R) (envOfC (Str.ofString "law") lawSc L a ccd)) Q E s := by
  have ok := okL (L := L) (mean := mean) (mg := mg) (mb := mb) B X T
  refine (?_ : Ly w (FL a ccd) (bL A₀ base h₀ L mg mb mean) (execs (lawAt 7 :: R) (evx (FL a ccd) (bL A₀ base h₀ L mg mb mean))) s Q E m _) s.heap s.toks F N
  conv in (lawAt _) => whnf
  refine ly_name (P := BndV) (px_tab ok (px_glob ok (by fail "r") rfl rfl rfl) (bounds_c (D := 0)) (fun _ => px_fmod (px_mod60 (px_nameP ⟨_, hz, _, rfl⟩ rfl rfl rfl) px_int (by decide) (by decide)) px_int (by decide)) (Int.fmod_nonneg_of_pos _ (by decide)) (Int.fmod_lt_of_pos _ (by decide)) (by decide) rfl (by decide) (by fail "r") rfl fun _ _ => (by fail "r")) (fun v hv => ?_) rfl rfl rfl
  obtain ⟨bv, bt, rfl, hb⟩ := hv
  exact fun h' tk' F' N' => k bv bt h' tk' hb F' N'
theorem st8 {oE : Obj} {v0 : Option Value} (B : Below A₀ base [] h₀) (F : Fr h₀ L s.heap m) (X : (Mine.hd.heap_39 w.params).In h₀) (N : News h₀ L s.heap ((L + 1, oE) :: rest)) (T : Top VW (looseW VW []) mean mg mb h₀)
    (hE : oE.data = .cell v0) (hr : ∀ p ∈ rest, p.1 ≠ L + 1)
    (k : ∀ el oE' n h' tk', oE'.data = .cell (some (.ref el)) → @LT.lt Nat _ (L + 1) el → (∀ p ∈ rest, @LT.lt Nat _ p.1 el) → Fr h₀ L h' (m) → News h₀ L h' ((el, listOf #[] n) :: (L + 1, oE') :: rest) → wpAny (model Challenge.rw_no0415_01.row.prog w) (callerA.deeper (envOfC (Str.ofString "law") lawSc L a ccd)) (execs (R) (envOfC (Str.ofString "law") lawSc L a ccd)) Q E { s with heap := h', toks := tk' }) :
    wpAny (model Challenge.rw_no0415_01.row.prog w) (callerA.deeper (envOfC (Str.ofString "law") lawSc L a ccd)) (execs (lawAt 8 :: R) (envOfC (Str.ofString "law") lawSc L a ccd)) Q E s := by
  have ok := okL (L := L) (mean := mean) (mg := mg) (mb := mb) B X T
  refine (?_ : Ly w (FL a ccd) (bL A₀ base h₀ L mg mb mean) (execs (lawAt 8 :: R) (evx (FL a ccd) (bL A₀ base h₀ L mg mb mean))) s Q E m _) s.heap s.toks F N
  conv in (lawAt _) => whnf
  exact ly_seq (lx_cellL (lx_list0 fun l hlt => .mk _ (fun _ h => h) oE v0 _ (.tail (fun e => Nat.lt_irrefl _ (Nat.lt_of_lt_of_eq (hlt _ (.head _)) e)) (.head hr)) hE fun o' d h' tk' F' N' => k l o' 0 h' tk' d (hlt _ (.head _)) (fun p hp => hlt _ (.tail _ hp)) F' N') rfl rfl rfl rfl)
theorem st10 {el : Addr} {vs : Array Value} {n : Nat} {ents : List Ent} {oE : Obj} (B : Below A₀ base [] h₀) (F : Fr h₀ L s.heap m) (X : (Mine.hd.heap_39 w.params).In h₀) (N : News h₀ L s.heap ((L + 1, oE) :: led)) (T : Top VW (looseW VW []) mean mg mb h₀)
    (hE : oE.data = .cell (some (.ref el))) (hl : (el, listOf vs n) ∈ led) (hr : ∀ p ∈ led, p.1 ≠ L + 1) (he : EntsIn led vs ents) (h1 : ents ≠ []) (h5 : ents.length ≤ 5) (hd : ents.Pairwise fun a b => a.v ≠ b.v)
    (k : ∀ D oE' c vs' ents' h' tk', oE'.data = .cell (some (.ref D)) → ents'.length = ents.length → (∀ e ∈ ents', e ∈ ents) → ents'.Pairwise (fun a b => ltL a.fd b.fd = true) → EntsIn led vs' ents' → @LT.lt Nat _ (L + 1) D → (∀ p ∈ led, @LT.lt Nat _ p.1 D) → Fr h₀ L h' m → News h₀ L h' ((D, listOf vs' c) :: (L + 1, oE') :: led) → wpAny (model Challenge.rw_no0415_01.row.prog w) (callerA.deeper (envOfC (Str.ofString "law") lawSc L a ccd)) (execs (R) (envOfC (Str.ofString "law") lawSc L a ccd)) Q E { s with heap := h', toks := tk' }) :
    wpAny (model Challenge.rw_no0415_01.row.prog w) (callerA.deeper (envOfC (Str.ofString "law") lawSc L a ccd)) (execs (lawAt 10 :: R) (envOfC (Str.ofString "law") lawSc L a ccd)) Q E s := by
  have ok := okL (L := L) (mean := mean) (mg := mg) (mb := mb) B X T
  refine (?_ : Ly w (FL a ccd) (bL A₀ base h₀ L mg mb mean) (execs (lawAt 10 :: R) (evx (FL a ccd) (bL A₀ base h₀ L mg mb mean))) s Q E m _) s.heap s.toks F N
  conv in (lawAt _) => whnf
  have h10 : 1 ≤ ents.length := by cases ents with | nil => exact absurd rfl h1 | cons a l => simp
  exact ly_seq (lx_cellL (lb1 (px_builtin ok (by fail "r") (by fail "r") (by decide) rfl rfl rfl) (px_args1 (px_cell (.head _) hE rfl rfl rfl rfl) rfl) (fun vs h => by
    obtain ⟨_, rfl, rfl⟩ := h
    exact fun s Q E f N q => sorted_ents f N (.tail _ hl) (he.mono fun p hp => .tail _ hp) h10 h5 hd fun D c h' vs' ents' g1 g2 g3 g4 g5 F' N' => q _ m _ h' s.toks (.mk _ (fun _ h => h) oE _ _ (.tail (fun e => Nat.lt_irrefl _ (Nat.lt_of_lt_of_eq (g5 _ (.head _)) e)) (.head hr)) hE fun o' d hp tk F2 N2 => k D o' c vs' ents' hp tk d g1 g2 g3 (g4.drop hE) (g5 _ (.head _)) (fun p hp => g5 _ (.tail _ hp)) F2 N2) F' N') rfl rfl rfl) rfl rfl rfl rfl)
theorem st13  (B : Below A₀ base [] h₀) (F : Fr h₀ L s.heap m) (X : (Mine.hd.heap_39 w.params).In h₀) (N : News h₀ L s.heap (rest)) (T : Top VW (looseW VW []) mean mg mb h₀)
    (k : ∀ pl h' tk', (∀ p ∈ rest, @LT.lt Nat _ p.1 pl) → Fr h₀ L h' (fun y => if y = "parts" then some (.ref pl) else m y) → News h₀ L h' ((pl, listOf #[] 0) :: rest) → wpAny (model Challenge.rw_no0415_01.row.prog w) (callerA.deeper (envOfC (Str.ofString "law") lawSc L a ccd)) (execs (R) (envOfC (Str.ofString "law") lawSc L a ccd)) Q E { s with heap := h', toks := tk' }) :
    wpAny (model Challenge.rw_no0415_01.row.prog w) (callerA.deeper (envOfC (Str.ofString "law") lawSc L a ccd)) (execs (lawAt 13 :: R) (envOfC (Str.ofString "law") lawSc L a ccd)) Q E s := by
  have ok := okL (L := L) (mean := mean) (mg := mg) (mb := mb) B X T
  refine (?_ : Ly w (FL a ccd) (bL A₀ base h₀ L mg mb mean) (execs (lawAt 13 :: R) (evx (FL a ccd) (bL A₀ base h₀ L mg mb mean))) s Q E m _) s.heap s.toks F N
  conv in (lawAt _) => whnf
  exact ly_seq (lx_nameC (lx_list0 fun l hlt h' tk' F' N' => k l h' tk' hlt F' N') rfl rfl rfl)
theorem st16 {fl : Addr} {oF : Obj} (B : Below A₀ base [] h₀) (F : Fr h₀ L s.heap m) (X : (Mine.hd.heap_39 w.params).In h₀) (N : News h₀ L s.heap (led)) (T : Top VW (looseW VW []) mean mg mb h₀)
    (hF : oF.data = .cell (some (.ref fl))) (hcF : (L + 1 + 1, oF) ∈ led)
    (k : ∀ h' tk', Fr h₀ L h' (fun y => if y = "rows" then some (.ref fl) else m y) → News h₀ L h' led → wpAny (model Challenge.rw_no0415_01.row.prog w) (callerA.deeper (envOfC (Str.ofString "law") lawSc L a ccd)) (execs (R) (envOfC (Str.ofString "law") lawSc L a ccd)) Q E { s with heap := h', toks := tk' }) :
    wpAny (model Challenge.rw_no0415_01.row.prog w) (callerA.deeper (envOfC (Str.ofString "law") lawSc L a ccd)) (execs (lawAt 16 :: R) (envOfC (Str.ofString "law") lawSc L a ccd)) Q E s := by
  have ok := okL (L := L) (mean := mean) (mg := mg) (mb := mb) B X T
  refine (?_ : Ly w (FL a ccd) (bL A₀ base h₀ L mg mb mean) (execs (lawAt 16 :: R) (evx (FL a ccd) (bL A₀ base h₀ L mg mb mean))) s Q E m _) s.heap s.toks F N
  conv in (lawAt _) => whnf
  refine ly_name (px_cell hcF hF rfl rfl rfl rfl) (fun v hv => ?_) rfl rfl rfl
  subst hv
  exact k
theorem st17m  (B : Below A₀ base [] h₀) (F : Fr h₀ L s.heap m) (X : (Mine.hd.heap_39 w.params).In h₀) (N : News h₀ L s.heap (led)) (T : Top VW (looseW VW []) mean mg mb h₀)
    (e1 : m "merged" = some (.bool true))
    (k : ∀ h' tk', Fr h₀ L h' m → News h₀ L h' led → wpAny (model Challenge.rw_no0415_01.row.prog w) (callerA.deeper (envOfC (Str.ofString "law") lawSc L a ccd)) (execs (R) (envOfC (Str.ofString "law") lawSc L a ccd)) Q E { s with heap := h', toks := tk' }) :
    wpAny (model Challenge.rw_no0415_01.row.prog w) (callerA.deeper (envOfC (Str.ofString "law") lawSc L a ccd)) (execs (lawAt 17 :: R) (envOfC (Str.ofString "law") lawSc L a ccd)) Q E s := by
  have ok := okL (L := L) (mean := mean) (mg := mg) (mb := mb) B X T
  refine (?_ : Ly w (FL a ccd) (bL A₀ base h₀ L mg mb mean) (execs (lawAt 17 :: R) (evx (FL a ccd) (bL A₀ base h₀ L mg mb mean))) s Q E m _) s.heap s.toks F N
  conv in (lawAt _) => whnf
  exact ly_seq (lxp_if (pc_not (pc_val (px_name e1 rfl rfl rfl) rfl)) (fun h => nomatch h) fun _ => lx_nil (φ := KY _ _ _ _ _ _ _ _) k)
theorem st18  (B : Below A₀ base [] h₀) (F : Fr h₀ L s.heap m) (X : (Mine.hd.heap_39 w.params).In h₀) (N : News h₀ L s.heap (rest)) (T : Top VW (looseW VW []) mean mg mb h₀)
    (k : ∀ tp h' tk', Fr h₀ L h' (fun y => if y = "place" then some (.int (-1) tp) else m y) → News h₀ L h' rest → wpAny (model Challenge.rw_no0415_01.row.prog w) (callerA.deeper (envOfC (Str.ofString "law") lawSc L a ccd)) (execs (R) (envOfC (Str.ofString "law") lawSc L a ccd)) Q E { s with heap := h', toks := tk' }) :
    wpAny (model Challenge.rw_no0415_01.row.prog w) (callerA.deeper (envOfC (Str.ofString "law") lawSc L a ccd)) (execs (lawAt 18 :: R) (envOfC (Str.ofString "law") lawSc L a ccd)) Q E s := by
  have ok := okL (L := L) (mean := mean) (mg := mg) (mb := mb) B X T
  refine (?_ : Ly w (FL a ccd) (bL A₀ base h₀ L mg mb mean) (execs (lawAt 18 :: R) (evx (FL a ccd) (bL A₀ base h₀ L mg mb mean))) s Q E m _) s.heap s.toks F N
  conv in (lawAt _) => whnf
  refine ly_name (px_neg px_int) (fun v hv => ?_) rfl rfl rfl
  obtain ⟨t, rfl⟩ := hv
  exact k t
theorem st19 {D : Nat} {c : Addr} {wk : Bool} {rows : List RowB} {W : Led → Led → Addr → Option Nat → Prop} {fp R0 R1 : Led}{rl : Addr} {rvs : Array Value} {rn : Nat} {place : Int} {tp : Tok} {E0 : Led} (B : Below A₀ base [] h₀) (F : Fr h₀ L s.heap m) (X : (Mine.hd.heap_39 w.params).In h₀) (N : News h₀ L s.heap (fp ++ E0)) (T : Top VW (looseW VW []) mean mg mb h₀)
    (XB : (Mine.hd.heap_39 w.params).In base) (TB : Top VW (looseW VW []) mean mg mb base) (hS : WkSpec w D wk rows W) (hC : W fp R0 c (placeP rows.length place)) (hD : D ≤ 60) (hR0 : ∀ x ∈ R0, x ∈ E0) (ho : Off fp E0) (hr : RowsL E0 rl rows rvs rn) (e4 : m "walker" = some (.ref c)) (e6 : m "place" = some (.int place tp)) (e7 : m "rows" = some (.ref rl))
    (k : ∀ h' tk', Fr h₀ L h' m → News h₀ L h' (fp ++ E0) → wpAny (model Challenge.rw_no0415_01.row.prog w) (callerA.deeper (envOfC (Str.ofString "law") lawSc L a ccd)) (execs (R) (envOfC (Str.ofString "law") lawSc L a ccd)) Q E { s with heap := h', toks := tk' }) :
    wpAny (model Challenge.rw_no0415_01.row.prog w) (callerA.deeper (envOfC (Str.ofString "law") lawSc L a ccd)) (execs (lawAt 19 :: R) (envOfC (Str.ofString "law") lawSc L a ccd)) Q E s := by
  have ok := okL (L := L) (mean := mean) (mg := mg) (mb := mb) B X T
  refine (?_ : Ly w (FL a ccd) (bL A₀ base h₀ L mg mb mean) (execs (lawAt 19 :: R) (evx (FL a ccd) (bL A₀ base h₀ L mg mb mean))) s Q E m _) s.heap s.toks F N
  conv in (lawAt _) => whnf
  exact ly_seq (lxp_if (pc_not (pc_val (pf1 (P := fun a => a = .bool true) ok (px_glob ok (by fail "r") rfl rfl rfl) (px_args3 (px_name e4 rfl rfl rfl) (px_name e7 rfl rfl rfl) (px_name e6 rfl rfl rfl) rfl rfl rfl) (fun vs h => by
    obtain ⟨_, _, _, rfl, rfl, rfl, rfl⟩ := h
    exact fun s Q E f N q => hS.agree hC hR0 ho hr _ _ _ _ _ _ _ _ _ _ _ _ _ _ _ _ _ _ _ B f X N T XB TB rfl (room_b hD) (units_b hD) fun r fp' h' tk' F' N' hx => by
      obtain ⟨rfl, rfl⟩ := hx
      exact q _ h' tk' rfl F' N') (by fail "r") rfl rfl rfl) rfl)) (fun h => nomatch h) fun _ => lx_nil (φ := KY _ _ _ _ _ _ _ _) k)
theorem b2 {D : Nat} {c : Addr} {wk : Bool} {rows : List RowB} {W : Led → Led → Addr → Option Nat → Prop} {fp R0 R1 : Led}{rl : Addr} {rvs : Array Value} {rn : Nat} {place : Int} {tp : Tok} {E0 : Led} (B : Below A₀ base [] h₀) (F : Fr h₀ L s.heap m) (X : (Mine.hd.heap_39 w.params).In h₀) (N : News h₀ L s.heap (fp ++ E0)) (T : Top VW (looseW VW []) mean mg mb h₀)
    (XB : (Mine.hd.heap_39 w.params).In base) (TB : Top VW (looseW VW []) mean mg mb base) (hS : WkSpec w D wk rows W) (hC : W fp R0 c (placeP rows.length place)) (hD : D ≤ 60) (hR0 : ∀ x ∈ R0, x ∈ E0) (ho : Off fp E0) (hr : RowsL E0 rl rows rvs rn) (e4 : m "walker" = some (.ref c)) (e6 : m "place" = some (.int place tp)) (e7 : m "rows" = some (.ref rl))
    (k : ∀ h' tk', Fr h₀ L h' m → News h₀ L h' (fp ++ E0) → wpAny (model Challenge.rw_no0415_01.row.prog w) (callerA.deeper (envOfC (Str.ofString "law") lawSc L a ccd)) (execs (R) (envOfC (Str.ofString "law") lawSc L a ccd)) Q E { s with heap := h', toks := tk' }) :
    wpAny (model Challenge.rw_no0415_01.row.prog w) (callerA.deeper (envOfC (Str.ofString "law") lawSc L a ccd)) (execs (lawBody 20 4 :: R) (envOfC (Str.ofString "law") lawSc L a ccd)) Q E s := by
  have ok := okL (L := L) (mean := mean) (mg := mg) (mb := mb) B X T
  refine (?_ : Ly w (FL a ccd) (bL A₀ base h₀ L mg mb mean) (execs (lawBody 20 4 :: R) (evx (FL a ccd) (bL A₀ base h₀ L mg mb mean))) s Q E m _) s.heap s.toks F N
  conv in (lawBody _ _) => whnf
  exact ly_seq (lxp_if (pc_not (pc_val (pf1 (P := fun a => a = .bool true) ok (px_glob ok (by fail "r") rfl rfl rfl) (px_args3 (px_name e4 rfl rfl rfl) (px_name e7 rfl rfl rfl) (px_name e6 rfl rfl rfl) rfl rfl rfl) (fun vs h => by
    obtain ⟨_, _, _, rfl, rfl, rfl, rfl⟩ := h
    exact fun s Q E f N q => hS.agree hC hR0 ho hr _ _ _ _ _ _ _ _ _ _ _ _ _ _ _ _ _ _ _ B f X N T XB TB rfl (room_b hD) (units_b hD) fun r fp' h' tk' F' N' hx => by
      obtain ⟨rfl, rfl⟩ := hx
      exact q _ h' tk' rfl F' N') (by fail "r") rfl rfl rfl) rfl)) (fun h => nomatch h) fun _ => lx_nil (φ := KY _ _ _ _ _ _ _ _) k)
theorem b0 {nl rl : Addr} {vs rvs : Array Value} {n kk i rn : Nat} {ti tp : Tok} {rows : List RowB} {place : Int} (B : Below A₀ base [] h₀) (F : Fr h₀ L s.heap m) (X : (Mine.hd.heap_39 w.params).In h₀) (N : News h₀ L s.heap (led)) (T : Top VW (looseW VW []) mean mg mb h₀)
    (hn : NumsIn led nl vs n kk) (e1 : m "nums" = some (.ref nl)) (e2 : m "i" = some (.int (i : Int) ti)) (e3 : m "place" = some (.int place tp)) (e4 : m "rows" = some (.ref rl)) (hi : i < 6) (hr : RowsL led rl rows rvs rn)
    (k : ∀ z zt at' b m' h' tk', 0 ≤ z → z < 2000000 → (∀ y : Str, y ≠ "x" → y ≠ "act" → y ≠ "off" → m' y = m y) → m' "x" = some (.int z zt) → m' "act" = some (.int (z.fmod 9) at') → m' "off" = some (.bool b) → (b = true ↔ place < 0 ∨ (rows.length : Int) ≤ place) → Fr h₀ L h' m' → News h₀ L h' led → wpAny (model Challenge.rw_no0415_01.row.prog w) (callerA.deeper (envOfC (Str.ofString "law") lawSc L a ccd)) (execs (R) (envOfC (Str.ofString "law") lawSc L a ccd)) Q E { s with heap := h', toks := tk' }) :
    wpAny (model Challenge.rw_no0415_01.row.prog w) (callerA.deeper (envOfC (Str.ofString "law") lawSc L a ccd)) (execs (lawBody 20 0 :: lawBody 20 1 :: lawBody 20 2 :: R) (envOfC (Str.ofString "law") lawSc L a ccd)) Q E s := by
  have ok := okL (L := L) (mean := mean) (mg := mg) (mb := mb) B X T
  refine (?_ : Ly w (FL a ccd) (bL A₀ base h₀ L mg mb mean) (execs (lawBody 20 0 :: lawBody 20 1 :: lawBody 20 2 :: R) (evx (FL a ccd) (bL A₀ base h₀ L mg mb mean))) s Q E m _) s.heap s.toks F N
  conv in (lawBody _ _) => whnf
  conv in (lawBody _ _) => whnf
  conv in (lawBody _ _) => whnf
  refine ly_name (px_draw ok hn (px_glob ok (by fail "r") rfl rfl rfl) (px_name e1 rfl rfl rfl) (px_add px_int (px_nameP ⟨_, e2, _, rfl⟩ rfl rfl rfl)) (by omega) (by omega) rfl (by decide) rfl rfl rfl rfl) (fun vx hv => ?_) rfl rfl rfl
  obtain ⟨z, hz, h0, h1⟩ := hv
  refine ly_name (px_fmod (px_nameP ⟨_, rfl, hz⟩ rfl rfl rfl) px_int (by decide)) (fun va ha => ?_) rfl rfl rfl
  refine ly_name (P := fun a => a = .bool (decide (place < 0) || decide ((rvs.size : Int) ≤ place))) (pv_or (pv_cmp (P := IsI place) (P2 := IsI 0) (px_nameP ⟨_, e3, _, rfl⟩ rfl rfl rfl) px_int (fun u v hu hv s Q E f N q => by obtain ⟨t, rfl⟩ := hu; obtain ⟨t', rfl⟩ := hv; exact lt_int (q _ s.heap _ rfl f N)) rfl) fun _ => pv_cmp (P := IsI place) (P2 := IsI rvs.size) (px_nameP ⟨_, e3, _, rfl⟩ rfl rfl rfl) (px_len ok (px_name e4 rfl rfl rfl) (px_builtin ok (by fail "r") (by fail "r") (by decide) rfl rfl rfl) hr.lst (by have := hr.size; have := hr.small; omega) rfl rfl) (fun u v hu hv s Q E f N q => by obtain ⟨t, rfl⟩ := hu; obtain ⟨t', rfl⟩ := hv; exact ge_int (q _ s.heap _ rfl f N)) rfl) (fun v hv => ?_) rfl rfl rfl
  subst hv
  obtain ⟨tz, rfl⟩ := hz
  obtain ⟨ta, rfl⟩ := ha
  exact fun h' tk' F' N' => k z tz ta _ _ h' tk' h0 h1 (fun y h1 h2 h3 => by simp only [ms, if_neg h1, if_neg h2, if_neg h3]) rfl rfl rfl (by rw [hr.size]; simp) F' N'
end
open PySem PySem.W PyProof.Rows PySem.Spec PyProof.Rows.LCg
set_option linter.unusedVariables false
set_option maxRecDepth 100000
set_option maxHeartbeats 8000000
def vByte (j : Nat) : Array UInt8 := #[(65 + (j : Int)).toNat.toUInt8]
theorem vByte_inj {i j : Nat} (hi : i < 5) (hj : j < 5) (h : vByte i = vByte j) : i = j := by
  have : ∀ i, i < 5 → ∀ j, j < 5 → vByte i = vByte j → i = j := by decide
  exact this i hi j hj h
structure Ents9 (rest : Led) (el cE : Addr) (cnt i : Nat) (tl : Led) (vs : Array Value) (ents : List Ent) : Prop where
  sub : ∀ p ∈ rest, p ∈ tl
  off : ∀ p ∈ tl, p.1 ≠ el ∧ p.1 ≠ cE
  new : ∀ p ∈ tl, p ∈ rest ∨ ∀ q ∈ rest, q.1 ≠ p.1
  inn : EntsIn tl vs ents
  len : ents.length ≤ i
  some : 0 < i → ents ≠ []
  ok : ∀ e ∈ ents, e.Ok cnt
  by' : ∀ e ∈ ents, ∃ j, j < i ∧ e.v = vByte j
  pw : ents.Pairwise fun a b => a.v ≠ b.v
theorem Ents9.same {rest tl : Led} {el cE : Addr} {cnt i : Nat} {vs : Array Value} {ents : List Ent} (h : Ents9 rest el cE cnt i tl vs ents) (hn : ents ≠ []) : Ents9 rest el cE cnt (i + 1) tl vs ents :=
  ⟨h.sub, h.off, h.new, h.inn, Nat.le_succ_of_le h.len, fun _ => hn, h.ok, fun e he => by obtain ⟨j, hj, hv⟩ := h.by' e he; exact ⟨j, by omega, hv⟩, h.pw⟩
theorem Ents9.more {rest tl : Led} {el cE : Addr} {cnt i : Nat} {vs : Array Value} {ents : List Ent} (h : Ents9 rest el cE cnt i tl vs ents) (hi : i < 5) {a : Addr} {xs : List Value} {nn : Nat} {e : Ent} (hv : e.v = vByte i) (ho : e.Ok cnt) (hf : FAll xs e.fd) (ha : a ≠ el ∧ a ≠ cE) (hq : ∀ q ∈ rest, q.1 ≠ a) :
    Ents9 rest el cE cnt (i + 1) ((a, tupObj xs nn) :: tl) (vs.push (.ref a)) (ents ++ [e]) := by
  refine ⟨fun p hp => .tail _ (h.sub p hp), fun p hp => ?_, fun p hp => ?_, EntsIn.push (h.inn.mono fun p hp => .tail _ hp) (.head _) hf, by have := h.len; simp; omega, fun _ => by simp, fun e' he => ?_, fun e' he => ?_, ?_⟩
  · rcases List.mem_cons.mp hp with rfl | hp
    · exact ha
    · exact h.off p hp
  · rcases List.mem_cons.mp hp with rfl | hp
    · exact .inr hq
    · exact h.new p hp
  · rcases List.mem_append.mp he with he | he
    · exact h.ok e' he
    · rw [List.mem_singleton.mp he]; exact ho
  · rcases List.mem_append.mp he with he | he
    · obtain ⟨j, hj, hv⟩ := h.by' e' he; exact ⟨j, by omega, hv⟩
    · rw [List.mem_singleton.mp he]; exact ⟨i, by omega, hv⟩
  · rw [List.pairwise_append]
    refine ⟨h.pw, List.pairwise_singleton _ _, fun x hx y hy => ?_⟩
    rw [List.mem_singleton.mp hy, hv]
    obtain ⟨j, hj, hv'⟩ := h.by' x hx
    rw [hv']
    intro e
    have := vByte_inj (by omega) hi e
    omega
structure HeadsIn (hd : Addr) (u : Array UInt8) (q kd c : Nat) (j : Nat) (ys : List Value) (nw : Led) : Prop where
  len : ys.length = j
  all : ∀ y ∈ ys, ∃ a xs ds n, y = .ref a ∧ a ≠ hd ∧ (a, tupObj xs n) ∈ nw ∧ FAll xs ds ∧ kindsAll ds [.b u, .i (0 - (q : Int)), .i (0 - (kd : Int)), .i (c : Int)]
inductive HeadsQ (hd : Addr) (u : Array UInt8) (q kd c n : Nat) (m : Str → Option Value) (led : Led) : Value → (Str → Option Value) → Led → Prop
  | mk (D : Addr) (ys : List Value) (nw : Led) (hJ : HeadsIn hd u q kd c n ys nw) (hs : ∀ p ∈ led, p ∈ nw) : HeadsQ hd u q kd c n m led (.ref D) m ((D, lst ys) :: nw)
inductive NiP (m : Str → Option Value) (led : Led) (n : Nat) : Bool → (Str → Option Value) → Led → Prop
  | mk (c : Bool) (h : n = 0 → c = true) : NiP m led n c m led
inductive AddP (m : Str → Option Value) (led : Led) (P : List Value → Prop) : Value → (Str → Option Value) → Led → Prop
  | mk (D D2 : Addr) (ws zs : List Value) (h : P zs) (l1 : ∀ p ∈ led, @LT.lt Nat _ p.1 D) (l2 : @LT.lt Nat _ D D2) : AddP m led P (.ref D2) m ((D2, tupObj zs 0) :: (D, tupObj ws 0) :: led)
section
variable {w : World} {D D' : Nat} {F : FnC} {b : Bx} {m : Str → Option Value} {led : Led} {env : Env} {pos tp : Pos} {P : Value → Prop} {φ : Flow → (Str → Option Value) → Led → Prop}
theorem lx_addT {o : Expr} {elts : List Expr} {k n : Nat} {t : Addr} {vs : List Value} {A P : List Value → Prop} (h1 : Px w F b (eval o env) (fun a => a = .ref t) m led) (hm : (t, tupObj vs n) ∈ led) (h2 : Px w F b (spliced (backTo tp (starEach elts env))) A m led) (hA : ∀ ws, A ws → ws ≠ [] ∧ vs.length + ws.length ≤ 1000 ∧ P (vs ++ ws)) (hv : vs ≠ []) : Lx w F b (eval (.BinOp o .Add (.Tuple elts k tp) pos) env) (AddP m led P) m led := fun s Q E f N q =>
  wpAny_BinOp (h1 s _ E f N fun a h' tk' pa F' N' => by
    subst pa
    exact Tuple_ (h2 _ _ E F' N' fun ws h2' tk2 pw F2 N2 => kup_newTuple F2 N2 (fun D h3' F3 N3 l1 => add_tup F3 N3 (.tail _ hm) (.head _) hv (hA ws pw).1 (Nat.le_trans (hA ws pw).2.1 (by decide)) fun D2 h4' F4 N4 l2 => q _ m _ h4' tk2 (.mk D D2 ws _ (hA ws pw).2.2 l1 (l2 _ (.head _))) F4 N4) (Nat.le_trans (Nat.le_trans (Nat.le_add_left _ _) (hA ws pw).2.1) (by decide))))
end
section
variable {w : World} {A₀ : Around} {base h₀ : Heap} {L a : Addr} {ccd : Value} {m mg mb : Str → Option Value} {mean : ExcName → Option Value} {s : Shared} {rest led : Led} {Q : Flow → Shared → Prop} {E : Value → Shared → Prop} {R : List Stmt}
theorem st9b {el hd : Addr} {vs : Array Value} {n nn i : Nat} {ti : Tok} {ents : List Ent} {u : Array UInt8} {q kd c : Nat} {t1 t2 t3 t4 : Tok} {oE : Obj} (B : Below A₀ base [] h₀) (F : Fr h₀ L s.heap m) (X : (Mine.hd.heap_39 w.params).In h₀) (N : News h₀ L s.heap ((el, listOf vs n) :: led)) (T : Top VW (looseW VW []) mean mg mb h₀)
    (e1 : m "head" = some (.ref hd)) (e3 : m "i" = some (.int (i : Int) ti)) (hi : i < 5) (hE : oE.data = .cell (some (.ref el))) (hcE : (L + 1, oE) ∈ led) (hel : ∀ p ∈ led, p.1 ≠ el) (hhd : (hd, tupObj [.bytes u t1, .int (0 - (q : Int)) t2, .int (0 - (kd : Int)) t3, .int (c : Int) t4] nn) ∈ led) (hen : EntsIn led vs ents) (h5 : ents.length ≤ 5)
    (k : (ents ≠ [] → ∀ h' tk', Fr h₀ L h' m → News h₀ L h' ((el, listOf vs n) :: led) → wpAny (model Challenge.rw_no0415_01.row.prog w) (callerA.deeper (envOfC (Str.ofString "law") lawSc L a ccd)) (execs (R) (envOfC (Str.ofString "law") lawSc L a ccd)) Q E { s with heap := h', toks := tk' }) ∧ (∀ ae t1 t2 t3 t4 t5 n' nn h' tk', (∀ p ∈ led, @LT.lt Nat _ p.1 ae) → @Ne Nat ae el → Fr h₀ L h' m → News h₀ L h' ((el, listOf (vs.push (.ref ae)) n') :: (ae, tupObj [.bytes u t1, .int (0 - (q : Int)) t2, .int (0 - (kd : Int)) t3, .int (c : Int) t4, .bytes #[(65 + (i : Int)).toNat.toUInt8] t5] nn) :: led) → wpAny (model Challenge.rw_no0415_01.row.prog w) (callerA.deeper (envOfC (Str.ofString "law") lawSc L a ccd)) (execs (R) (envOfC (Str.ofString "law") lawSc L a ccd)) Q E { s with heap := h', toks := tk' })) :
    wpAny (model Challenge.rw_no0415_01.row.prog w) (callerA.deeper (envOfC (Str.ofString "law") lawSc L a ccd)) (execs (lawBody 9 4 :: R) (envOfC (Str.ofString "law") lawSc L a ccd)) Q E s := by
  have ok := okL (L := L) (mean := mean) (mg := mg) (mb := mb) B X T
  refine (?_ : Ly w (FL a ccd) (bL A₀ base h₀ L mg mb mean) (execs (lawBody 9 4 :: R) (evx (FL a ccd) (bL A₀ base h₀ L mg mb mean))) s Q E m _) s.heap s.toks F N
  conv in (lawBody _ _) => whnf
  have hz := hen.size
  refine ly_seq (lx_ifC (θ := NiP m ((el, listOf vs n) :: led) vs.size) (fun s Q E f N q' => wpAny_isTrue_Compare1 (px_name (v := .ref hd) e1 rfl rfl rfl s _ E f N fun a h' tk' pa F' N' => ?_) rfl) (fun m' led' h => ?_) fun m' led' h => ?_)
  · subst pa
    refine lx_compU (J := HeadsIn hd u q kd c) (φ := HeadsQ hd u q kd c vs.size m ((el, listOf vs n) :: led)) (px_cell (.tail _ hcE) hE rfl rfl rfl rfl) (.head _) (by omega) ⟨rfl, fun y hy => nomatch hy⟩ (fun j v ys nw T C hj hP hJ hsub hT hown => ?_) (fun D ys nw hJ hsub _ => .mk D ys nw hJ hsub) (by fail "r") (by decide) rfl (by decide) rfl (fun _ => rfl) (fun _ => rfl) rfl (fun _ => rfl) _ _ _ F' N' fun v m' led' h2 tk2 hv F2 N2 => ?_
    · obtain ⟨e9, he9⟩ : ∃ e, ents[j]? = some e := ⟨_, List.getElem?_eq_getElem (by omega)⟩
      obtain ⟨aa, xs, kx, hv, hxm, hxf⟩ := hen.at' j e9 he9
      obtain rfl : v = .ref aa := Option.some.inj ((show vs[j]? = some v from hP).symm.trans hv)
      obtain ⟨y1, y2, y3, y4, y5, rfl⟩ := FAll_ent hxf
      refine (lx_cut (zs := [_, _, _, _]) (hown _ _ fun _ h => h) px_int (hT _ (hsub _ (.tail _ hxm))) (by decide) (by show (4 : Int) < 5; decide) (by show 5 ≤ 1000; decide) rfl (fun _ => (by fail "r")) fun _ => (by fail "r")).mono fun y m' led' hc => ?_
      obtain ⟨D, hlt⟩ := hc
      exact EltP.mk (.ref D) [_] (fun q hq p hp => by rw [List.mem_singleton.mp hq]; exact Nat.ne_of_lt (hlt p hp)) ⟨by rw [List.length_append, hJ.len]; rfl, fun y hy => by
        rcases List.mem_append.mp hy with hy | hy
        · obtain ⟨a', xs', ds', n', r1, r2, r3, r4, r5⟩ := hJ.all y hy
          exact ⟨a', xs', ds', n', r1, r2, .tail _ r3, r4, r5⟩
        · rw [List.mem_singleton.mp hy]
          exact ⟨D, _, [.b e9.u, .i (0 - (e9.q : Int)), .i (0 - (e9.k : Int)), .i (e9.c : Int)], _, rfl, (Nat.ne_of_lt (hlt _ (hT _ (hsub _ (.tail _ hhd))))).symm, .head _, ⟨⟨_, rfl⟩, ⟨_, rfl⟩, ⟨_, rfl⟩, ⟨_, rfl⟩, trivial⟩, ⟨trivial, trivial, trivial, trivial, trivial⟩⟩⟩
    · obtain ⟨D, ys, nw, hJ, hs⟩ := hv
      exact notin_tups N2 (.head _) (.tail _ (hs _ (.tail _ hhd))) (es := [.b u, .i (0 - (q : Int)), .i (0 - (kd : Int)), .i (c : Int)]) ⟨⟨_, rfl⟩, ⟨_, rfl⟩, ⟨_, rfl⟩, ⟨_, rfl⟩, trivial⟩ (by show callerA.units + 3 + 1 < cLine; decide) (fun y hy => by
        obtain ⟨a', xs', ds', n', r1, r2, r3, r4, r5⟩ := hJ.all y (by simpa using hy)
        exact ⟨a', xs', ds', n', r1, r2, .tail _ r3, r4, r5⟩) fun bb hb => wpAny_truthy_bool (q' bb m _ h2 tk2 (.mk bb fun h0 => hb (by rw [List.size_toArray, hJ.len, h0])) F2 (news_of N2 fun p hp => .tail _ (hs p hp)))
  · obtain ⟨-⟩ := h
    refine sx_expr (lx_append (l := el) (items := vs) (n := n) (px_cell (.tail _ hcE) hE rfl rfl rfl rfl) (.head _) ((lx_addT (P := fun zs => ∃ t, zs = [.bytes u t1, .int (0 - (q : Int)) t2, .int (0 - (kd : Int)) t3, .int (c : Int) t4, .bytes #[(65 + (i : Int)).toNat.toUInt8] t]) (px_name e1 rfl rfl rfl) (.tail _ hhd) (px_args1 (px_make (ns := [65 + (i : Int)]) (px_builtin ok (by fail "r") (by fail "r") (by decide) rfl rfl rfl) (pi_cons (px_add px_int (px_nameP ⟨_, e3, _, rfl⟩ rfl rfl rfl)) pi_nil rfl) (fun z hz => by rw [List.mem_singleton.mp hz]; omega) (by show 1 ≤ 1000; decide) rfl rfl) rfl) (fun ws h => ?_) (List.cons_ne_nil _ _)).mono fun v m' led' h => ?_) rfl rfl) rfl rfl
    · obtain ⟨_, rfl, t, rfl⟩ := h
      exact ⟨List.cons_ne_nil _ _, by show 5 ≤ 1000; decide, t, rfl⟩
    · obtain ⟨D, D2, ws, zs, ⟨t, rfl⟩, g1, g2⟩ := h
      have a1 : @Ne Nat D2 el := (Nat.ne_of_lt (Nat.lt_trans (g1 _ (.head _)) g2)).symm
      refine .mk vs n _ (.tail _ (.tail _ (.head _))) (.tail a1 (.tail (Nat.ne_of_lt (g1 _ (.head _))).symm (.head hel))) (by omega) (lx_nil (φ := KY _ _ _ _ _ _ _ _) fun h' tk' F' N' => k.2 D2 t1 t2 t3 t4 t (n + 1) 0 h' tk' (fun p hp => Nat.lt_trans (g1 p (.tail _ hp)) g2) a1 F' (news_of N' fun p hp => ?_))
      rcases List.mem_cons.mp hp with rfl | hp
      · exact .tail _ (.tail _ (.head _))
      · rcases List.mem_cons.mp hp with rfl | hp
        · exact .head _
        · exact .tail _ (.tail _ (.tail _ hp))
  · obtain ⟨h⟩ := h
    exact lx_nil (φ := KY _ _ _ _ _ _ _ _) (k.1 fun h0 => by subst h0; exact Bool.false_ne_true (h hz))
end
open PySem PySem.W PyProof.Rows PySem.Spec PyProof.Rows.LCg
set_option linter.unusedVariables false
set_option maxRecDepth 100000
set_option maxHeartbeats 8000000
theorem NumsIn.mono {rest rest' : Led} {nl : Addr} {vs : Array Value} {n k : Nat} (h : NumsIn rest nl vs n k) (hs : ∀ p ∈ rest, p ∈ rest') : NumsIn rest' nl vs n k := ⟨hs _ h.lst, h.size, h.pos, h.small, h.num⟩
inductive J9P (rest : Led) (el cE : Addr) (oE : Obj) (cnt : Nat) (m : Str → Option Value) : Nat → (Str → Option Value) → Led → Prop
  | mk (i : Nat) (m₁ : Str → Option Value) (ws : Array Value) (n : Nat) (tl : Led) (ents : List Ent) (hm : ∀ y : Str, y ≠ "i" → y ≠ "x" → y ≠ "kind" → y ≠ "head" → m₁ y = m y) (h : Ents9 rest el cE cnt i tl ws ents) : J9P rest el cE oE cnt m i m₁ ((el, listOf ws n) :: (cE, oE) :: tl)
section
variable {w : World} {A₀ : Around} {base h₀ : Heap} {L a : Addr} {ccd : Value} {m mg mb : Str → Option Value} {mean : ExcName → Option Value} {s : Shared} {rest led : Led} {Q : Flow → Shared → Prop} {E : Value → Shared → Prop} {R : List Stmt}
theorem st9 {el nl : Addr} {vs : Array Value} {n kk cnt k0 : Nat} {tc : Tok} {oE : Obj} (B : Below A₀ base [] h₀) (F : Fr h₀ L s.heap m) (X : (Mine.hd.heap_39 w.params).In h₀) (N : News h₀ L s.heap ((el, listOf #[] k0) :: (L + 1, oE) :: rest)) (T : Top VW (looseW VW []) mean mg mb h₀)
    (hPE : PassesOwn (model Challenge.rw_no0415_01.row.prog w) (callerA.deeper (envOfC (Str.ofString "law") lawSc L a ccd)) (envOfC (Str.ofString "law") lawSc L a ccd) E) (hn : NumsIn rest nl vs n kk) (e1 : m "nums" = some (.ref nl)) (e2 : m "count" = some (.int (cnt : Int) tc)) (hc : 0 < cnt) (hc2 : cnt ≤ 3) (hE : oE.data = .cell (some (.ref el))) (hLe : @LT.lt Nat _ (L + 1) el) (hr : ∀ p ∈ rest, p.1 ≠ L + 1) (hre : ∀ p ∈ rest, @LT.lt Nat _ p.1 el)
    (k : ∀ ws n' tl ents m' h' tk', Ents9 rest el (L + 1) cnt 5 tl ws ents → (∀ y : Str, y ≠ "i" → y ≠ "x" → y ≠ "kind" → y ≠ "head" → m' y = m y) → Fr h₀ L h' m' → News h₀ L h' ((el, listOf ws n') :: (L + 1, oE) :: tl) → wpAny (model Challenge.rw_no0415_01.row.prog w) (callerA.deeper (envOfC (Str.ofString "law") lawSc L a ccd)) (execs (R) (envOfC (Str.ofString "law") lawSc L a ccd)) Q E { s with heap := h', toks := tk' }) :
    wpAny (model Challenge.rw_no0415_01.row.prog w) (callerA.deeper (envOfC (Str.ofString "law") lawSc L a ccd)) (execs (lawAt 9 :: R) (envOfC (Str.ofString "law") lawSc L a ccd)) Q E s := by
  have ok := okL (L := L) (mean := mean) (mg := mg) (mb := mb) B X T
  refine (?_ : Ly w (FL a ccd) (bL A₀ base h₀ L mg mb mean) (execs (lawAt 9 :: R) (evx (FL a ccd) (bL A₀ base h₀ L mg mb mean))) s Q E m _) s.heap s.toks F N
  conv in (lawAt _) => whnf
  refine ly_seq (lx_forUp (n := 5) ok (px_builtin ok (by fail "r") (by fail "r") (by decide) rfl rfl rfl) px_int (by decide) (J9P rest el (L + 1) oE cnt m) (.mk 0 m #[] k0 rest [] (fun _ _ _ _ _ => rfl) ⟨fun p hp => hp, fun p hp => ⟨Nat.ne_of_lt (hre p hp), hr p hp⟩, fun p hp => .inl hp, EntsIn.nil, Nat.le_refl _, fun h => absurd h (Nat.lt_irrefl _), fun e he => (nomatch he), fun e he => (nomatch he), .nil⟩) (fun i m₁ led₁ I o t hi hJ hne Φ hΦ hR s Q E F₁ N₁ kont => ?_) (fun m' led' hJ => ?_) rfl rfl rfl rfl (fun _ => rfl))
  · obtain ⟨ws, n', tl, ents, hm, J9⟩ := hJ
    have hI1 : @Ne Nat el I := hne _ (.head _)
    have hI2 : @Ne Nat (L + 1) I := hne _ (.tail _ (.head _))
    refine st9a B F₁ X N₁ T (hn.mono fun p hp => .tail _ (.tail _ (.tail _ (J9.sub p hp)))) ((hm "nums" (by decide) (by decide) (by decide) (by decide)).trans e1) ((hm "count" (by decide) (by decide) (by decide) (by decide)).trans e2) (i := i) (ti := t) rfl hi hc hc2 ?_
    intro hd u q kd c t1 t2 t3 t4 nn m' h' tk' gu gq gk gc glt hm' hh F₂ N₂
    have g3 : ∀ y : Str, y ≠ "i" → y ≠ "x" → y ≠ "kind" → y ≠ "head" → m' y = m y := fun y h1 h2 h3 h4 => (hm' y h2 h3 h4).trans ((if_neg h1).trans (hm y h1 h2 h3 h4))
    refine st9b (el := el) (vs := ws) (n := n') (ents := ents) (led := (hd, tupObj [.bytes u t1, .int (0 - (q : Int)) t2, .int (0 - (kd : Int)) t3, .int (c : Int) t4] nn) :: (I, o) :: (L + 1, oE) :: tl) B F₂ X (news_of N₂ fun p hp => ?_) T hh (i := i) (ti := t) ((hm' "i" (by decide) (by decide) (by decide)).trans rfl) hi hE (.tail _ (.tail _ (.head _))) (fun p hp => ?_) (.head _) (J9.inn.mono fun p hp => .tail _ (.tail _ (.tail _ hp))) (by have := J9.len; omega) ⟨fun hn0 h₃ tk₃ F₃ N₃ => wpAny_execs_nil ?_, fun ae s1 s2 s3 s4 s5 n3 nn3 h₃ tk₃ hlt hae F₃ N₃ => wpAny_execs_nil ?_⟩
    · rcases List.mem_cons.mp hp with rfl | hp
      · exact .tail _ (.tail _ (.head _))
      · rcases List.mem_cons.mp hp with rfl | hp
        · exact .head _
        · rcases List.mem_cons.mp hp with rfl | hp
          · exact .tail _ (.head _)
          · exact .tail _ (.tail _ (.tail _ hp))
    · rcases List.mem_cons.mp hp with rfl | hp
      · exact (Nat.ne_of_lt (glt _ (.tail _ (.head _)))).symm
      · rcases List.mem_cons.mp hp with rfl | hp
        · exact fun e => hI1 e.symm
        · rcases List.mem_cons.mp hp with rfl | hp
          · exact Nat.ne_of_lt hLe
          · exact (J9.off p hp).1
    · refine kont .next m' _ h₃ tk₃ (hΦ .next m' _ _ (.inl rfl) (.mk (i + 1) m' ws n' tl ents g3 (J9.same hn0)) (fun p hp => ?_) (.tail _ (.tail _ (.head _))) hne) F₃ N₃
      rcases List.mem_cons.mp hp with rfl | hp
      · exact .head _
      · exact .tail _ (.tail _ (.tail _ hp))
    · have h1 : @Ne Nat ae I := (Nat.ne_of_lt (hlt _ (.tail _ (.head _)))).symm
      have h2 : @Ne Nat ae (L + 1) := (Nat.ne_of_lt (hlt _ (.tail _ (.tail _ (.head _))))).symm
      refine kont .next m' _ h₃ tk₃ (hΦ .next m' _ _ (.inl rfl) (.mk (i + 1) m' _ n3 _ _ g3 (J9.more hi (nn := nn3) (e := ⟨u, q, kd, c, vByte i⟩) rfl ⟨gu, gq, gk, gc, (by show 1 ≤ 8; decide)⟩ (FAll_of (e := ⟨u, q, kd, c, vByte i⟩) (t1 := s1) (t2 := s2) (t3 := s3) (t4 := s4) (t5 := s5)) ⟨hae, h2⟩ fun q hq => Nat.ne_of_lt (hlt _ (.tail _ (.tail _ (.tail _ (J9.sub q hq))))))) (fun p hp => ?_) (.tail _ (.tail _ (.tail _ (.head _)))) fun p hp => ?_) F₃ N₃
      · rcases List.mem_cons.mp hp with rfl | hp
        · exact .head _
        · rcases List.mem_cons.mp hp with rfl | hp
          · exact .tail _ (.tail _ (.tail _ (.tail _ (.head _))))
          · rcases List.mem_cons.mp hp with rfl | hp
            · exact .tail _ (.head _)
            · exact .tail _ (.tail _ (.tail _ (.tail _ (.tail _ hp))))
      · rcases List.mem_cons.mp hp with rfl | hp
        · exact hI1
        · rcases List.mem_cons.mp hp with rfl | hp
          · exact hI2
          · rcases List.mem_cons.mp hp with rfl | hp
            · exact h1
            · exact hne p (.tail _ (.tail _ hp))
  · obtain ⟨ws, n', tl, ents, hm, J9⟩ := hJ
    exact fun h' tk' F' N' => k ws n' tl ents m' h' tk' J9 hm F' N'
end
open PySem PySem.W PyProof.Rows PySem.Spec PyProof.Rows.LCg
set_option linter.unusedVariables false
set_option maxRecDepth 100000
set_option maxHeartbeats 8000000
structure Grow (a b : Led) : Prop where
  sub : ∀ p ∈ a, p ∈ b
  new : ∀ p ∈ b, p ∈ a ∨ ∀ q ∈ a, q.1 ≠ p.1
theorem Grow.refl (a : Led) : Grow a a := ⟨fun _ h => h, fun _ h => .inl h⟩
theorem Grow.cons {a b : Led} {p : Addr × Obj} (h : Grow a b) (hn : ∀ q ∈ a, q.1 ≠ p.1) : Grow a (p :: b) := ⟨fun q hq => .tail _ (h.sub q hq), fun q hq => by
  rcases List.mem_cons.mp hq with rfl | hq
  · exact .inr hn
  · exact h.new q hq⟩
def Ent.rb (e : Ent) : RowB := (ikb ⟨e.u, e.q, e.k⟩, e.v)
theorem users_size {u : Array UInt8} (h : u ∈ usersL) : u.size ≤ 8 := by
  have : ∀ u ∈ usersL, u.size ≤ 8 := by decide
  exact this u h
theorem neg2 (q : Int) : 0 - (0 - q) = q := by omega
inductive J12 (led : Led) (ents : List Ent) (cF : Addr) (j : Nat) (ys : List Value) (nw : Led) : Prop
  | mk (nw' : Led) (g1 : ∀ p ∈ nw', p ∈ nw) (g2 : Grow led nw') (g3 : ∀ p ∈ nw', p.1 ≠ cF) (g4 : ys.length = j) (g5 : ∀ (i : Nat) e, i < j → ents[i]? = some e → ∃ a t1 t2 n', ys[i]? = some (.ref a) ∧ (a, tupObj [.bytes (ikb ⟨e.u, e.q, e.k⟩) t1, .bytes e.v t2] n') ∈ nw') : J12 led ents cF j ys nw
section
variable {w : World} {A₀ : Around} {base h₀ : Heap} {L a : Addr} {ccd : Value} {m mg mb : Str → Option Value} {mean : ExcName → Option Value} {s : Shared} {rest led : Led} {Q : Flow → Shared → Prop} {E : Value → Shared → Prop} {R : List Stmt}
theorem st12 {el : Addr} {vs : Array Value} {n cnt : Nat} {ents : List Ent} {oE oF : Obj} {vF : Option Value} (B : Below A₀ base [] h₀) (F : Fr h₀ L s.heap m) (X : (Mine.hd.heap_39 w.params).In h₀) (N : News h₀ L s.heap ((L + 1 + 1, oF) :: led)) (T : Top VW (looseW VW []) mean mg mb h₀)
    (hE : oE.data = .cell (some (.ref el))) (hcE : (L + 1, oE) ∈ led) (hF : oF.data = .cell vF) (hl : (el, listOf vs n) ∈ led) (hr : ∀ p ∈ led, p.1 ≠ L + 1 + 1) (he : EntsIn led vs ents) (hok : ∀ e ∈ ents, e.Ok cnt) (h5 : ents.length ≤ 5)
    (k : ∀ fl oF' led' fvs n' h' tk', oF'.data = .cell (some (.ref fl)) → Grow led led' → (∀ p ∈ led', p.1 ≠ L + 1 + 1) → RowsL led' fl (ents.map Ent.rb) fvs n' → Fr h₀ L h' m → News h₀ L h' ((L + 1 + 1, oF') :: led') → wpAny (model Challenge.rw_no0415_01.row.prog w) (callerA.deeper (envOfC (Str.ofString "law") lawSc L a ccd)) (execs (R) (envOfC (Str.ofString "law") lawSc L a ccd)) Q E { s with heap := h', toks := tk' }) :
    wpAny (model Challenge.rw_no0415_01.row.prog w) (callerA.deeper (envOfC (Str.ofString "law") lawSc L a ccd)) (execs (lawAt 12 :: R) (envOfC (Str.ofString "law") lawSc L a ccd)) Q E s := by
  have ok := okL (L := L) (mean := mean) (mg := mg) (mb := mb) B X T
  refine (?_ : Ly w (FL a ccd) (bL A₀ base h₀ L mg mb mean) (execs (lawAt 12 :: R) (evx (FL a ccd) (bL A₀ base h₀ L mg mb mean))) s Q E m _) s.heap s.toks F N
  conv in (lawAt _) => whnf
  have hz := he.size
  refine ly_seq (lx_cellL (lx_compU (J := J12 led ents (L + 1 + 1)) (px_cell (.tail _ hcE) hE rfl rfl rfl rfl) (.tail _ hl) (by omega) (.mk led (fun p hp => .tail _ hp) (Grow.refl _) hr rfl fun i e hi => absurd hi (Nat.not_lt_zero _)) (fun j v ys nw T C hj hP hJ hsub hT hown => ?_) (fun D ys nw hJ hsub hne => ?_) (by fail "r") (by decide) rfl (by decide) rfl (fun _ => rfl) (fun _ => rfl) rfl (fun _ => rfl)) rfl rfl rfl rfl)
  · obtain ⟨nw', g1, g2, g3, g4, g5⟩ := hJ
    obtain ⟨e9, he9⟩ : ∃ e, ents[j]? = some e := ⟨_, List.getElem?_eq_getElem (by omega)⟩
    obtain ⟨aa, xs, kx, hv, hxm, hxf⟩ := he.at' j e9 he9
    obtain rfl : v = .ref aa := Option.some.inj ((show vs[j]? = some v from hP).symm.trans hv)
    obtain ⟨y1, y2, y3, y4, y5, rfl⟩ := FAll_ent hxf
    have hxm2 := hT _ (hsub _ (.tail _ hxm))
    have ok9 := hok e9 (List.mem_of_getElem? he9)
    have u9 := users_size ok9.u
    have it : ∀ (k : Int) {v : Value} {slice : Expr} {p1 p2 : Pos}, 0 ≤ k → k < 2 ^ 63 → [Value.bytes e9.u y1, .int (0 - (e9.q : Int)) y2, .int (0 - (e9.k : Int)) y3, .int (e9.c : Int) y4, .bytes e9.v y5][k.toNat]? = some v → Px w (FL a ccd) (bL A₀ base h₀ L mg mb mean) (eval slice _) (IsI k) m T → _ → Px w (FL a ccd) (bL A₀ base h₀ L mg mb mean) (eval (.Subscript (.Name "entry" p1) slice p2) _) (fun a => a = v) m T := fun k {v slice p1 p2} h0 h1 hx hs hh => px_itemT (k := k) (hown _ _ fun _ h => h) hs hxm2 h0 h1 hx hh
    refine fun s Q E f N q => Tuple_ (px_args2 (P := IsB (ikb ⟨e9.u, e9.q, e9.k⟩)) (P2 := fun a => a = .bytes e9.v y5) (pf1 (fv := .ref 664) ok (px_cglob ok (by fail "r") rfl rfl rfl) (px_args3 (P := fun a => a = .bytes e9.u y1) (P2 := IsI e9.q) (P3 := IsI e9.k) (it 0 (by decide) (by decide) rfl px_int fun _ => (by fail "r")) (Px.mono (px_sub px_int (Px.mono (it 1 (by decide) (by decide) rfl px_int fun _ => (by fail "r")) isI)) fun v h => neg2 e9.q ▸ h) (Px.mono (px_sub px_int (Px.mono (it 2 (by decide) (by decide) rfl px_int fun _ => (by fail "r")) isI)) fun v h => neg2 e9.k ▸ h) rfl rfl rfl) (fun vs h => by
      obtain ⟨_, _, _, rfl, rfl, ⟨_, rfl⟩, ⟨_, rfl⟩⟩ := h
      exact px_lik ok rfl (by decide) ok9.q ok9.k (by omega)) (by fail "r") rfl rfl rfl) (it 4 (by decide) (by decide) rfl px_int fun _ => (by fail "r")) rfl rfl s _ E f N fun ws h' tk' pw F' N' => ?_)
    obtain ⟨_, _, rfl, ⟨t8, rfl⟩, rfl⟩ := pw
    refine kup_newTuple F' N' (fun x h2 F2 N2 hlt => q _ m _ h2 tk' (.mk (.ref x) [_] (fun q hq p hp => by rw [List.mem_singleton.mp hq]; exact Nat.ne_of_lt (hlt p hp)) (.mk ((x, tupObj [.bytes (ikb ⟨e9.u, e9.q, e9.k⟩) t8, .bytes e9.v y5] 0) :: nw') (fun p hp => ?_) (g2.cons fun q hq => Nat.ne_of_lt (hlt _ (hT _ (hsub _ (.tail _ hq))))) (fun p hp => ?_) (by rw [List.length_append, g4]; rfl) fun i e hi hie => ?_)) F2 N2) (by show 2 ≤ sizeLine; decide)
    · rcases List.mem_cons.mp hp with rfl | hp
      · exact .head _
      · exact .tail _ (g1 _ hp)
    · rcases List.mem_cons.mp hp with rfl | hp
      · exact (Nat.ne_of_lt (hlt _ (hT _ (hsub _ (.head _))))).symm
      · exact g3 p hp
    · by_cases hij : i < j
      · obtain ⟨a', s1, s2, n', r1, r2⟩ := g5 i e hij hie
        exact ⟨a', s1, s2, n', by rw [List.getElem?_append_left (by omega)]; exact r1, .tail _ r2⟩
      · have : i = j := by omega
        subst this
        rw [he9] at hie
        cases hie
        exact ⟨x, t8, y5, 0, by rw [List.getElem?_append_right (by omega), g4, Nat.sub_self]; rfl, .head _⟩
  · obtain ⟨nw', g1, g2, g3, g4, g5⟩ := hJ
    have hDl : ∀ q ∈ nw', q.1 ≠ D := fun q hq => hne _ (g1 _ hq)
    have hDc : @Ne Nat (L + 1 + 1) D := hne _ (hsub _ (.head _))
    refine .mk ((D, lst ys) :: (L + 1 + 1, oF) :: nw') (fun p hp => ?_) oF vF _ (.tail (fun e => hDc e.symm) (.head g3)) hF fun o' d h' tk' F' N' => k D o' ((D, lst ys) :: nw') ys.toArray _ h' tk' d (g2.cons fun q hq => hDl q (g2.sub q hq)) (fun p hp => ?_) ⟨.head _, by simp [g4, hz], by simp; omega, fun i k9 v9 hi => ?_⟩ F' (news_of N' fun p hp => ?_)
    · rcases List.mem_cons.mp hp with rfl | hp
      · exact .head _
      · rcases List.mem_cons.mp hp with rfl | hp
        · exact .tail _ (hsub _ (.head _))
        · exact .tail _ (g1 _ hp)
    · rcases List.mem_cons.mp hp with rfl | hp
      · exact fun e => hDc e.symm
      · exact g3 p hp
    · rw [List.getElem?_map] at hi
      obtain ⟨e9, he9, hr9⟩ := Option.map_eq_some_iff.mp hi
      obtain ⟨a', s1, s2, n', r1, r2⟩ := g5 i e9 (by have := (List.getElem?_eq_some_iff.mp he9).1; omega) he9
      unfold Ent.rb at hr9
      injection hr9 with h1 h2
      subst h1
      subst h2
      exact ⟨a', s1, s2, n', by simpa using r1, .tail _ r2⟩
    · rcases List.mem_cons.mp hp with rfl | hp
      · exact .tail _ (.head _)
      · rcases List.mem_cons.mp hp with rfl | hp
        · exact .head _
        · exact .tail _ (.tail _ hp)
end
open PySem PySem.W PyProof.Rows PySem.Spec PyProof.Rows.LCg
set_option linter.unusedVariables false
set_option maxRecDepth 100000
set_option maxHeartbeats 8000000
theorem rowsOf_same {Z : MZ} {i : Nat} {z : Row × Nat} (h : Z[i]? = some z) : rowsOf (Z.take (i + 1)) z.2 = rowsOf (Z.take i) z.2 ++ [z.1] := by
  rw [List.take_add_one, h, rowsOf_append]
  simp [rowsOf]
theorem rowsOf_other {Z : MZ} {i j : Nat} {z : Row × Nat} (h : Z[i]? = some z) (hj : z.2 ≠ j) : rowsOf (Z.take (i + 1)) j = rowsOf (Z.take i) j := by
  rw [List.take_add_one, h, rowsOf_append]
  simp [rowsOf, hj]
inductive J14 (ents : List Ent) (j : Nat) (led0 : Led) (i : Nat) (ys : List Value) (nw : Led) : Prop
  | mk (g2 : ys.length = cnt (ents.map Ent.z) j i) (g3 : ∀ (p : Nat) (k : IK) (v : Array UInt8), (rowsOf ((ents.map Ent.z).take i) j)[p]? = some (k, v) → ∃ a t1 t2 n, ys[p]? = some (.ref a) ∧ (a, tupObj [.bytes (ikb k) t1, .bytes v t2] n) ∈ led0) : J14 ents j led0 i ys nw
section
variable {w : World} {A₀ : Around} {base h₀ : Heap} {L a : Addr} {ccd : Value} {m mg mb : Str → Option Value} {mean : ExcName → Option Value} {s : Shared} {rest led : Led} {Q : Flow → Shared → Prop} {E : Value → Shared → Prop} {R : List Stmt}
theorem st11  (B : Below A₀ base [] h₀) (F : Fr h₀ L s.heap m) (X : (Mine.hd.heap_39 w.params).In h₀) (N : News h₀ L s.heap (rest)) (T : Top VW (looseW VW []) mean mg mb h₀)
    (k : ∀ od led h' tk', OrdIn led od → (∀ p ∈ rest, p ∈ led) → (∀ p ∈ led, p ∈ rest ∨ ∀ q ∈ rest, @LT.lt Nat _ q.1 p.1) → Fr h₀ L h' (fun y => if y = "order" then some (.ref od) else m y) → News h₀ L h' led → wpAny (model Challenge.rw_no0415_01.row.prog w) (callerA.deeper (envOfC (Str.ofString "law") lawSc L a ccd)) (execs (R) (envOfC (Str.ofString "law") lawSc L a ccd)) Q E { s with heap := h', toks := tk' }) :
    wpAny (model Challenge.rw_no0415_01.row.prog w) (callerA.deeper (envOfC (Str.ofString "law") lawSc L a ccd)) (execs (lawAt 11 :: R) (envOfC (Str.ofString "law") lawSc L a ccd)) Q E s := by
  have ok := okL (L := L) (mean := mean) (mg := mg) (mb := mb) B X T
  refine (?_ : Ly w (FL a ccd) (bL A₀ base h₀ L mg mb mean) (execs (lawAt 11 :: R) (evx (FL a ccd) (bL A₀ base h₀ L mg mb mean))) s Q E m _) s.heap s.toks F N
  conv in (lawAt _) => whnf
  exact ly_seq (lx_nameC (lf0 (fv := .ref 284) ok (px_glob ok (by fail "r") rfl rfl rfl) (lx_call ok rfl (by decide : 2 ≤ 100) (order_c (D := 0) (rest := rest)) (fun p hp => hp) fun r fp' h => by
    obtain ⟨od, _, h, hlt⟩ := h
    exact fun h' tk' F' N' => k od _ h' tk' h (fun p hp => List.mem_append_right _ hp) (fun p hp => (List.mem_append.mp hp).elim (fun hp => .inr (hlt p hp)) .inl) F' N') (by fail "r") rfl) rfl rfl rfl)
theorem st14b {pl rl od : Addr} {pvs : Array Value} {np : Nat} (B : Below A₀ base [] h₀) (F : Fr h₀ L s.heap m) (X : (Mine.hd.heap_39 w.params).In h₀) (N : News h₀ L s.heap ((pl, listOf pvs np) :: led)) (T : Top VW (looseW VW []) mean mg mb h₀)
    (e1 : m "parts" = some (.ref pl)) (e2 : m "mine" = some (.ref rl)) (e3 : m "order" = some (.ref od)) (hpl : ∀ p ∈ led, p.1 ≠ pl) (hz : pvs.size ≤ 10)
    (k : ∀ x dx q t np' h' tk', x ≠ dx → (∀ p ∈ led, p.1 ≠ x ∧ p.1 ≠ dx) → @Ne Nat x pl → @Ne Nat dx pl → Fr h₀ L h' m → News h₀ L h' ((pl, listOf (pvs.push (.ref x)) np') :: (x, instObj 380 dx) :: (dx, LD q rl od (-1) t) :: led) → wpAny (model Challenge.rw_no0415_01.row.prog w) (callerA.deeper (envOfC (Str.ofString "law") lawSc L a ccd)) (execs (R) (envOfC (Str.ofString "law") lawSc L a ccd)) Q E { s with heap := h', toks := tk' }) :
    wpAny (model Challenge.rw_no0415_01.row.prog w) (callerA.deeper (envOfC (Str.ofString "law") lawSc L a ccd)) (execs (lawBody 14 1 :: R) (envOfC (Str.ofString "law") lawSc L a ccd)) Q E s := by
  have ok := okL (L := L) (mean := mean) (mg := mg) (mb := mb) B X T
  refine (?_ : Ly w (FL a ccd) (bL A₀ base h₀ L mg mb mean) (execs (lawBody 14 1 :: R) (evx (FL a ccd) (bL A₀ base h₀ L mg mb mean))) s Q E m _) s.heap s.toks F N
  conv in (lawBody _ _) => whnf
  exact ly_seq (lx_expr (lx_append (l := pl) (items := pvs) (n := np) (px_name e1 rfl rfl rfl) (.head _) (lf1 (fv := .ref 380) ok (px_glob ok (by fail "r") rfl rfl rfl) (px_args2 (px_name e2 rfl rfl rfl) (px_name e3 rfl rfl rfl) rfl rfl) (fun vs h => by
    obtain ⟨_, _, rfl, rfl, rfl⟩ := h
    exact lx_call ok rfl (by decide : 2 ≤ 100) (linit_c (D := 0)) (fun p hp => hp) fun r fp' h => by
      obtain ⟨x, dx, q, t, hne, hoff⟩ := h
      have a1 : @Ne Nat x pl := fun e => (hoff _ (.head _)).1 e.symm
      have a2 : @Ne Nat dx pl := fun e => (hoff _ (.head _)).2 e.symm
      exact .mk pvs np _ (.tail _ (.tail _ (.head _))) (.tail a1 (.tail a2 (.head hpl))) (by omega) fun h' tk' F' N' => k x dx q t (np + 1) h' tk' hne (fun p hp => hoff p (.tail _ hp)) a1 a2 F' (news_of N' fun p hp => by
        rcases List.mem_cons.mp hp with rfl | hp
        · exact .tail _ (.tail _ (.head _))
        · rcases List.mem_cons.mp hp with rfl | hp
          · exact .head _
          · rcases List.mem_cons.mp hp with rfl | hp
            · exact .tail _ (.head _)
            · exact .tail _ (.tail _ (.tail _ hp)))) (by fail "r") rfl rfl rfl) rfl rfl) rfl rfl)
theorem st15 {pl od : Addr} {pvs : Array Value} {np : Nat} (B : Below A₀ base [] h₀) (F : Fr h₀ L s.heap m) (X : (Mine.hd.heap_39 w.params).In h₀) (N : News h₀ L s.heap (led)) (T : Top VW (looseW VW []) mean mg mb h₀)
    (e1 : m "parts" = some (.ref pl)) (e3 : m "order" = some (.ref od)) (hpl : (pl, listOf pvs np) ∈ led) (hz : pvs.size ≤ 10)
    (k : ∀ x dx ch tp q tc tg nc' nt tops h' tk', tops.size = pvs.size → (x ≠ dx ∧ x ≠ ch ∧ x ≠ tp ∧ dx ≠ ch ∧ dx ≠ tp ∧ ch ≠ tp) → (∀ p ∈ led, p.1 ≠ x ∧ p.1 ≠ dx ∧ p.1 ≠ ch ∧ p.1 ≠ tp) → Fr h₀ L h' (fun y => if y = "walker" then some (.ref x) else m y) → News h₀ L h' ((x, instObj 506 dx) :: (dx, MD q ch tp od (-1) tc 0 tg) :: (ch, listOf pvs nc') :: (tp, listOf tops nt) :: led) → wpAny (model Challenge.rw_no0415_01.row.prog w) (callerA.deeper (envOfC (Str.ofString "law") lawSc L a ccd)) (execs (R) (envOfC (Str.ofString "law") lawSc L a ccd)) Q E { s with heap := h', toks := tk' }) :
    wpAny (model Challenge.rw_no0415_01.row.prog w) (callerA.deeper (envOfC (Str.ofString "law") lawSc L a ccd)) (execs (lawAt 15 :: R) (envOfC (Str.ofString "law") lawSc L a ccd)) Q E s := by
  have ok := okL (L := L) (mean := mean) (mg := mg) (mb := mb) B X T
  refine (?_ : Ly w (FL a ccd) (bL A₀ base h₀ L mg mb mean) (execs (lawAt 15 :: R) (evx (FL a ccd) (bL A₀ base h₀ L mg mb mean))) s Q E m _) s.heap s.toks F N
  conv in (lawAt _) => whnf
  exact ly_seq (lx_nameC (lf1 (fv := .ref 506) ok (px_glob ok (by fail "r") rfl rfl rfl) (px_args2 (px_name e1 rfl rfl rfl) (px_name e3 rfl rfl rfl) rfl rfl) (fun vs h => by
    obtain ⟨_, _, rfl, rfl, rfl⟩ := h
    exact lx_call ok rfl (by decide : 2 ≤ 100) (minit_c (D := 0) hpl (by omega)) (fun p hp => hp) fun r fp' h => by
      obtain ⟨x, dx, ch, tp, q, tc, tg, nc, nt, tops, _, ht, hne, hoff, hs⟩ := h
      exact fun h' tk' F' N' => k x dx ch tp q tc tg nc nt tops h' tk' ht hne hoff F' (news_of N' hs)) (by fail "r") rfl rfl rfl) rfl rfl rfl)
theorem st14a {el fl : Addr} {vs fvs : Array Value} {n n' j : Nat} {tj : Tok} {ents : List Ent} {oE oF oC : Obj} {led0 : Led} (B : Below A₀ base [] h₀) (F : Fr h₀ L s.heap m) (X : (Mine.hd.heap_39 w.params).In h₀) (N : News h₀ L s.heap (led)) (T : Top VW (looseW VW []) mean mg mb h₀)
    (hE : oE.data = .cell (some (.ref el))) (hcE : (L + 1, oE) ∈ led) (hF : oF.data = .cell (some (.ref fl))) (hcF : (L + 1 + 1, oF) ∈ led) (hC : oC.data = .cell (some (.int (j : Int) tj))) (hcC : (L + 1 + 1 + 1, oC) ∈ led) (hl : (el, listOf vs n) ∈ led) (he : EntsIn led vs ents) (hs0 : ∀ p ∈ led0, p ∈ led) (hf : RowsL led0 fl (ents.map Ent.rb) fvs n')
    (k : ∀ rl mvs n'' h' tk', (∀ q ∈ led, @Ne Nat q.1 rl) → mvs.size = (rowsOf (ents.map Ent.z) j).length → (∀ (i : Nat) (k : IK) (v : Array UInt8), (rowsOf (ents.map Ent.z) j)[i]? = some (k, v) → ∃ a t1 t2 n, mvs[i]? = some (.ref a) ∧ (a, tupObj [.bytes (ikb k) t1, .bytes v t2] n) ∈ led0) → Fr h₀ L h' (fun y => if y = "mine" then some (.ref rl) else m y) → News h₀ L h' ((rl, listOf mvs n'') :: led) → wpAny (model Challenge.rw_no0415_01.row.prog w) (callerA.deeper (envOfC (Str.ofString "law") lawSc L a ccd)) (execs (R) (envOfC (Str.ofString "law") lawSc L a ccd)) Q E { s with heap := h', toks := tk' }) :
    wpAny (model Challenge.rw_no0415_01.row.prog w) (callerA.deeper (envOfC (Str.ofString "law") lawSc L a ccd)) (execs (lawBody 14 0 :: R) (envOfC (Str.ofString "law") lawSc L a ccd)) Q E s := by
  have ok := okL (L := L) (mean := mean) (mg := mg) (mb := mb) B X T
  refine (?_ : Ly w (FL a ccd) (bL A₀ base h₀ L mg mb mean) (execs (lawBody 14 0 :: R) (evx (FL a ccd) (bL A₀ base h₀ L mg mb mean))) s Q E m _) s.heap s.toks F N
  conv in (lawBody _ _) => whnf
  have hfl := hs0 _ hf.lst
  have hfz := hf.size
  rw [List.length_map] at hfz
  have hsm := hf.small
  rw [List.length_map] at hsm
  have hez := he.size
  refine ly_seq (lx_asgR (n := ents.length) (J := J14 ents j led0) (px_builtin ok (by fail "r") (by fail "r") (by decide) rfl rfl rfl) (hfz ▸ px_len ok (px_cell hcF hF rfl rfl rfl rfl) (px_builtin ok (by fail "r") (by fail "r") (by decide) rfl rfl rfl) hfl (by omega) rfl rfl) hsm (.mk (cnt_zero _ _).symm fun p k v hp => by simp [rowsOf] at hp) (fun i v ys nw T C hi hP hJ hsub hT hown => ?_) (fun D ys nw hJ hsub hne => ?_) (by fail "r") (by fail "r") (by decide) rfl (by decide) rfl rfl rfl (fun _ => rfl) (fun _ => rfl) rfl (fun _ => rfl) rfl rfl)
  · obtain ⟨g2, g3⟩ := hJ
    obtain ⟨e9, he9⟩ : ∃ e, ents[i]? = some e := ⟨_, List.getElem?_eq_getElem hi⟩
    obtain ⟨aa, xs, kx, hv, hxm, hxf⟩ := he.at' i e9 he9
    obtain ⟨fa, s1, s2, fn, hfv, hfm⟩ := hf.row i (ikb ⟨e9.u, e9.q, e9.k⟩) e9.v (by rw [List.getElem?_map, he9]; rfl)
    obtain ⟨y1, y2, y3, y4, y5, rfl⟩ := FAll_ent hxf
    have up : ∀ p ∈ led, p ∈ T := fun p hp => hT p (hsub p hp)
    have hz9 : (ents.map Ent.z)[i]? = some e9.z := by rw [List.getElem?_map, he9]; rfl
    have hvar : ∀ {p}, Px w (FL a ccd) (bL A₀ base h₀ L mg mb mean) (eval (.Name "i" p) _) (IsI (i : Int)) m T := fun {p} => Px.mono (hown T p fun _ h => h) fun a h => h ▸ hP
    refine .mk ((e9.c : Int) == (j : Int)) (pc_eqI (Px.mono (px_itemT (k := 3) (px_item (k := (i : Int)) (px_ccell (up _ hcE) hE rfl rfl rfl rfl) hvar (up _ hl) (by omega) (by omega) hv fun _ => (by fail "r")) px_int (up _ hxm) (by decide) (by decide) rfl fun _ => (by fail "r")) isI) (Px.mono (px_ccell (up _ hcC) hC rfl rfl rfl rfl) isI) rfl) (fun hc => (px_item (k := (i : Int)) (px_ccell (up _ hcF) hF rfl rfl rfl rfl) hvar (up _ hfl) (by omega) (by omega) hfv fun _ => (by fail "r")).lx fun a ha => ?_) fun hc => ?_
    · subst ha
      have hc' : e9.z.2 = j := by rw [beq_iff_eq] at hc; show e9.c = j; omega
      have r1 := rowsOf_same hz9
      have r2 := cnt_succ_same hz9
      rw [hc'] at r1 r2
      refine EltP.mk (.ref fa) [] (fun _ h => nomatch h) (.mk (by rw [r2, List.length_append, g2]; rfl) fun p k v hp => ?_)
      rw [r1] at hp
      by_cases hlt : p < (rowsOf ((ents.map Ent.z).take i) j).length
      · rw [List.getElem?_append_left hlt] at hp
        obtain ⟨a', q1, q2, qn, h1, h2⟩ := g3 p k v hp
        exact ⟨a', q1, q2, qn, by rw [List.getElem?_append_left (by rw [g2]; exact hlt)]; exact h1, h2⟩
      · have hp0 : p = (rowsOf ((ents.map Ent.z).take i) j).length := by
          have := (List.getElem?_eq_some_iff.mp hp).1
          rw [List.length_append] at this
          simp only [List.length_cons, List.length_nil] at this
          omega
        rw [List.getElem?_append_right (by omega), hp0, Nat.sub_self] at hp
        have hp' : e9.row = (k, v) := Option.some.inj hp
        unfold Ent.row at hp'
        injection hp' with h1 h2
        subst h1
        subst h2
        refine ⟨fa, s1, s2, fn, ?_, hfm⟩
        rw [hp0, List.getElem?_append_right (by rw [g2]; exact Nat.le_refl _), g2]
        unfold cnt
        rw [Nat.sub_self]
        rfl
    · have hc' : ¬ e9.c = j := fun e => by rw [e] at hc; simp at hc
      exact .mk (by rw [cnt_succ_other (k := j) hz9 (fun e => hc' e.symm)]; exact g2) (by rw [rowsOf_other (j := j) hz9 hc']; exact g3)
  · obtain ⟨g2, g3⟩ := hJ
    have hall : (ents.map Ent.z).take ents.length = ents.map Ent.z := List.take_of_length_le (by simp)
    rw [hall] at g3
    refine fun h' tk' F' N' => k D ys.toArray ys.length h' tk' (fun q hq => hne _ (hsub _ hq)) (by rw [List.size_toArray, g2]; unfold cnt; rw [hall]) (fun i k v hi => ?_) F' (news_of N' fun p hp => ?_)
    · obtain ⟨a', q1, q2, qn, h1, h2⟩ := g3 i k v hi
      exact ⟨a', q1, q2, qn, by simpa using h1, h2⟩
    · rcases List.mem_cons.mp hp with rfl | hp
      · exact .head _
      · exact .tail _ (hsub _ hp)
end
open PySem PySem.W PyProof.Rows
set_option linter.unusedVariables false
set_option maxRecDepth 100000
set_option maxHeartbeats 8000000
inductive FCs (g : Heap) (L c I : Addr) (s : Shared) (J : Nat → (Str → Option Value) → Led → Prop) (St : Nat → Heap → Prop) (n : Nat) : Nat → Shared → Prop
  | mk (h' : Heap) (tk : Nat) (m' : Str → Option Value) (nw : Led) (i k : Nat) (oc : Obj) (v : Option Value) (hoc : oc.data = .cell v) (hst : St i h') (F : Fr g L h' m') (N : News g L h' ((c, oc) :: nw)) (hne : ∀ p ∈ nw, @Ne Nat p.1 I ∧ @Ne Nat p.1 c) (hJ : J i m' nw) (hi : i ≤ n) (hk : k = n + 1 - i) : FCs g L c I s J St n k { s with heap := h', toks := tk }
inductive TCs (c I : Addr) (o : Obj) (J : (Str → Option Value) → Led → Prop) (m : Str → Option Value) (led : Led) : Prop
  | mk (nw : Led) (oc : Obj) (v : Option Value) (hJ : J m nw) (hI : (I, o) ∈ led) (hc : (c, oc) ∈ led) (hoc : oc.data = .cell v) (hs : ∀ p ∈ nw, p ∈ led) (hne : ∀ p ∈ nw, @Ne Nat p.1 I ∧ @Ne Nat p.1 c) : TCs c I o J m led
def EndC (Q : Flow → Shared → Prop) (I : Nat → Shared → Prop) (k : Nat) : Flow → Shared → Prop
  | .ret v, s => Q (.ret v) s
  | .brk, s => Q .next s
  | .next, s => ∃ k', k' < k ∧ I k' s
  | .cont, s => ∃ k', k' < k ∧ I k' s
section
variable {w : World} {D : Nat} {F : FnC} {b : Bx} {m : Str → Option Value} {led own : Led} {φ : Flow → (Str → Option Value) → Led → Prop} {x : Str} {c : Addr} {J : Nat → (Str → Option Value) → Led → Prop} {px pos : Pos} {body : List Stmt}
def TurnC2 (w : World) (F : FnC) (b : Bx) (c : Addr) (J : Nat → (Str → Option Value) → Led → Prop) (P : Nat → Value → Prop) (body : List Stmt) (n : Nat) (φ : Flow → (Str → Option Value) → Led → Prop) : Prop :=
  ∀ i v m₁ nw I o oc, i < n → P i v → J i m₁ nw → (∀ p ∈ nw, @Ne Nat p.1 I ∧ @Ne Nat p.1 c) → @Ne Nat c I → oc.data = .cell (some v) → ∀ Φ : Flow → (Str → Option Value) → Led → Prop,
    (∀ fl m' led', fl = .next ∨ fl = .cont → TCs c I o (J (i + 1)) m' led' → Φ fl m' led') → (∀ v m' led', φ (.ret v) m' led' → Φ (.ret v) m' led') → Lx w F b (execs body (evx F b)) Φ m₁ ((I, o) :: (c, oc) :: nw)
theorem loop_C {I : Addr} {fp : List Addr} {n : Nat} {P : Nat → Value → Prop} {St : Nat → Heap → Prop} {s : Shared} {Q : Flow → Shared → Prop} {oc : Obj} {v : Option Value}
    (W : Walks PG w (tpx F b) I fp [I] n P St) (hfp : ∀ x ∈ fp, x = I ∨ ∃ o, (x, o) ∈ own) (hown : ∀ i m' nw, J i m' nw → ∀ p ∈ own, p ∈ nw) (hL : @Ne Nat b.L I) (hcI : @Ne Nat c I) (hLc : @Ne Nat b.L c) (hI0 : b.g.get? I = none) (hStI : ∀ i h, St i h → ∃ o, h.get? I = some o)
    (hoc : oc.data = .cell v) (hst : St 0 s.heap) (f : Fr b.g b.L s.heap m) (N : News b.g b.L s.heap ((c, oc) :: led)) (hne : ∀ p ∈ led, @Ne Nat p.1 I ∧ @Ne Nat p.1 c) (hj : J 0 m led) (turn : TurnC2 w F b c J P body n φ) (hX : ∀ m' led' oc v, oc.data = .cell v → J n m' led' → (∀ p ∈ led', @Ne Nat p.1 c) → φ .next m' ((c, oc) :: led'))
    (q : ∀ a m' led' h' tk', φ a m' led' → Fr b.g b.L h' m' → News b.g b.L h' led' → Q a { s with heap := h', toks := tk' })
    (hk : F.cs.kind = .function) (hx : (evx F b).kindOf x = some .cell) (hc : b.cl.lookup x = some c) (hE : PassesOwn (model PG w) (tpx F b) (evx F b) fun _ _ => False) :
    codeAny (model PG w) (tpx F b) (.forLoop (.Name x px) (.ref I) body [] (evx F b)) (fun r s' => match r with | .ok f => Q f s' | .error e => cameBackBy (model PG w) (tpx F b) (evx F b) (fun _ _ => False) e s') s := by
  refine codeAny_forLoop (FCs b.g b.L c I s J St n) ?_ (n + 1) (.mk s.heap s.toks m led 0 _ oc v hoc hst f N hne hj (Nat.zero_le _) rfl)
  intro k s' hx1
  obtain ⟨h', tk, m', nw, i, _, oc', vc', hoc', hst', F', N', hne', hJ, hi, hkn⟩ := hx1
  have nI : ∀ {x : Addr}, @Ne Nat x I → x ∉ [I] := fun hne hm => hne (List.mem_singleton.mp hm)
  have next : ∀ h₁ : Heap, (∀ b o, b ∉ [I] → h'.get? b = some o → h₁.get? b = some o) → Fr b.g b.L h₁ m' ∧ News b.g b.L h₁ ((c, oc') :: nw) := fun h₁ hk₁ =>
    ⟨⟨F'.ns.at' fun o e => hk₁ _ o (nI hL) e, fun b o e => hk₁ b o (nI fun q => by rw [q, hI0] at e; cases e) (F'.keep b o e), F'.above⟩, fun p hp => ⟨hk₁ _ _ (nI (by
      rcases List.mem_cons.mp hp with rfl | hp
      · exact hcI
      · exact (hne' p hp).1)) (N' p hp).1, (N' p hp).2⟩⟩
  by_cases hlt : i < n
  · refine W.item i _ _ _ hlt hst' fun v h₁ tk₁ hP hst₁ hk₁ => ?_
    obtain ⟨F₁, N₁⟩ := next h₁ hk₁
    have hm1 := N₁ (c, oc') (.head _)
    refine wpAny_assign_Name (wpAny_storeName_cell hk hx hc ⟨oc', hm1.1, hoc'⟩ fun h₂ hv₂ hs₂ => ?_)
    obtain ⟨oc₂, hg₂, hd₂⟩ := hv₂
    obtain ⟨o, ho⟩ := hStI _ _ hst₁
    have ho₂ : h₂.get? I = some o := (hs₂.2 I fun q => hcI q.symm).trans ho
    have F₂ : Fr b.g b.L h₂ m' := ⟨F₁.ns.sameBut hs₂ hLc, fun b ob e => (hs₂.2 b (fun q => by rw [q, hm1.2.2] at e; cases e)).trans (F₁.keep b ob e), F₁.above⟩
    have N₂ : News b.g b.L h₂ ((I, o) :: (c, oc₂) :: nw) := fun p hp => by
      rcases List.mem_cons.mp hp with rfl | hp
      · exact ⟨ho₂, fun q => hL q.symm, hI0⟩
      · rcases List.mem_cons.mp hp with rfl | hp
        · exact ⟨hg₂, hm1.2⟩
        · have z := N₁ p (.tail _ hp)
          exact ⟨(hs₂.2 p.1 (hne' p hp).2).trans z.1, z.2⟩
    have st₂ : St (i + 1) h₂ := W.frame _ _ _ hst₁ fun b hb o' e => by
      rcases hfp b hb with rfl | ⟨ob, hob⟩
      · rw [ho] at e
        cases e
        exact ho₂
      · exact (hs₂.2 b (hne' _ (hown _ _ _ hJ _ hob)).2).trans e
    have hend : ∀ (fl : Flow) (m' : Str → Option Value) (led' : Led), fl = .next ∨ fl = .cont → TCs c I o (J (i + 1)) m' led' → ∀ (h' : Heap) (tk' : Nat), Fr b.g b.L h' m' → News b.g b.L h' led' → EndC Q (FCs b.g b.L c I s J St n) k fl { s with heap := h', toks := tk' } := fun fl m' led' hfl ht h' tk' F₃ N₃ => by
      obtain ⟨nw₃, oc₃, v₃, hJ₃, hI₃, hc₃, hoc₃, hs₃, hne₃⟩ := ht
      have hst₃ : St (i + 1) h' := W.frame _ _ _ st₂ fun b hb o' e => by
        rcases hfp b hb with rfl | ⟨ob, hob⟩
        · rw [ho₂] at e
          cases e
          exact (N₃ _ hI₃).1
        · have z : h₂.get? b = some ob := (N₂ _ (.tail _ (.tail _ (hown _ _ _ hJ _ hob)))).1
          rw [z] at e
          cases e
          exact (N₃ _ (hs₃ _ (hown _ _ _ hJ₃ _ hob))).1
      have hf : ∃ k', k' < k ∧ FCs b.g b.L c I s J St n k' { s with heap := h', toks := tk' } := ⟨n + 1 - (i + 1), by omega, .mk h' tk' m' nw₃ (i + 1) _ oc₃ v₃ hoc₃ hst₃ F₃ (fun p hp => by
        rcases List.mem_cons.mp hp with rfl | hp
        · exact N₃ _ hc₃
        · exact N₃ p (hs₃ p hp)) hne₃ hJ₃ hlt rfl⟩
      rcases hfl with rfl | rfl
      · exact hf
      · exact hf
    refine wpAny_mono (wpAny_passesOwn hE (turn i v m' nw I o oc₂ hlt hP hJ hne' hcI hd₂ (fun fl m' led' => ∀ (h' : Heap) (tk' : Nat), Fr b.g b.L h' m' → News b.g b.L h' led' → EndC Q (FCs b.g b.L c I s J St n) k fl { s with heap := h', toks := tk' }) hend (fun v m' led' hp h' tk' F' N' => q _ _ _ h' tk' hp F' N') _ (EndC Q (FCs b.g b.L c I s J St n) k) _ F₂ N₂ fun fl m' led' h' tk' hp F' N' => hp h' tk' F' N')) (fun fl s₃ h₃ => ?_) fun _ _ e => e
    cases fl with
    | ret v => exact h₃
    | brk => exact h₃
    | cont => exact h₃
    | next => exact h₃
  · have hin : i = n := by omega
    subst hin
    refine W.done _ _ _ hst' fun h₁ tk₁ hk₁ => wpAny_execs_nil ?_
    obtain ⟨F₁, N₁⟩ := next h₁ hk₁
    exact q _ _ _ h₁ tk₁ (hX m' nw oc' vc' hoc' hJ fun p hp => (hne' p hp).2) F₁ N₁
theorem lx_forUpC {g e : Expr} {cp : Pos} {n : Nat} {oc : Obj} {v : Option Value} (hr : Px w F b (eval g (evx F b)) (fun a => a = .type "range") m ((c, oc) :: led)) (he : Px w F b (eval e (evx F b)) (IsI (n : Int)) m ((c, oc) :: led)) (hn : n ≤ 1000000) (hoc : oc.data = .cell v) (hne : ∀ p ∈ led, @Ne Nat p.1 c) (J : Nat → (Str → Option Value) → Led → Prop) (hj : J 0 m led)
    (turn : TurnC2 w F b c J (fun i v => IsI (i : Int) v) body n φ) (hX : ∀ m' led' oc v, oc.data = .cell v → J n m' led' → (∀ p ∈ led', @Ne Nat p.1 c) → φ .next m' ((c, oc) :: led')) (hk : F.cs.kind = .function) (hx : (evx F b).kindOf x = some .cell) (hcl : b.cl.lookup x = some c)
    (ha : starEach [e] (evx F b) = (false, eval e (evx F b)) :: starEach [] (evx F b))
    (hc : eval (.Call g [e] [] cp) (evx F b) = (do callWith cp (← eval g (evx F b)) [] (backTo cp (starEach [e] (evx F b))) (backToKw cp (keywordEach [] (evx F b)))))
    (hf : ∀ x, foldedSetIterable (.Call g [e] [] cp) (evx F b) x = pure x) : Lx w F b (exec (.For (.Name x px) (.Call g [e] [] cp) body [] pos) (evx F b)) φ m ((c, oc) :: led) := fun s Q E f N q => by
  refine wpAny_mono (E := fun _ _ => False) (wpAny_For (Q := Q) ?_ hf) (fun _ _ x => x) fun _ _ x => x.elim
  have hh : (tpx F b).handled = none := rfl
  refine Call_ (hr s _ _ f N fun a h' tk' pa F' N' => ?_) hc
  subst pa
  refine Pv.callWith_type1 (px_args1 he ha _ _ _ F' N' fun vs h2' tk2' pa2 F2' N2' => ?_) ha rfl
  obtain ⟨_, rfl, t0, rfl⟩ := pa2
  refine range1_rows F2' N2' fun h3' tk3 t₁ u₁ v₁ R F3 N3 _ => ?_
  refine wpAny_pyIter_range R (small_up hn) ?_
  have h3 := N3 (c, oc) (.head _)
  have hcI : @Ne Nat c h3'.objs.size := Nat.ne_of_lt (Heap.lt_size h3.1)
  exact loop_C (own := []) (n := n) (Walks.range (prog := PG) (w := w) hh h3'.objs.size 0 1 n) (fun b hb => .inl (List.mem_singleton.mp hb)) (fun _ _ _ _ p hp => nomatch hp) (fun e => absurd F3.ns.lt (e ▸ Nat.lt_irrefl _)) hcI (fun q => h3.2.1 q.symm) (next_is_new F3) (fun i h hs => ⟨_, hs⟩) hoc (by show IsRangeIter _ _ _ _ _; rw [size_up]; simpa using Heap.get?_push_size _ rfl) (F3.push _) (fun p hp => ⟨Heap.get?_push_of_some _ (N3 p hp).1, (N3 p hp).2⟩) (fun p hp => ⟨fun e => absurd (Heap.lt_size (N3 p (.tail _ hp)).1) (e ▸ Nat.lt_irrefl _), hne p hp⟩) hj (fun i v m₁ nw I o oc hi hP => turn i v m₁ nw I o oc hi (by obtain ⟨t, rfl⟩ := hP; exact ⟨t, congrArg (Value.int · t) (by omega)⟩)) hX q hk hx hcl (by passes_own)
inductive ItU (w : World) (F : FnC) (b : Bx) (c : Addr) (body : List Stmt) (φ : Flow → (Str → Option Value) → Led → Prop) : Value → (Str → Option Value) → Led → Prop
  | mk {m : Str → Option Value} {led' : Led} (led : Led) (l : Addr) (items : Array Value) (n : Nat) (oc : Obj) (v : Option Value) (J : Nat → (Str → Option Value) → Led → Prop) (hs : ∀ p ∈ (c, oc) :: led, p ∈ led') (hl : ∀ i m' nw, J i m' nw → (l, listOf items n) ∈ nw) (hoc : oc.data = .cell v) (hne : ∀ p ∈ led, @Ne Nat p.1 c) (hj : J 0 m led)
    (turn : TurnC2 w F b c J (fun i v => items[i]? = some v) body items.size φ) (hX : ∀ m' led' oc v, oc.data = .cell v → J items.size m' led' → (∀ p ∈ led', @Ne Nat p.1 c) → φ .next m' ((c, oc) :: led')) : ItU w F b c body φ (.ref l) m led'
theorem lx_forLC {it : Expr} (he : Lx w F b (eval it (evx F b)) (ItU w F b c body φ) m led) (hk : F.cs.kind = .function) (hx : (evx F b).kindOf x = some .cell) (hcl : b.cl.lookup x = some c)
    (hf : ∀ x, foldedSetIterable it (evx F b) x = pure x) : Lx w F b (exec (.For (.Name x px) it body [] pos) (evx F b)) φ m led := fun s Q E f N q => by
  refine wpAny_mono (E := fun _ _ => False) (wpAny_For (Q := Q) ?_ hf) (fun _ _ x => x) fun _ _ x => x.elim
  have hh : (tpx F b).handled = none := rfl
  refine he s _ _ f N fun a m3 led3 h3' tk' pa F3 N3' => ?_
  obtain ⟨led, l, items, n, oc, v, J, hs, hl, hoc, hne, hj, turn, hX⟩ := pa
  have N3 := news_of N3' hs
  have hm := N3 _ (.tail _ (hl _ _ _ hj))
  have hlist := News.isList N3 (.tail _ (hl _ _ _ hj))
  have hlt : l < h3'.objs.size := Heap.lt_size hm.1
  refine wpAny_pyIter_list hlist ?_
  have h3 := N3 (c, oc) (.head _)
  have hcI : @Ne Nat c h3'.objs.size := Nat.ne_of_lt (Heap.lt_size h3.1)
  exact loop_C (own := [(l, listOf items n)]) (n := items.size) (Walks.list (prog := PG) (w := w) hh h3'.objs.size l (Nat.ne_of_lt hlt) items) (fun b hb => (List.mem_cons.mp hb).elim .inl fun hb => .inr ⟨listOf items n, List.mem_singleton.mpr (congrArg (·, listOf items n) (List.mem_singleton.mp hb))⟩) (fun i m' nw h p hp => by rw [List.mem_singleton.mp hp]; exact hl i m' nw h) (fun e => absurd F3.ns.lt (e ▸ Nat.lt_irrefl _)) hcI (fun q => h3.2.1 q.symm) (next_is_new F3) (fun i h hs => ⟨_, hs.1.choose_spec.1⟩) hoc ⟨⟨_, Heap.get?_push_size _ rfl, rfl, rfl⟩, hlist.push _⟩ (F3.push _) (fun p hp => ⟨Heap.get?_push_of_some _ (N3 p hp).1, (N3 p hp).2⟩) (fun p hp => ⟨fun e => absurd (Heap.lt_size (N3 p (.tail _ hp)).1) (e ▸ Nat.lt_irrefl _), hne p hp⟩) hj turn hX q hk hx hcl (by passes_own)
end
open PySem PySem.W PyProof.Rows PySem.Spec PyProof.Rows.LCg
set_option linter.unusedVariables false
set_option maxRecDepth 100000
set_option maxHeartbeats 8000000
theorem seq_lt {q : Nat} (h : seqOk q) : q < 72057594037927936 := by
  rcases h with rfl | rfl | rfl | rfl | rfl <;> decide
theorem ent_ok {e : Ent} {n : Nat} (h : e.Ok n) : e.row.1.Ok := ⟨seq_lt h.q, by show e.k < 256; have := h.k; omega, by show e.u.size ≤ 1000; have := users_size h.u; omega⟩
theorem rowsOf_ok {ents : List Ent} {n j : Nat} (h : ∀ e ∈ ents, e.Ok n) : ∀ x ∈ rowsOf (ents.map Ent.z) j, x.1.Ok := fun x hx => by
  obtain ⟨e, he, hz⟩ := List.mem_map.mp (mem_rowsOf.mp hx)
  have : e.row = x := congrArg Prod.fst hz
  rw [← this]
  exact ent_ok (h e he)
theorem rowsOf_sorted {Z : MZ} (h : Z.Pairwise Zord) (j : Nat) : (rowsOf Z j).Pairwise fun a b => cmpI a.1 b.1 ≤ 0 := by
  unfold rowsOf
  rw [List.pairwise_map]
  exact (h.sublist List.filter_sublist).imp fun {a b} g => g.le
theorem rowsOf_len (Z : MZ) (j : Nat) : (rowsOf Z j).length ≤ Z.length := by
  unfold rowsOf
  rw [List.length_map]
  exact List.length_filter_le _ _
theorem kfps_snoc (ks : List KS) (k : KS) : kfps (ks ++ [k]) = kfps ks ++ k.fp := by simp [kfps]
theorem RowsL.mono {rest rest' : Led} {rl : Addr} {rows : List RowB} {vs : Array Value} {n : Nat} (h : RowsL rest rl rows vs n) (hs : ∀ p ∈ rest, p ∈ rest') : RowsL rest' rl rows vs n :=
  ⟨hs _ h.lst, h.size, h.small, fun i k v hi => by obtain ⟨a, t1, t2, n', h1, h2⟩ := h.row i k v hi; exact ⟨a, t1, t2, n', h1, hs _ h2⟩⟩
structure P14 (rest : Led) (pl cC : Addr) (Z : MZ) (j : Nat) (pvs : Array Value) (tl : Led) (ks : List KS) : Prop where
  grow : Grow rest tl
  gk : ∀ p ∈ kfps ks, ∀ q ∈ rest, q.1 ≠ p.1
  off : ∀ p ∈ kfps ks ++ tl, p.1 ≠ pl ∧ p.1 ≠ cC
  len : ks.length = j
  size : pvs.size = j
  kid : ∀ (i : Nat) k, ks[i]? = some k → pvs[i]? = some (.ref k.c) ∧ k.kd = false ∧ k.R = rowsOf Z i ∧ k.st = none
  cur : ∀ k ∈ ks, LeafC k.fp tl k.c k.kd k.R k.st
  apart : ks.Pairwise fun a b => Off a.fp b.fp
  offk : Off (kfps ks) tl
theorem P14.start {rest : Led} {pl cC : Addr} {Z : MZ} (h : ∀ p ∈ rest, p.1 ≠ pl ∧ p.1 ≠ cC) : P14 rest pl cC Z 0 #[] rest [] :=
  ⟨Grow.refl _, fun p hp => (nomatch hp), fun p hp => h p hp, rfl, rfl, fun i k hk => by simp at hk, fun k hk => (nomatch hk), .nil, fun p hp => (nomatch hp)⟩
theorem P14.more {w : World} {rest tl : Led} {pl cC : Addr} {Z : MZ} {j : Nat} {pvs : Array Value} {ks : List KS} (h : P14 rest pl cC Z j pvs tl ks) {x dx rl od : Addr} {q : LP} {t : Tok} {mvs : Array Value} {n : Nat}
    (hl : LeafIn ((x, instObj 380 dx) :: (rl, listOf mvs n) :: tl) x dx od rl mvs n (rowsOf Z j)) (hs : (rowsOf Z j).Pairwise fun a b => cmpI a.1 b.1 ≤ 0)
    (h1 : @Ne Nat x dx) (h2 : @Ne Nat rl x) (h3 : @Ne Nat rl dx) (hx : x ≠ pl ∧ x ≠ cC) (hd : dx ≠ pl ∧ dx ≠ cC) (hr : rl ≠ pl ∧ rl ≠ cC)
    (gx : ∀ p ∈ kfps ks ++ tl, p.1 ≠ x ∧ p.1 ≠ dx) (gr : ∀ p ∈ kfps ks ++ tl, p.1 ≠ rl) :
    P14 rest pl cC Z (j + 1) (pvs.push (.ref x)) ((x, instObj 380 dx) :: (rl, listOf mvs n) :: tl) (ks ++ [⟨x, false, rowsOf Z j, [(dx, LD q rl od (-1) t)], none⟩]) := by
  have hrest : ∀ p ∈ rest, p ∈ kfps ks ++ tl := fun p hp => List.mem_append_right _ (h.grow.sub p hp)
  refine ⟨(h.grow.cons (p := (rl, listOf mvs n)) fun p hp => gr p (hrest p hp)).cons (p := (x, instObj 380 dx)) fun p hp => (gx p (hrest p hp)).1, fun p hp => ?_, fun p hp => ?_, by simp [h.len], by simp [h.size], fun i k hk => ?_, fun k hk => ?_, ?_, fun p hp p' hp' => ?_⟩
  · rw [kfps_snoc] at hp
    rcases List.mem_append.mp hp with hp | hp
    · exact h.gk p hp
    · rw [List.mem_singleton.mp hp]
      exact fun p hp => (gx p (hrest p hp)).2
  · rw [kfps_snoc] at hp
    rcases List.mem_append.mp hp with hp | hp
    · rcases List.mem_append.mp hp with hp | hp
      · exact h.off p (List.mem_append_left _ hp)
      · rw [List.mem_singleton.mp hp]
        exact hd
    · rcases List.mem_cons.mp hp with rfl | hp
      · exact hx
      · rcases List.mem_cons.mp hp with rfl | hp
        · exact hr
        · exact h.off p (List.mem_append_right _ hp)
  · by_cases hi : i < ks.length
    · rw [List.getElem?_append_left hi] at hk
      obtain ⟨g1, g2⟩ := h.kid i k hk
      refine ⟨?_, g2⟩
      have hlt : i < pvs.size := by rw [h.size, ← h.len]; exact hi
      rw [Array.getElem?_push_lt hlt, ← g1, Array.getElem?_eq_getElem hlt]
    · rw [List.getElem?_append_right (by omega)] at hk
      have h0 : i - ks.length = 0 := by
        by_cases h0 : i - ks.length = 0
        · exact h0
        · rw [List.getElem?_eq_none (by simp; omega)] at hk; cases hk
      rw [h0] at hk
      cases hk
      have : i = j := by have := h.len; omega
      subst this
      exact ⟨by rw [← h.size]; simp, rfl, rfl, rfl⟩
  · rcases List.mem_append.mp hk with hk | hk
    · exact (leaf_spec w).mono (h.cur k hk) fun p hp => .tail _ (.tail _ hp)
    · rw [List.mem_singleton.mp hk]
      refine .mk dx od rl mvs n q (-1) t hl hs ?_
      unfold placeI
      rw [if_neg (by omega)]
  · rw [List.pairwise_append]
    refine ⟨h.apart, List.pairwise_singleton _ _, fun a ha b hb => ?_⟩
    rw [List.mem_singleton.mp hb]
    intro p hp p' hp'
    rw [List.mem_singleton.mp hp']
    exact fun e => (gx p (List.mem_append_left _ (mem_kfps ha p hp))).2 e.symm
  · rw [kfps_snoc] at hp
    rcases List.mem_append.mp hp with hp | hp
    · rcases List.mem_cons.mp hp' with rfl | hp'
      · exact fun e => (gx p (List.mem_append_left _ hp)).1 e.symm
      · rcases List.mem_cons.mp hp' with rfl | hp'
        · exact fun e => gr p (List.mem_append_left _ hp) e.symm
        · exact h.offk p hp p' hp'
    · rw [List.mem_singleton.mp hp]
      rcases List.mem_cons.mp hp' with rfl | hp'
      · exact h1
      · rcases List.mem_cons.mp hp' with rfl | hp'
        · exact h3
        · exact (gx p' (List.mem_append_right _ hp')).2
inductive JP14 (rest : Led) (pl cC : Addr) (Z : MZ) (m : Str → Option Value) : Nat → (Str → Option Value) → Led → Prop
  | mk {j : Nat} (m₁ : Str → Option Value) (pvs : Array Value) (np : Nat) (tl : Led) (ks : List KS) (hm : ∀ y : Str, y ≠ "mine" → m₁ y = m y) (h : P14 rest pl cC Z j pvs tl ks) : JP14 rest pl cC Z m j m₁ ((pl, listOf pvs np) :: (kfps ks ++ tl))
section
variable {w : World} {A₀ : Around} {base h₀ : Heap} {L a : Addr} {ccd : Value} {m mg mb : Str → Option Value} {mean : ExcName → Option Value} {s : Shared} {rest led : Led} {Q : Flow → Shared → Prop} {E : Value → Shared → Prop} {R : List Stmt}
theorem st14 {el fl pl od : Addr} {vs fvs : Array Value} {n n' n0 cnt : Nat} {tc : Tok} {ents : List Ent} {oE oF oC : Obj} {vC : Option Value} (B : Below A₀ base [] h₀) (F : Fr h₀ L s.heap m) (X : (Mine.hd.heap_39 w.params).In h₀) (N : News h₀ L s.heap ((L + 1 + 1 + 1, oC) :: (pl, listOf #[] n0) :: rest)) (T : Top VW (looseW VW []) mean mg mb h₀)
    (hPE : PassesOwn (model Challenge.rw_no0415_01.row.prog w) (callerA.deeper (envOfC (Str.ofString "law") lawSc L a ccd)) (envOfC (Str.ofString "law") lawSc L a ccd) E) (e1 : m "parts" = some (.ref pl)) (e2 : m "count" = some (.int (cnt : Int) tc)) (e3 : m "order" = some (.ref od)) (hc2 : cnt ≤ 3) (hE : oE.data = .cell (some (.ref el))) (hcE : (L + 1, oE) ∈ rest) (hF : oF.data = .cell (some (.ref fl))) (hcF : (L + 1 + 1, oF) ∈ rest) (hC : oC.data = .cell vC) (hr : ∀ p ∈ rest, p.1 ≠ pl ∧ p.1 ≠ L + 1 + 1 + 1) (hpc : @Ne Nat pl (L + 1 + 1 + 1)) (hl : (el, listOf vs n) ∈ rest) (he : EntsIn rest vs ents) (hf : RowsL rest fl (ents.map Ent.rb) fvs n') (hO : OrdIn rest od) (hok : ∀ e ∈ ents, e.Ok cnt) (hsz : ents.length ≤ 5) (hpw : (ents.map Ent.z).Pairwise Zord)
    (k : ∀ pvs np oC' vC' tl ks m' h' tk', P14 rest pl (L + 1 + 1 + 1) (ents.map Ent.z) cnt pvs tl ks → (∀ y : Str, y ≠ "mine" → m' y = m y) → oC'.data = .cell vC' → Fr h₀ L h' m' → News h₀ L h' ((L + 1 + 1 + 1, oC') :: (pl, listOf pvs np) :: (kfps ks ++ tl)) → wpAny (model Challenge.rw_no0415_01.row.prog w) (callerA.deeper (envOfC (Str.ofString "law") lawSc L a ccd)) (execs (R) (envOfC (Str.ofString "law") lawSc L a ccd)) Q E { s with heap := h', toks := tk' }) :
    wpAny (model Challenge.rw_no0415_01.row.prog w) (callerA.deeper (envOfC (Str.ofString "law") lawSc L a ccd)) (execs (lawAt 14 :: R) (envOfC (Str.ofString "law") lawSc L a ccd)) Q E s := by
  have ok := okL (L := L) (mean := mean) (mg := mg) (mb := mb) B X T
  refine (?_ : Ly w (FL a ccd) (bL A₀ base h₀ L mg mb mean) (execs (lawAt 14 :: R) (evx (FL a ccd) (bL A₀ base h₀ L mg mb mean))) s Q E m _) s.heap s.toks F N
  conv in (lawAt _) => whnf
  refine ly_seq (lx_forUpC (px_builtin ok (by fail "r") (by fail "r") (by decide) rfl rfl rfl) (px_nameP ⟨_, e2, _, rfl⟩ rfl rfl rfl) (by omega) hC (fun p hp => ?_) (JP14 rest pl (L + 1 + 1 + 1) (ents.map Ent.z) m) (.mk m #[] n0 rest [] (fun _ _ => rfl) (P14.start hr)) (fun j v m₁ nw I o oC' hj hP hJ hne hcI hoC Φ hΦ hR s Q E F₁ N₁ kont => ?_) (fun m' led' oC' v hoC hJ hne => ?_) rfl rfl rfl rfl rfl (fun _ => rfl))
  · rcases List.mem_cons.mp hp with rfl | hp
    · exact hpc
    · exact (hr p hp).2
  · obtain ⟨pvs, np, tl, ks, hm, P⟩ := hJ
    obtain ⟨t, rfl⟩ := hP
    have hI1 : @Ne Nat pl I := (hne _ (.head _)).1
    have gs := P.grow.sub
    refine st14a (led := (I, o) :: (L + 1 + 1 + 1, oC') :: (pl, listOf pvs np) :: (kfps ks ++ tl)) (led0 := tl) B F₁ X N₁ T hE (.tail _ (.tail _ (.tail _ (List.mem_append_right _ (gs _ hcE))))) hF (.tail _ (.tail _ (.tail _ (List.mem_append_right _ (gs _ hcF))))) (j := j) (tj := t) hoC (.tail _ (.head _)) (.tail _ (.tail _ (.tail _ (List.mem_append_right _ (gs _ hl))))) (he.mono fun p hp => .tail _ (.tail _ (.tail _ (List.mem_append_right _ (gs p hp))))) (fun p hp => .tail _ (.tail _ (.tail _ (List.mem_append_right _ hp)))) (hf.mono gs) ?_
    intro rl mvs n'' h' tk' g1 g2 g3 F₂ N₂
    have q1 : @Ne Nat I rl := g1 _ (.head _)
    have q2 : @Ne Nat (L + 1 + 1 + 1) rl := g1 _ (.tail _ (.head _))
    have q3 : @Ne Nat pl rl := g1 _ (.tail _ (.tail _ (.head _)))
    have q4 : ∀ p ∈ kfps ks ++ tl, @Ne Nat p.1 rl := fun p hp => g1 _ (.tail _ (.tail _ (.tail _ hp)))
    refine st14b (pl := pl) (rl := rl) (od := od) (pvs := pvs) (np := np) (led := (rl, listOf mvs n'') :: (I, o) :: (L + 1 + 1 + 1, oC') :: (kfps ks ++ tl)) B F₂ X (news_of N₂ fun p hp => ?_) T ((hm "parts" (by decide)).trans e1) rfl ((hm "order" (by decide)).trans e3) (fun p hp => ?_) (by rw [P.size]; omega) ?_
    · rcases List.mem_cons.mp hp with rfl | hp
      · exact .tail _ (.tail _ (.tail _ (.head _)))
      · rcases List.mem_cons.mp hp with rfl | hp
        · exact .head _
        · rcases List.mem_cons.mp hp with rfl | hp
          · exact .tail _ (.head _)
          · rcases List.mem_cons.mp hp with rfl | hp
            · exact .tail _ (.tail _ (.head _))
            · exact .tail _ (.tail _ (.tail _ (.tail _ hp)))
    · rcases List.mem_cons.mp hp with rfl | hp
      · exact fun e => q3 e.symm
      · rcases List.mem_cons.mp hp with rfl | hp
        · exact fun e => hI1 e.symm
        · rcases List.mem_cons.mp hp with rfl | hp
          · exact fun e => hpc e.symm
          · exact (P.off p hp).1
    · intro x dx q t9 np' h₃ tk₃ x1 x2 x3 x4 F₃ N₃
      refine wpAny_execs_nil ?_
      have y1 := x2 _ (.head _)
      have y2 := x2 _ (.tail _ (.head _))
      have y3 := x2 _ (.tail _ (.tail _ (.head _)))
      have y4 : ∀ p ∈ kfps ks ++ tl, p.1 ≠ x ∧ p.1 ≠ dx := fun p hp => x2 p (.tail _ (.tail _ (.tail _ hp)))
      have P2 := P.more (w := w) (x := x) (dx := dx) (rl := rl) (od := od) (q := q) (t := t9) (mvs := mvs) (n := n'') ⟨.head _, .tail _ (.head _), g2, fun i k v hi => by
        obtain ⟨a', s1, s2, n9, h1, h2⟩ := g3 i k v hi
        exact ⟨a', s1, s2, n9, h1, .tail _ (.tail _ h2)⟩, rowsOf_ok hok, by have := rowsOf_len (ents.map Ent.z) j; rw [List.length_map] at this; omega, hO.mono fun p hp => .tail _ (.tail _ (gs p hp))⟩ (rowsOf_sorted hpw j) x1 y1.1 y1.2 ⟨x3, fun e => y3.1 e.symm⟩ ⟨x4, fun e => y3.2 e.symm⟩ ⟨fun e => q3 e.symm, fun e => q2 e.symm⟩ y4 q4
      refine kont .next _ _ h₃ tk₃ (hΦ .next _ _ (.inl rfl) (.mk ((pl, listOf (pvs.push (.ref x)) np') :: (kfps (ks ++ [⟨x, false, rowsOf (ents.map Ent.z) j, [(dx, LD q rl od (-1) t9)], none⟩]) ++ ((x, instObj 380 dx) :: (rl, listOf mvs n'') :: tl))) oC' _ (.mk _ _ np' _ _ (fun y hy => ?_) P2) (.tail _ (.tail _ (.tail _ (.tail _ (.head _))))) (.tail _ (.tail _ (.tail _ (.tail _ (.tail _ (.head _)))))) hoC (fun p hp => ?_) fun p hp => ?_)) F₃ N₃
      · exact (if_neg hy).trans (hm y hy)
      · rcases List.mem_cons.mp hp with rfl | hp
        · exact .head _
        · rw [kfps_snoc] at hp
          rcases List.mem_append.mp hp with hp | hp
          · rcases List.mem_append.mp hp with hp | hp
            · exact .tail _ (.tail _ (.tail _ (.tail _ (.tail _ (.tail _ (List.mem_append_left _ hp))))))
            · rw [List.mem_singleton.mp hp]
              exact .tail _ (.tail _ (.head _))
          · rcases List.mem_cons.mp hp with rfl | hp
            · exact .tail _ (.head _)
            · rcases List.mem_cons.mp hp with rfl | hp
              · exact .tail _ (.tail _ (.tail _ (.head _)))
              · exact .tail _ (.tail _ (.tail _ (.tail _ (.tail _ (.tail _ (List.mem_append_right _ hp))))))
      · rcases List.mem_cons.mp hp with rfl | hp
        · exact ⟨hI1, hpc⟩
        · refine ⟨?_, (P2.off p hp).2⟩
          rw [kfps_snoc] at hp
          rcases List.mem_append.mp hp with hp | hp
          · rcases List.mem_append.mp hp with hp | hp
            · exact (hne p (.tail _ (List.mem_append_left _ hp))).1
            · rw [List.mem_singleton.mp hp]
              exact fun e => y2.2 e.symm
          · rcases List.mem_cons.mp hp with rfl | hp
            · exact fun e => y2.1 e.symm
            · rcases List.mem_cons.mp hp with rfl | hp
              · exact fun e => q1 e.symm
              · exact (hne p (.tail _ (List.mem_append_right _ hp))).1
  · obtain ⟨pvs, np, tl, ks, hm, P⟩ := hJ
    exact fun h' tk' F' N' => k pvs np oC' v tl ks m' h' tk' P hm hoC F' N'
end
open PySem PySem.W PyProof.Rows
set_option linter.unusedVariables false
set_option maxRecDepth 100000
set_option maxHeartbeats 8000000
abbrev cb (sc : Scope) (b : Bx) : Bx := { b with cl := cellsFrom (b.L + 1) sc.names [] }
section
variable {w : World} {D : Nat} {f : Addr} {args : List Value} {fp rest : Led} {post : Value → Led → Prop} {name qual : Str} {params : Arguments} {body : List Stmt} {scope : Scope} {dV kV doc pm cdv ct oc : Value} {an od : Option Addr} {osl : Array (Option Value)} {binds : List (Str × Value)}
theorem calls_ofC (ho : (Mine.hd.heap_39 w.params).lookup f = some ⟨oc, od, .func (fnOf name qual params body scope dV kV doc pm an cdv ct), osl⟩) (hcd : codeIn (Mine.hd.heap_39 w.params) cdv qual = true)
    (hbind : ∀ s, BindsTo s (fnOf name qual params body scope dV kV doc pm an cdv ct) ⟨args, []⟩ binds) (hkind : (binds.all fun y => scope.names.lookup y.1 == some .local || scope.names.lookup y.1 == some .cell) = true) (hnd : ((cellsFrom 0 scope.names []).map (·.1)).Nodup)
    (hco : scope.isCoroutine = false) (hgen : scope.isGenerator = false) (hk : scope.kind = .function)
    (h : ∀ (b : Bx) (cells : Led), Okx w D (cb scope b) → CellsAre (bindC (evx ⟨qual, scope, f, cdv⟩ (cb scope b)).kindOf binds fun _ => none) (cellsFrom (b.L + 1) scope.names []) cells → (∀ p ∈ fp ++ rest, @LT.lt Nat _ p.1 b.L) → ∀ φ : Flow → (Str → Option Value) → Led → Prop, (∀ fl m' fp', post (retv fl) fp' → φ fl m' (fp' ++ rest)) →
      Lx w ⟨qual, scope, f, cdv⟩ (cb scope b) (execs body (evx ⟨qual, scope, f, cdv⟩ (cb scope b))) φ (bindL (evx ⟨qual, scope, f, cdv⟩ (cb scope b)).kindOf binds fun _ => none) (cells ++ (fp ++ rest))) :
    Calls w (D + 1) f args fp rest post := by
  intro dp un gd cn cs a ccd cl outer A₀ base h₀ L m mg mb mean s Q E B F X N T hkk hd hu k
  refine wpAny_call ?_
  refine code_defC (env := envX cn cs L a ccd cl) (outer := outer) B F X N T rfl rfl hkk ho hcd ?_ (hbind s) hkind hnd (fun g L' h' tk cells FG F' N' Y B' X' T' l1 => ?_) hco hgen hk
  · show dp < recursionLimit; omega
  · refine h ⟨dp + 1, un + 3, gd, [], envX cn cs L a ccd cl :: outer, _, base, g, L', mg, mb, mean⟩ cells ⟨B', X', T', by show dp + 1 + D < _; omega, by show un + 3 + 8 * D < _; omega⟩ Y l1 (fun fl _ led' => ∃ fp', led' = fp' ++ rest ∧ post (retv fl) fp') (fun fl m' fp' hp => ⟨fp', rfl, hp⟩) _ _ _ F' N' ?_
    intro fl m' led' h'' tk' hp F'' N''
    obtain ⟨fp', rfl, hp⟩ := hp
    refine leaveK_ F'' N'' fun F3 N3 => ?_
    exact k _ _ _ _ F3 N3 hp
end
open PySem PySem.W PyProof.Rows PySem.Spec PyProof.Rows.LCg
set_option linter.unusedVariables false
set_option maxRecDepth 100000
set_option maxHeartbeats 8000000
def seenCore (ents : List Ent) (upto : Int) (u : Array UInt8) : List RowB :=
  match (ents.filter fun e => e.u == u && decide ((e.q : Int) ≤ upto)).head? with
  | some e => if e.k = 1 then [(u, e.v)] else []
  | none => []
theorem seenOne_eq {ents : List Ent} {upto : Int} {lo hi : Option (Array UInt8)} {u : Array UInt8} (h1 : underLo lo u = false) (h2 : pastHi hi u = false) : seenOne ents upto lo hi u = seenCore ents upto u := by
  unfold seenOne seenCore
  rw [h1, h2]
  simp only [Bool.false_eq_true, if_false]
  all_goals (generalize (List.filter (fun e => e.u == u && decide ((e.q : Int) ≤ upto)) ents).head? = x; cases x <;> rfl)
theorem seenOne_lo {ents : List Ent} {upto : Int} {lo hi : Option (Array UInt8)} {u : Array UInt8} (h1 : underLo lo u = true) : seenOne ents upto lo hi u = [] := by
  unfold seenOne
  rw [if_pos h1]
theorem seenOne_hi {ents : List Ent} {upto : Int} {lo hi : Option (Array UInt8)} {u : Array UInt8} (h1 : underLo lo u = false) (h2 : pastHi hi u = true) : seenOne ents upto lo hi u = [] := by
  unfold seenOne
  rw [h1, h2]
  rfl
structure SeenIn (rest : Led) (rl cU cB : Addr) (rows : List RowB) (rvs : Array Value) (nw : Led) : Prop where
  new : ∀ p ∈ nw, ∀ q ∈ rest, q.1 ≠ p.1
  off : ∀ p ∈ nw ++ rest, p.1 ≠ rl ∧ p.1 ≠ cU ∧ p.1 ≠ cB
  size : rvs.size = rows.length
  row : ∀ (i : Nat) (k v : Array UInt8), rows[i]? = some (k, v) → ∃ a t1 t2 n', rvs[i]? = some (.ref a) ∧ (a, tupObj [.bytes k t1, .bytes v t2] n') ∈ nw
theorem SeenIn.more {rest nw : Led} {rl cU cB : Addr} {rows : List RowB} {rvs : Array Value} {k v : Array UInt8} {a : Addr} {t1 t2 : Tok} {n : Nat} (h : SeenIn rest rl cU cB rows rvs nw) (hn : ∀ q ∈ rest, q.1 ≠ a) (ho : a ≠ rl ∧ a ≠ cU ∧ a ≠ cB) :
    SeenIn rest rl cU cB (rows ++ [(k, v)]) (rvs.push (.ref a)) ((a, tupObj [.bytes k t1, .bytes v t2] n) :: nw) := by
  have hz := h.size
  refine ⟨fun p hp => ?_, fun p hp => ?_, by simp [hz], fun i k' v' hi => ?_⟩
  · rcases List.mem_cons.mp hp with rfl | hp
    · exact hn
    · exact h.new p hp
  · rcases List.mem_cons.mp hp with rfl | hp
    · exact ho
    · exact h.off p hp
  by_cases hlt : i < rows.length
  · rw [List.getElem?_append_left hlt] at hi
    obtain ⟨a', s1, s2, n', g1, g2⟩ := h.row i k' v' hi
    exact ⟨a', s1, s2, n', by rw [Array.getElem?_push_lt (by omega), ← g1, Array.getElem?_eq_getElem (by omega)], .tail _ g2⟩
  · rw [List.getElem?_append_right (by omega)] at hi
    have h0 : i - rows.length = 0 := by
      by_cases h0 : i - rows.length = 0
      · exact h0
      · rw [List.getElem?_eq_none (by simp; omega)] at hi; cases hi
    rw [h0] at hi
    cases hi
    have : i = rvs.size := by omega
    subst this
    exact ⟨a, t1, t2, n, by simp, .head _⟩
theorem users_at {t1 t2 t3 t4 : Tok} {i : Nat} {v : Value} (h : (#[Value.bytes #[] t1, Value.bytes #[97] t2, Value.bytes #[97, 0] t3, Value.bytes #[98] t4] : Array Value)[i]? = some v) : ∃ u t, v = .bytes u t ∧ usersL[i]? = some u := by
  match i, h with
  | 0, h => cases h; exact ⟨_, _, rfl, rfl⟩
  | 1, h => cases h; exact ⟨_, _, rfl, rfl⟩
  | 2, h => cases h; exact ⟨_, _, rfl, rfl⟩
  | 3, h => cases h; exact ⟨_, _, rfl, rfl⟩
  | n + 4, h => simp at h
theorem flat_next {f : Array UInt8 → List RowB} {i : Nat} {u : Array UInt8} (h : usersL[i]? = some u) : (usersL.take (i + 1)).flatMap f = (usersL.take i).flatMap f ++ f u := by
  rw [List.take_add_one, h, List.flatMap_append]
  simp
theorem flat_size {ents : List Ent} {upto : Int} {lo hi : Option (Array UInt8)} : ∀ (us : List (Array UInt8)), (us.flatMap (seenOne ents upto lo hi)).length ≤ us.length
  | [] => Nat.le_refl _
  | u :: us => by
    rw [List.flatMap_cons, List.length_append, List.length_cons]
    have := flat_size (ents := ents) (upto := upto) (lo := lo) (hi := hi) us
    have h1 : (seenOne ents upto lo hi u).length ≤ 1 := by
      unfold seenOne
      split
      · exact Nat.zero_le _
      · split
        · exact Nat.zero_le _
        · split
          · split
            · exact Nat.le_refl _
            · exact Nat.zero_le _
          · exact Nat.zero_le _
    omega
abbrev usersA (t1 t2 t3 t4 : Tok) : Array Value := #[.bytes #[] t1, .bytes #[97] t2, .bytes #[97, 0] t3, .bytes #[98] t4]
inductive UsrT (rest : Led) : Value → Led → Prop
  | mk (l : Addr) (t1 t2 t3 t4 : Tok) (k : Nat) (hlt : ∀ q ∈ rest, @LT.lt Nat _ q.1 l) : UsrT rest (.ref l) [(l, listOf (usersA t1 t2 t3 t4) k)]
section
variable {w : World} {D : Nat} {rest : Led} {el : Addr} {vs : Array Value} {n : Nat} {ents : List Ent} {upto : Int} {tu tl9 th9 : Tok} {lo hi : Option (Array UInt8)}
theorem users_l : Calls w (D + 1) 622 [] [] rest (UsrT rest) := by
  refine' calls_ofG (binds := []) ?ho ?hcd ?hb ?hl ?c1 ?c2 ?c3 ?c4 ?_
  fail "e"
  intro bb ok φ kφ
  refine lx_seq (lx_retC fun s Q E f N q => List_ (px_cn (P := IsB #[]) px_bytes (px_cn (P := IsB #[97]) px_bytes (px_cn (P := IsB #[97, 0]) px_bytes (px_cn (P := IsB #[98]) px_bytes px_cn0 rfl) rfl) rfl) rfl s _ E f N fun vs h' tk' p F' N' => ?_))
  obtain ⟨_, _, ⟨t1, rfl⟩, _, _, ⟨t2, rfl⟩, _, _, ⟨t3, rfl⟩, _, _, ⟨t4, rfl⟩, rfl⟩ := p
  exact newList_K F' N' (fun l h2' F2' N2' hlt => q _ _ _ h2' _ (kφ (.ret (.ref l)) _ [_] (.mk l t1 t2 t3 t4 0 hlt)) F2' N2') (by show 4 ≤ sizeLine; decide)
theorem filter_take {α : Type} {l : List α} {p : α → Bool} {i : Nat} {e : α} (h : l[i]? = some e) : (l.take (i + 1)).filter p = (l.take i).filter p ++ if p e = true then [e] else [] := by
  rw [List.take_add_one, h, List.filter_append]
  congr 1
  show List.filter p [e] = _
  rw [List.filter_cons, List.filter_nil]
inductive SeenP (rest : Led) (ents : List Ent) (upto : Int) (lo hi : Option (Array UInt8)) : Value → Led → Prop
  | mk (rl : Addr) (rvs : Array Value) (rn : Nat) (nw : Led) (h1 : ∀ q ∈ rest, q.1 ≠ rl) (h2 : ∀ p ∈ nw, ∀ q ∈ rest, q.1 ≠ p.1) (h3 : RowsL ((rl, listOf rvs rn) :: nw) rl (usersL.flatMap (seenOne ents upto lo hi)) rvs rn) : SeenP rest ents upto lo hi (.ref rl) ((rl, listOf rvs rn) :: nw)
structure SM (m : Str → Option Value) (rl el : Addr) (lo hi : Option (Array UInt8)) (tl9 th9 : Tok) : Prop where
  e1 : m "rows" = some (.ref rl)
  e2 : m "low" = some (bndV lo tl9)
  e3 : m "high" = some (bndV hi th9)
  e4 : m "entries" = some (.ref el)
inductive SJ (rest : Led) (rl ul cU cB el : Addr) (oB : Obj) (t1 t2 t3 t4 : Tok) (uk : Nat) (ents : List Ent) (upto : Int) (lo hi : Option (Array UInt8)) (tl9 th9 : Tok) : Nat → (Str → Option Value) → Led → Prop
  | mk {i : Nat} {m : Str → Option Value} (hm : SM m rl el lo hi tl9 th9) (rvs : Array Value) (rn : Nat) (tl : Led) (h : SeenIn rest rl cU cB ((usersL.take i).flatMap (seenOne ents upto lo hi)) rvs tl) : SJ rest rl ul cU cB el oB t1 t2 t3 t4 uk ents upto lo hi tl9 th9 i m ((rl, listOf rvs rn) :: (ul, listOf (usersA t1 t2 t3 t4) uk) :: (cB, oB) :: (tl ++ rest))
theorem beqA (x y : Array UInt8) : (x.toList == y.toList) = (x == y) := by rw [Bool.eq_iff_iff]; simp [Array.toList_inj]
theorem pc_eqB {F : FnC} {b : Bx} {m : Str → Option Value} {led : Led} {env : Env} {pos : Pos} {l r : Expr} {x y : Array UInt8} {whole : Sem Value} (h1 : Px w F b (eval l env) (IsB x) m led) (h2 : Px w F b (eval r env) (IsB y) m led) (hm : behindInMarks .Eq r = false) : Px w F b (isTrue (.Compare l [.Eq] [r] pos) env whole) (fun a => a = (x == y)) m led :=
  pc_cmp h1 h2 (fun u v hu hv s Q E f N q => by obtain ⟨t, rfl⟩ := hu; obtain ⟨t', rfl⟩ := hv; exact eq_bytes (q _ s.heap _ (congrArg Value.bool (beqA x y)) f N)) hm
theorem seen_c (hl : (el, listOf vs n) ∈ rest) (he : EntsIn rest vs ents) (hsz : ents.length ≤ 5) : Calls w (D + 4 + 1) 669 [.ref el, .int upto tu, bndV lo tl9, bndV hi th9] [] rest (SeenP rest ents upto lo hi) := by
  have hez := he.size
  refine' calls_ofC (binds := [("entries", .ref el), ("upto", .int upto tu), ("low", bndV lo tl9), ("high", bndV hi th9)]) ?ho ?hcd ?hb ?hkd ?hnd ?c1 ?c2 ?c3 ?_
  (case ho => with_unfolding_all rfl)
  (case hcd => with_unfolding_all rfl)
  (case hb => exact fun s => BindsTo.of_eq rfl)
  (case hkd => rfl)
  (case hnd => decide +kernel)
  (case c1 => rfl)
  (case c2 => rfl)
  (case c3 => rfl)
  intro bb cells ok Y l1 φ kφ
  obtain ⟨oA, oB, rfl, dA, dB⟩ := CellsAre.two Y
  have dB : oB.data = .cell (some (.int upto tu)) := dB
  have dA : oA.data = .cell none := dA
  refine lx_seq (lx_nameC (lx_list0 fun rl g1 => ?_) rfl rfl rfl)
  have r1 : ∀ p ∈ rest, @LT.lt Nat _ p.1 rl := fun p hp => g1 p (.tail _ (.tail _ hp))
  have r2 := g1 _ (.head _)
  have r3 := g1 _ (.tail _ (.head _))
  refine lx_seq (lx_forLC (c := bb.L + 1 + 1) (lf0 (fv := .ref 622) ok (px_glob ok (by fail "r") rfl rfl rfl) (lx_call ok rfl (by omega : 1 ≤ D + 4) (users_l (D := 0)) (fun p hp => hp) fun r fp' h => ?_) (by fail "r") rfl) rfl rfl rfl (fun _ => rfl))
  obtain ⟨ul, t1, t2, t3, t4, uk, hul⟩ := h
  have v1 := hul _ (.head _)
  have v2 := hul _ (.tail _ (.head _))
  have u1 := fun p hp => r1 p hp
  refine .mk ((rl, listOf #[] 0) :: (ul, listOf (usersA t1 t2 t3 t4) uk) :: (bb.L + 1, oB) :: ([] ++ rest)) ul _ uk oA none (SJ rest rl ul (bb.L + 1 + 1) (bb.L + 1) el oB t1 t2 t3 t4 uk ents upto lo hi tl9 th9) (fun p hp => ?_) (fun i m' nw h => by cases h; exact .tail _ (.head _)) dA (fun p hp => ?_) (.mk ⟨rfl, rfl, rfl, rfl⟩ #[] 0 [] ⟨fun p hp => (nomatch hp), fun p hp => ?_, rfl, fun i k v hi => by simp at hi⟩) (fun i v m₁ nw I o oc hi' hP hJ hne hcI hoc Φ hΦ hR => ?_) fun m' led' oc v hoc hJ hne => ?_
  · rcases List.mem_cons.mp hp with rfl | hp
    · exact .tail _ (.tail _ (.head _))
    · rcases List.mem_cons.mp hp with rfl | hp
      · exact .tail _ (.head _)
      · rcases List.mem_cons.mp hp with rfl | hp
        · exact .head _
        · rcases List.mem_cons.mp hp with rfl | hp
          · exact .tail _ (.tail _ (.tail _ (.head _)))
          · exact .tail _ (.tail _ (.tail _ (.tail _ hp)))
  · rcases List.mem_cons.mp hp with rfl | hp
    · exact (Nat.ne_of_lt r2).symm
    · rcases List.mem_cons.mp hp with rfl | hp
      · exact (Nat.ne_of_lt v2).symm
      · rcases List.mem_cons.mp hp with rfl | hp
        · exact Nat.ne_of_lt (Nat.lt_succ_self _)
        · exact Nat.ne_of_lt (Nat.lt_trans (l1 p hp) (Nat.lt_trans (Nat.lt_succ_self _) (Nat.lt_succ_self _)))
  · exact ⟨Nat.ne_of_lt (r1 p hp), Nat.ne_of_lt (Nat.lt_trans (l1 p hp) (Nat.lt_trans (Nat.lt_succ_self _) (Nat.lt_succ_self _))), Nat.ne_of_lt (Nat.lt_trans (l1 p hp) (Nat.lt_succ_self _))⟩
  · obtain ⟨hm, rvs, rn, tl, J⟩ := hJ
    obtain ⟨u, t, rfl, hu⟩ := users_at hP
    have hfl := flat_next (f := seenOne ents upto lo hi) hu
    have hrz : rvs.size ≤ 4 := by
      have h1 := J.size
      have h2 := flat_size (ents := ents) (upto := upto) (lo := lo) (hi := hi) (usersL.take i)
      have h3 : (usersL.take i).length ≤ 4 := by rw [List.length_take]; exact Nat.min_le_right _ _
      omega
    have same : seenOne ents upto lo hi u = [] → ∀ (fl : Flow) (m' : Str → Option Value) (led' : Led), fl = .next ∨ fl = .cont → SM m' rl el lo hi tl9 th9 → (∀ p ∈ (I, o) :: (bb.L + 1 + 1, oc) :: (rl, listOf rvs rn) :: (ul, listOf (usersA t1 t2 t3 t4) uk) :: (bb.L + 1, oB) :: (tl ++ rest), p ∈ led') → Φ fl m' led' := fun h0 fl m' led' hfl' hm' hs => hΦ fl m' led' hfl' (.mk ((rl, listOf rvs rn) :: (ul, listOf (usersA t1 t2 t3 t4) uk) :: (bb.L + 1, oB) :: (tl ++ rest)) oc _ (.mk hm' rvs rn tl (by rw [hfl, h0, List.append_nil]; exact J)) (hs _ (.head _)) (hs _ (.tail _ (.head _))) hoc (fun p hp => hs p (.tail _ (.tail _ hp))) hne)
    have hin : ∀ p ∈ rest, p ∈ (I, o) :: (bb.L + 1 + 1, oc) :: (rl, listOf rvs rn) :: (ul, listOf (usersA t1 t2 t3 t4) uk) :: (bb.L + 1, oB) :: (tl ++ rest) := fun p hp => .tail _ (.tail _ (.tail _ (.tail _ (.tail _ (List.mem_append_right _ hp)))))
    refine sx_if1 (pc_and2 (pc_isnot (o := lo) (Px.mono (px_name hm.e2 rfl rfl rfl) bnd_isO) px_none rfl) (c2 := underLo lo u) fun e => ?_) (fun h => ?_) fun h => ?_
    · cases lo with
      | none => cases e
      | some b => exact pc_ltB (Px.mono (px_cell (.tail _ (.head _)) hoc rfl rfl rfl rfl) fun a h => ⟨t, h⟩) (Px.mono (px_name hm.e2 rfl rfl rfl) bnd_isO) rfl
    · rw [under_and] at h
      exact lx_seq (lx_continue (same (seenOne_lo h) .cont _ _ (.inr rfl) hm fun p hp => hp))
    rw [under_and] at h
    refine sx_if1 (pc_and2 (pc_isnot (o := hi) (Px.mono (px_name hm.e3 rfl rfl rfl) bnd_isO) px_none rfl) (c2 := pastHi hi u) fun e => ?_) (fun h2 => ?_) fun h2 => ?_
    · cases hi with
      | none => cases e
      | some b => exact pc_geB (Px.mono (px_cell (.tail _ (.head _)) hoc rfl rfl rfl rfl) fun a h => ⟨t, h⟩) (Px.mono (px_name hm.e3 rfl rfl rfl) bnd_isO) rfl
    · rw [past_and] at h2
      exact lx_seq (lx_continue (same (seenOne_hi h h2) .cont _ _ (.inr rfl) hm fun p hp => hp))
    rw [past_and] at h2
    have heq := seenOne_eq (ents := ents) (upto := upto) h h2
    refine lx_seq (lx_asgT (J := fun i ys nw => EntsIn rest ys.toArray ((ents.take i).filter fun e => e.u == u && decide ((e.q : Int) ≤ upto))) (px_name hm.e4 rfl rfl rfl) (hin _ hl) (by omega) EntsIn.nil (fun j v ys nw T C hj hP2 hJ2 hsub hT hown => ?_) (fun D9 ys nw hJ2 hsub hne2 => ?_) (by fail "r") (by fail "r") (by decide) rfl (by decide) rfl rfl rfl (fun _ => rfl) (fun _ => rfl) rfl (fun _ => rfl))
    · obtain ⟨e9, he9⟩ : ∃ e, ents[j]? = some e := ⟨_, List.getElem?_eq_getElem (by omega)⟩
      obtain ⟨aa, xs, kx, hv, hxm, hxf⟩ := he.at' j e9 he9
      obtain rfl : v = .ref aa := Option.some.inj ((show vs[j]? = some v from hP2).symm.trans hv)
      have hxf0 := hxf
      obtain ⟨y1, y2, y3, y4, y5, rfl⟩ := FAll_ent hxf
      have hxm2 := hT _ (hsub _ (hin _ hxm))
      refine .mk ((e9.u == u) && decide ((e9.q : Int) ≤ upto)) (pc_and2 (pc_eqB (Px.mono (px_itemT (k := 0) (hown _ _ fun _ h => h) px_int hxm2 (by decide) (by decide) rfl fun _ => (by fail "r")) fun a h => ⟨_, h⟩) (Px.mono (px_ccell (hT _ (hsub _ (.tail _ (.head _)))) hoc rfl rfl rfl rfl) fun a h => ⟨t, h⟩) rfl) fun _ => pc_leI (Px.mono (px_sub px_int (Px.mono (px_itemT (k := 1) (hown _ _ fun _ h => h) px_int hxm2 (by decide) (by decide) rfl fun _ => (by fail "r")) isI)) fun v h => neg2 e9.q ▸ h) (Px.mono (px_ccell (hT _ (hsub _ (.tail _ (.tail _ (.tail _ (.tail _ (.head _))))))) dB rfl rfl rfl rfl) isI) rfl) (fun hc => (hown T _ fun _ h => h).lx fun a ha => ?_) fun hc => ?_
      · subst ha
        refine EltP.mk (.ref aa) [] (fun _ h => nomatch h) ?_
        show EntsIn rest (ys ++ [Value.ref aa]).toArray _
        rw [filter_take he9, if_pos hc, ← List.push_toArray]
        exact hJ2.push hxm hxf0
      · show EntsIn rest ys.toArray _
        rw [filter_take he9, if_neg (by rw [hc]; exact Bool.false_ne_true), List.append_nil]
        exact hJ2
    · have hall : ents.take vs.size = ents := List.take_of_length_le (by omega)
      rw [hall] at hJ2
      have hm2 : SM (ms m₁ "mine" (.ref D9)) rl el lo hi tl9 th9 := ⟨hm.e1, hm.e2, hm.e3, hm.e4⟩
      refine Lx.sub (led' := (D9, lst ys) :: (I, o) :: (bb.L + 1 + 1, oc) :: (rl, listOf rvs rn) :: (ul, listOf (usersA t1 t2 t3 t4) uk) :: (bb.L + 1, oB) :: (tl ++ rest)) (fun p hp => (List.mem_cons.mp hp).elim (fun e => e ▸ .head _) fun hp => .tail _ (hsub p hp)) ?_
      cases hf : ents.filter fun e => e.u == u && decide ((e.q : Int) ≤ upto) with
      | nil =>
        rw [hf] at hJ2
        have hyz : ys.toArray.size = 0 := hJ2.size
        refine sx_if1 (pc_and2 (c2 := true) (pc_gtI (px_len (items := ys.toArray) ok (px_name rfl rfl rfl rfl) (px_builtin ok (by fail "r") (by fail "r") (by decide) rfl rfl rfl) (.head _) (by omega) rfl rfl) px_int rfl) fun e => ?_) (fun h3 => ?_) fun h3 => ?_
        · rw [hyz] at e; cases e
        · rw [hyz] at h3; cases h3
        · exact lx_nil (same (by rw [heq]; unfold seenCore; rw [hf]; rfl) .next _ _ (.inl rfl) hm2 fun p hp => .tail _ hp)
      | cons e fr =>
        rw [hf] at hJ2
        have hyz : ys.toArray.size = fr.length + 1 := hJ2.size
        have hfz : fr.length + 1 ≤ 5 := by
          have := List.length_filter_le (fun e => e.u == u && decide ((e.q : Int) ≤ upto)) ents
          rw [hf] at this
          simp only [List.length_cons] at this
          omega
        obtain ⟨aa, xs, kx, hv, hxm, hxf⟩ := hJ2.at' 0 e rfl
        obtain ⟨y1, y2, y3, y4, y5, rfl⟩ := FAll_ent hxf
        refine sx_if1 (pc_and2 (c2 := ((0 - (e.k : Int)) == -1)) (pc_gtI (px_len (items := ys.toArray) ok (px_name rfl rfl rfl rfl) (px_builtin ok (by fail "r") (by fail "r") (by decide) rfl rfl rfl) (.head _) (by omega) rfl rfl) px_int rfl) fun _ => pc_eqI (Px.mono (px_itemT (k := 2) (px_item (k := 0) (items := ys.toArray) (px_name rfl rfl rfl rfl) px_int (.head _) (by decide) (by decide) hv fun _ => (by fail "r")) px_int (.tail _ (hin _ hxm)) (by decide) (by decide) rfl fun _ => (by fail "r")) isI) (px_neg px_int) rfl) (fun h3 => ?_) fun h3 => ?_
        · have hk : e.k = 1 := by
            rw [Bool.and_eq_true, beq_iff_eq] at h3
            omega
          have hcore : seenOne ents upto lo hi u = [(u, e.v)] := by rw [heq]; unfold seenCore; rw [hf]; simp only [List.head?_cons]; rw [if_pos hk]
          refine sx_expr (lx_append (l := rl) (items := rvs) (n := rn) (px_name hm2.e1 rfl rfl rfl) (.tail _ (.tail _ (.tail _ (.head _)))) (fun s Q E f N q => Tuple_ (px_args2 (P := fun a => a = .bytes u t) (P2 := fun a => a = .bytes e.v y5) (px_cell (.tail _ (.tail _ (.head _))) hoc rfl rfl rfl rfl) (px_itemT (k := 4) (px_item (k := 0) (items := ys.toArray) (px_name rfl rfl rfl rfl) px_int (.head _) (by decide) (by decide) hv fun _ => (by fail "r")) px_int (.tail _ (hin _ hxm)) (by decide) (by decide) rfl fun _ => (by fail "r")) rfl rfl s _ E f N fun ws h' tk' pw F' N' => ?_)) rfl rfl) rfl rfl
          obtain ⟨_, _, rfl, rfl, rfl⟩ := pw
          refine kup_newTuple F' N' (fun ae h2' F2 N2 hlt => ?_) (by show 2 ≤ sizeLine; decide)
          have a1 : @Ne Nat ae rl := (Nat.ne_of_lt (hlt _ (.tail _ (.tail _ (.tail _ (.head _)))))).symm
          have a2 : @Ne Nat ae (bb.L + 1 + 1) := (Nat.ne_of_lt (hlt _ (.tail _ (.tail _ (.head _))))).symm
          have a3 : @Ne Nat ae (bb.L + 1) := (Nat.ne_of_lt (hlt _ (.tail _ (.tail _ (.tail _ (.tail _ (.tail _ (.head _)))))))).symm
          have a4 : @Ne Nat ae I := (Nat.ne_of_lt (hlt _ (.tail _ (.head _)))).symm
          have b1 : @Ne Nat D9 rl := fun e => hne2 _ (hsub _ (.tail _ (.tail _ (.head _)))) e.symm
          have b2 : @Ne Nat I rl := fun e => (hne _ (.head _)).1 e.symm
          have b3 : @Ne Nat (bb.L + 1 + 1) rl := fun e => (hne _ (.head _)).2 e.symm
          refine q _ _ _ h2' tk' (AppU.mk rvs rn _ (.tail _ (.tail _ (.tail _ (.tail _ (.head _))))) (.tail a1 (.tail b1 (.tail b2 (.tail b3 (.head fun p hp => ?_))))) (by omega) (lx_nil (lx_nil (hΦ .next _ _ (.inl rfl) (.mk ((rl, listOf (rvs.push (.ref ae)) (rn + 1)) :: (ul, listOf (usersA t1 t2 t3 t4) uk) :: (bb.L + 1, oB) :: (((ae, tupObj [.bytes u t, .bytes e.v y5] 0) :: tl) ++ rest)) oc _ (.mk hm2 _ _ _ (by rw [hfl, hcore]; exact J.more (fun q hq => Nat.ne_of_lt (hlt _ (.tail _ (hin _ hq)))) ⟨a1, a2, a3⟩)) (.tail _ (.tail _ (.head _))) (.tail _ (.tail _ (.tail _ (.head _)))) hoc (fun p hp => ?_) fun p hp => ?_))))) F2 N2
          · rcases List.mem_cons.mp hp with rfl | hp
            · exact (Nat.ne_of_lt v1).symm
            · rcases List.mem_cons.mp hp with rfl | hp
              · exact Nat.ne_of_lt r3
              · exact (J.off p hp).1
          · rcases List.mem_cons.mp hp with rfl | hp
            · exact .tail _ (.tail _ (.tail _ (.tail _ (.head _))))
            · rcases List.mem_cons.mp hp with rfl | hp
              · exact .tail _ (.tail _ (.tail _ (.tail _ (.tail _ (.head _)))))
              · rcases List.mem_cons.mp hp with rfl | hp
                · exact .tail _ (.tail _ (.tail _ (.tail _ (.tail _ (.tail _ (.head _))))))
                · rcases List.mem_cons.mp hp with rfl | hp
                  · exact .head _
                  · exact .tail _ (.tail _ (.tail _ (.tail _ (.tail _ (.tail _ (.tail _ hp))))))
          · rcases List.mem_cons.mp hp with rfl | hp
            · exact ⟨fun e => b2 e.symm, fun e => b3 e.symm⟩
            · rcases List.mem_cons.mp hp with rfl | hp
              · exact hne _ (.tail _ (.head _))
              · rcases List.mem_cons.mp hp with rfl | hp
                · exact hne _ (.tail _ (.tail _ (.head _)))
                · rcases List.mem_cons.mp hp with rfl | hp
                  · exact ⟨a4, a2⟩
                  · exact hne _ (.tail _ (.tail _ (.tail _ hp)))
        · exact lx_nil (same (by
            rw [heq]; unfold seenCore; rw [hf]; simp only [List.head?_cons]
            rw [if_neg (fun hk => by rw [hk, hyz] at h3; simp at h3)]) .next _ _ (.inl rfl) hm2 fun p hp => .tail _ hp)
  · obtain ⟨hm, rvs, rn, tl, J⟩ := hJ
    have J : SeenIn rest rl (bb.L + 1 + 1) (bb.L + 1) (usersL.flatMap (seenOne ents upto lo hi)) rvs tl := J
    have hsz4 := flat_size (ents := ents) (upto := upto) (lo := lo) (hi := hi) usersL
    have h4 : usersL.length = 4 := rfl
    refine Lx.sub (led' := ((rl, listOf rvs rn) :: tl) ++ rest) (fun p hp => ?_) (sx_ret (px_name hm.e1 rfl rfl rfl) fun v hv => hv ▸ kφ (.ret (.ref rl)) _ _ (.mk rl rvs rn tl (fun q hq => Nat.ne_of_lt (r1 q hq)) J.new ⟨.head _, J.size, by omega, fun i k v hi => ?_⟩))
    · rcases List.mem_cons.mp hp with rfl | hp
      · exact .tail _ (.head _)
      · exact .tail _ (.tail _ (.tail _ (.tail _ hp)))
    · obtain ⟨a', s1, s2, n', g1, g2⟩ := J.row i k v hi
      exact ⟨a', s1, s2, n', g1, .tail _ g2⟩
end
open PySem PySem.W PyProof.Rows PySem.Spec PyProof.Rows.LCg
set_option linter.unusedVariables false
set_option maxRecDepth 100000
set_option maxHeartbeats 8000000
/-! the walker that the law makes -/
def isCell (o : Obj) : Bool := match o.data with | .cell _ => true | _ => false
def nc (l : Led) : Led := l.filter fun p => !isCell p.2
theorem mem_nc {l : Led} {p : Addr × Obj} (h : p ∈ l) (hn : isCell p.2 = false) : p ∈ nc l := List.mem_filter.mpr ⟨h, by rw [hn]; rfl⟩
theorem nc_sub {l : Led} : ∀ p ∈ nc l, p ∈ l := fun p hp => (List.mem_filter.mp hp).1
theorem nc_apart {h₀ h : Heap} {L c : Addr} {o : Obj} {v : Option Value} {l : Led} (N : News h₀ L h l) (hm : (c, o) ∈ l) (hd : o.data = .cell v) : ∀ p ∈ nc l, p.1 ≠ c := fun p hp e => by
  have h1 := (N p (nc_sub p hp)).1
  have h2 := (N _ hm).1
  rw [e] at h1
  have e2 : p.2 = o := Option.some.inj (h1.symm.trans h2)
  have h3 := (List.mem_filter.mp hp).2
  rw [e2] at h3
  unfold isCell at h3
  rw [hd] at h3
  cases h3
theorem EntsIn.nc {l : Led} {vs : Array Value} {ents : List Ent} (h : EntsIn l vs ents) : EntsIn (nc l) vs ents :=
  ⟨h.size, fun i e he => by obtain ⟨a, xs, k, h1, h2, h3⟩ := h.at' i e he; exact ⟨a, xs, k, h1, mem_nc h2 rfl, h3⟩⟩
theorem RowsL.nc {l : Led} {rl : Addr} {rows : List RowB} {vs : Array Value} {n : Nat} (h : RowsL l rl rows vs n) : RowsL (nc l) rl rows vs n :=
  ⟨mem_nc h.lst rfl, h.size, h.small, fun i k v hi => by obtain ⟨a, t1, t2, n', h1, h2⟩ := h.row i k v hi; exact ⟨a, t1, t2, n', h1, mem_nc h2 rfl⟩⟩
theorem NumsIn.nc {l : Led} {nl : Addr} {vs : Array Value} {n k : Nat} (h : NumsIn l nl vs n k) : NumsIn (nc l) nl vs n k := ⟨mem_nc h.lst rfl, h.size, h.pos, h.small, h.num⟩
theorem OrdIn.nc {l : Led} {o : Addr} (h : OrdIn l o) : OrdIn (nc l) o := by
  obtain ⟨duo, uo, dd, hh, tt, n, m1, m2, m3, m4⟩ := h
  exact ⟨duo, uo, dd, hh, tt, n, mem_nc m1 rfl, mem_nc m2 rfl, mem_nc m3 rfl, mem_nc m4 rfl⟩
theorem LeafC.nc {fp l : Led} {c : Addr} {kd : Bool} {R : List Row} {st : Option Nat} (h : LeafC fp l c kd R st) : LeafC fp (nc l) c kd R st := by
  obtain ⟨dx, o, r, vs, n2, q, p, t, h3, h4, h5⟩ := h
  exact .mk dx o r vs n2 q p t ⟨mem_nc h3.inst rfl, mem_nc h3.lst rfl, h3.len, fun i k v hi => by
    obtain ⟨a, t1, t2, n, g1, g2⟩ := h3.row i k v hi
    exact ⟨a, t1, t2, n, g1, mem_nc g2 rfl⟩, h3.ok, h3.small, h3.ord.nc⟩ h4 h5
theorem mk_merge {w : World} {rest tl rest' : Led} {pl cC x dx ch tp od : Addr} {ents : List Ent} {cnt nc' nt : Nat} {pvs tops : Array Value} {ks : List KS} {q : MP} {tc tg : Tok}
    (P : P14 rest pl cC (ents.map Ent.z) cnt pvs tl ks) (hc2 : cnt ≤ 3) (hsz : ents.length ≤ 5) (hok : ∀ e ∈ ents, e.Ok cnt) (hpw : (ents.map Ent.z).Pairwise Zord) (hO : OrdIn rest' od) (hs : ∀ p ∈ nc tl, p ∈ rest') (h1 : (x, instObj 506 dx) ∈ rest') (h2 : (ch, listOf pvs nc') ∈ rest')
    (ht : tops.size = pvs.size) (hd : @Ne Nat dx tp) (hf : ∀ p ∈ kfps ks, p.1 ≠ dx ∧ p.1 ≠ tp) :
    MergeW LeafC (ents.map Ent.row) ((dx, MD q ch tp od (-1) tc 0 tg) :: (tp, listOf tops nt) :: kfps ks) rest' x none := by
  have hl := P.len
  have hz := P.size
  have e9 : (ents.map Ent.z).map (·.1) = ents.map Ent.row := by rw [List.map_map]; rfl
  rw [← e9]
  refine .mk dx ch tp od q pvs nc' tops nt ks (ents.map Ent.z) (-1) tc 0 tg ⟨h1, h2, hO, by omega, fun i k hk => (P.kid i k hk).1, by omega, by omega, fun k hk => (leaf_spec w).mono (P.cur k hk).nc hs, P.apart, hf, hd, hpw, fun z hz => ?_, fun i k hk => (P.kid i k hk).2.2.1, by rw [List.length_map]; omega⟩ rfl
  obtain ⟨e, he, rfl⟩ := List.mem_map.mp hz
  rw [hl]
  exact (hok e he).c
inductive J20 (W : Led → Led → Addr → Option Nat → Prop) (R0 : Led) (c L : Addr) (nr : Nat) (m : Str → Option Value) : Nat → (Str → Option Value) → Led → Prop
  | mk {i : Nat} (m₁ : Str → Option Value) (fp : Led) (place : Int) (tp : Tok) (oT oS : Obj) (vT vS : Option Value) (hm : ∀ y : Str, y ≠ "i" → y ≠ "x" → y ≠ "act" → y ≠ "off" → y ≠ "place" → m₁ y = m y) (hT : oT.data = .cell vT) (hS : oS.data = .cell vS) (e6 : m₁ "place" = some (.int place tp)) (hC : W fp R0 c (placeP nr place)) (ho : Off fp R0) (hap : ∀ p ∈ fp ++ R0, p.1 ≠ L + 1 + 1 + 1 + 1 ∧ p.1 ≠ L + 1 + 1 + 1 + 1 + 1) : J20 W R0 c L nr m i m₁ ((L + 1 + 1 + 1 + 1, oT) :: (L + 1 + 1 + 1 + 1 + 1, oS) :: (fp ++ R0))
section
variable {w : World} {A₀ : Around} {base h₀ : Heap} {L a : Addr} {ccd : Value} {m mg mb : Str → Option Value} {mean : ExcName → Option Value} {s : Shared} {rest led : Led} {Q : Flow → Shared → Prop} {E : Value → Shared → Prop} {R : List Stmt}
theorem st17u {x od el : Addr} {upto : Int} {tu tl9 th9 : Tok} {lo hi : Option (Array UInt8)} {vs : Array Value} {n : Nat} {ents : List Ent} {oE : Obj} (B : Below A₀ base [] h₀) (F : Fr h₀ L s.heap m) (X : (Mine.hd.heap_39 w.params).In h₀) (N : News h₀ L s.heap (led)) (T : Top VW (looseW VW []) mean mg mb h₀)
    (e1 : m "merged" = some (.bool false)) (e2 : m "walker" = some (.ref x)) (e3 : m "order" = some (.ref od)) (e4 : m "upto" = some (.int upto tu)) (e5 : m "low" = some (bndV lo tl9)) (e6 : m "high" = some (bndV hi th9)) (hE : oE.data = .cell (some (.ref el))) (hcE : (L + 1, oE) ∈ led) (hl : (el, listOf vs n) ∈ led) (he : EntsIn led vs ents) (hsz : ents.length ≤ 5)
    (k : ∀ u du q tg tk1 tv1 rl rvs rn nw m' h' tk', @Ne Nat u du → (∀ p ∈ led, p.1 ≠ u ∧ p.1 ≠ du) → (∀ p ∈ led, p.1 ≠ rl) → @Ne Nat u rl → @Ne Nat du rl → (∀ p ∈ nw, (∀ q ∈ led, q.1 ≠ p.1) ∧ @Ne Nat u p.1 ∧ @Ne Nat du p.1) → RowsL ((rl, listOf rvs rn) :: nw) rl (usersL.flatMap (seenOne ents upto lo hi)) rvs rn → (∀ y : Str, y ≠ "walker" → y ≠ "rows" → m' y = m y) → m' "walker" = some (.ref u) → m' "rows" = some (.ref rl) → Fr h₀ L h' m' → News h₀ L h' ((rl, listOf rvs rn) :: (nw ++ ((u, instObj 611 du) :: (du, UD q x upto lo hi 0 tg false #[] tk1 #[] tv1) :: led))) → wpAny (model Challenge.rw_no0415_01.row.prog w) (callerA.deeper (envOfC (Str.ofString "law") lawSc L a ccd)) (execs (R) (envOfC (Str.ofString "law") lawSc L a ccd)) Q E { s with heap := h', toks := tk' }) :
    wpAny (model Challenge.rw_no0415_01.row.prog w) (callerA.deeper (envOfC (Str.ofString "law") lawSc L a ccd)) (execs (lawAt 17 :: R) (envOfC (Str.ofString "law") lawSc L a ccd)) Q E s := by
  have ok := okL (L := L) (mean := mean) (mg := mg) (mb := mb) B X T
  refine (?_ : Ly w (FL a ccd) (bL A₀ base h₀ L mg mb mean) (execs (lawAt 17 :: R) (evx (FL a ccd) (bL A₀ base h₀ L mg mb mean))) s Q E m _) s.heap s.toks F N
  conv in (lawAt _) => whnf
  refine ly_seq (lxp_if (pc_not (pc_val (px_name e1 rfl rfl rfl) rfl)) (fun _ => ?_) fun h => nomatch h)
  refine lx_seq (lx_nameC (lf1 (fv := .ref 611) ok (px_glob ok (by fail "r") rfl rfl rfl) (px_cn (px_name e2 rfl rfl rfl) (px_cn (px_name e4 rfl rfl rfl) (px_cn (px_name e3 rfl rfl rfl) (px_cn (px_name e5 rfl rfl rfl) (px_cn (px_name e6 rfl rfl rfl) px_cn0 rfl) rfl) rfl) rfl) rfl) (fun vs h => ?_) (by fail "r") rfl rfl rfl) rfl rfl rfl)
  obtain ⟨_, _, rfl, _, _, rfl, _, _, rfl, _, _, rfl, _, _, rfl, rfl⟩ := h
  refine lx_call ok rfl (by decide : 2 ≤ 100) (uinit_c (D := 0)) (fun p hp => hp) fun r fp' h => ?_
  obtain ⟨u, du, q, tg, tk1, tv1, hne, hfr⟩ := h
  refine lx_seq (lx_nameC (lf1 (fv := .ref 669) ok (px_glob ok (by fail "r") rfl rfl rfl) (px_cn (px_cell (.tail _ (.tail _ hcE)) hE rfl rfl rfl rfl) (px_cn (px_name e4 rfl rfl rfl) (px_cn (px_name e5 rfl rfl rfl) (px_cn (px_name e6 rfl rfl rfl) px_cn0 rfl) rfl) rfl) rfl) (fun vs h => ?_) (by fail "r") rfl rfl rfl) rfl rfl rfl)
  obtain ⟨_, _, rfl, _, _, rfl, _, _, rfl, _, _, rfl, rfl⟩ := h
  refine lx_call ok rfl (by decide : 5 ≤ 100) (seen_c (D := 0) (.tail _ (.tail _ hl)) (he.mono fun p hp => .tail _ (.tail _ hp)) hsz) (fun p hp => hp) fun r fp' h => ?_
  obtain ⟨rl, rvs, rn, nw, h1, h2, h3⟩ := h
  exact lx_nil (φ := KY _ _ _ _ _ _ _ _) fun h' tk' F' N' => k u du q tg tk1 tv1 rl rvs rn nw _ h' tk' hne hfr (fun p hp => h1 p (.tail _ (.tail _ hp))) (h1 _ (.head _)) (h1 _ (.tail _ (.head _))) (fun p hp => ⟨fun q hq => h2 p hp q (.tail _ (.tail _ hq)), h2 p hp _ (.head _), h2 p hp _ (.tail _ (.head _))⟩) h3 (fun y h1 h2 => by simp only [ms, if_neg h1, if_neg h2]) rfl rfl F' N'
theorem st20 {D : Nat} {c : Addr} {wk : Bool} {rows : List RowB} {W : Led → Led → Addr → Option Nat → Prop} {fp R0 : Led}{rl nl : Addr} {rvs nvs : Array Value} {rn nn kk : Nat} {place : Int} {tp : Tok} {oT oS : Obj} {vT vS : Option Value} {el : Addr} {vs : Array Value} {n : Nat} {ents : List Ent} {oE : Obj} (B : Below A₀ base [] h₀) (F : Fr h₀ L s.heap m) (X : (Mine.hd.heap_39 w.params).In h₀) (N : News h₀ L s.heap ((L + 1 + 1 + 1 + 1, oT) :: (L + 1 + 1 + 1 + 1 + 1, oS) :: (fp ++ R0))) (T : Top VW (looseW VW []) mean mg mb h₀)
    (hPE : PassesOwn (model Challenge.rw_no0415_01.row.prog w) (callerA.deeper (envOfC (Str.ofString "law") lawSc L a ccd)) (envOfC (Str.ofString "law") lawSc L a ccd) E)(XB : (Mine.hd.heap_39 w.params).In base) (TB : Top VW (looseW VW []) mean mg mb base) (hS : WkSpec w D wk rows W) (hC : W fp R0 c (placeP rows.length place)) (hD : D ≤ 60) (ho : Off fp R0) (hT : oT.data = .cell vT) (hS5 : oS.data = .cell vS) (hap : ∀ p ∈ fp ++ R0, p.1 ≠ L + 1 + 1 + 1 + 1 ∧ p.1 ≠ L + 1 + 1 + 1 + 1 + 1) (hn : NumsIn R0 nl nvs nn kk) (e1 : m "nums" = some (.ref nl)) (e4 : m "walker" = some (.ref c)) (e5 : m "merged" = some (.bool wk)) (e6 : m "place" = some (.int place tp)) (e7 : m "rows" = some (.ref rl)) (hr : RowsL R0 rl rows rvs rn)
    (hE : oE.data = .cell (some (.ref el))) (hcE : (L + 1, oE) ∈ R0) (hl : (el, listOf vs n) ∈ R0) (he : EntsIn R0 vs ents) (hsz : ents.length ≤ 5) (hsm : wk = true → ∀ {fp E0 : Led} {p : Option Nat} (u : Array UInt8) (q : Nat) (t : Tok), W fp R0 c p → (∀ x ∈ R0, x ∈ E0) → Off fp E0 → u.size ≤ 8 → seqOk q → Calls w D (adrW wk .seek) [.ref c, .bytes (ikb ⟨u, q, 1⟩) t] fp E0 fun r fp' => r = .none ∧ sameAdr fp' fp ∧ W fp' R0 c (placeP rows.length ((ents.countP fun e => ltL (cut3 e) [.b u, .i (0 - (q : Int)), .i (-1)] : Nat) : Int))) (hsu : wk = false → ∀ {fp E0 : Led} {p : Option Nat} (u : Array UInt8) (t : Tok), W fp R0 c p → (∀ x ∈ R0, x ∈ E0) → Off fp E0 → u.size ≤ 8 → Calls w D (adrW wk .seek) [.ref c, .bytes u t] fp E0 fun r fp' => r = .none ∧ sameAdr fp' fp ∧ W fp' R0 c (placeP rows.length ((rows.countP fun r => ltB r.1 u : Nat) : Int)))
    (k : ∀ m' h' tk' led, Fr h₀ L h' m' → News h₀ L h' led → wpAny (model Challenge.rw_no0415_01.row.prog w) (callerA.deeper (envOfC (Str.ofString "law") lawSc L a ccd)) (execs (R) (envOfC (Str.ofString "law") lawSc L a ccd)) Q E { s with heap := h', toks := tk' }) :
    wpAny (model Challenge.rw_no0415_01.row.prog w) (callerA.deeper (envOfC (Str.ofString "law") lawSc L a ccd)) (execs (lawAt 20 :: R) (envOfC (Str.ofString "law") lawSc L a ccd)) Q E s := by
  have ok := okL (L := L) (mean := mean) (mg := mg) (mb := mb) B X T
  refine (?_ : Ly w (FL a ccd) (bL A₀ base h₀ L mg mb mean) (execs (lawAt 20 :: R) (evx (FL a ccd) (bL A₀ base h₀ L mg mb mean))) s Q E m _) s.heap s.toks F N
  conv in (lawAt _) => whnf
  refine ly_seq (lx_forUp (n := 6) ok (px_builtin ok (by fail "r") (by fail "r") (by decide) rfl rfl rfl) px_int (by decide) (J20 W R0 c L rows.length m) (.mk m fp place tp oT oS vT vS (fun _ _ _ _ _ _ => rfl) hT hS5 e6 hC ho hap) (fun i m₁ led₁ I o t hi hJ hne Φ hΦ hR s Q E F₁ N₁ kont => ?_) (fun m' led' hJ h' tk' F' N' => k _ h' tk' _ F' N') rfl rfl rfl rfl (fun _ => rfl))
  · obtain ⟨fp, place, tp, oT, oS, vT, vS, hm, hT, hS5, e6, hC, ho, hap⟩ := hJ
    have gT : @Ne Nat (L + 1 + 1 + 1 + 1) I := hne _ (.head _)
    have gS : @Ne Nat (L + 1 + 1 + 1 + 1 + 1) I := hne _ (.tail _ (.head _))
    have gI : ∀ p ∈ fp ++ R0, @Ne Nat p.1 I := fun p hp => hne p (.tail _ (.tail _ hp))
    have hap2 : ∀ p ∈ fp ++ ((I, o) :: R0), p.1 ≠ L + 1 + 1 + 1 + 1 ∧ p.1 ≠ L + 1 + 1 + 1 + 1 + 1 := fun p hp => by
      rcases List.mem_append.mp hp with hp | hp
      · exact hap p (List.mem_append_left _ hp)
      · rcases List.mem_cons.mp hp with rfl | hp
        · exact ⟨fun e => gT e.symm, fun e => gS e.symm⟩
        · exact hap p (List.mem_append_right _ hp)
    have hoI : Off fp ((I, o) :: R0) := fun p hp q hq => by
      rcases List.mem_cons.mp hq with rfl | hq
      · exact fun e => gI p (List.mem_append_left _ hp) e.symm
      · exact ho p hp q hq
    refine b0 B F₁ X N₁ T (hn.mono fun p hp => .tail _ (.tail _ (.tail _ (List.mem_append_right _ hp)))) ((hm "nums" (by decide) (by decide) (by decide) (by decide) (by decide)).trans e1) (i := i) (ti := t) rfl (place := place) (tp := tp) e6 ((hm "rows" (by decide) (by decide) (by decide) (by decide) (by decide)).trans e7) hi (hr.mono fun p hp => .tail _ (.tail _ (.tail _ (List.mem_append_right _ hp)))) ?_
    intro z zt at' b m₂ h₂ tk₂ hz0 hz1 hm2 x1 x2 x3 hb F₂ N₂
    have hav0 : (0 : Int) ≤ z.fmod 9 := Int.fmod_nonneg_of_pos _ (by decide)
    have hav1 : z.fmod 9 < 9 := Int.fmod_lt_of_pos _ (by decide)
    refine b1 (cnt := 0) (R1 := (I, o) :: R0) B F₂ X (news_of N₂ fun p hp => ?_) T hS hC hD (fun x hx => .tail _ hx) hoI hT hS5 hap2 x1 x2 x3 ((hm2 "walker" (by decide) (by decide) (by decide)).trans ((hm "walker" (by decide) (by decide) (by decide) (by decide) (by decide)).trans e4)) ((hm2 "merged" (by decide) (by decide) (by decide)).trans ((hm "merged" (by decide) (by decide) (by decide) (by decide) (by decide)).trans e5)) ((hm2 "place" (by decide) (by decide) (by decide)).trans e6) ((hm2 "rows" (by decide) (by decide) (by decide)).trans ((hm "rows" (by decide) (by decide) (by decide) (by decide) (by decide)).trans e7)) hz0 hz1 hav0 hav1 hb hr hE hcE hl he hsz hsm hsu ?_
    · rcases List.mem_cons.mp hp with rfl | hp
      · exact .tail _ (.head _)
      · rcases List.mem_cons.mp hp with rfl | hp
        · exact .tail _ (.tail _ (.head _))
        · rcases List.mem_append.mp hp with hp | hp
          · exact .tail _ (.tail _ (.tail _ (List.mem_append_left _ hp)))
          · rcases List.mem_cons.mp hp with rfl | hp
            · exact .head _
            · exact .tail _ (.tail _ (.tail _ (List.mem_append_right _ hp)))
    · intro fp' place' tp' oT' oS' vT' vS' m₃ h₃ tk₃ hsa hW' hT' hS' hm3 x6 F₃ N₃
      have hap3 := apart_new hsa hap2
      have ho3 : Off fp' ((I, o) :: R0) := hoI.adr hsa
      have g3 : ∀ y : Str, y ≠ "i" → y ≠ "x" → y ≠ "act" → y ≠ "off" → y ≠ "place" → m₃ y = m y := fun y h1 h2 h3 h4 h5 => by
        rw [hm3 y h5, hm2 y h2 h3 h4]
        exact (if_neg h1).trans (hm y h1 h2 h3 h4 h5)
      refine b2 (R1 := []) (fp := fp') (E0 := (L + 1 + 1 + 1 + 1, oT') :: (L + 1 + 1 + 1 + 1 + 1, oS') :: (I, o) :: R0) B F₃ X (news_of N₃ fun p hp => led_in p hp) T XB TB hS hW' hD (fun x hx => .tail _ (.tail _ (.tail _ hx))) (off_E ho3 hap3) (hr.mono fun x hx => .tail _ (.tail _ (.tail _ hx))) ((g3 "walker" (by decide) (by decide) (by decide) (by decide) (by decide)).trans e4) x6 ((g3 "rows" (by decide) (by decide) (by decide) (by decide) (by decide)).trans e7) ?_
      intro h₄ tk₄ F₄ N₄
      refine wpAny_execs_nil (kont .next _ _ h₄ tk₄ (hΦ .next _ ((L + 1 + 1 + 1 + 1, oT') :: (L + 1 + 1 + 1 + 1 + 1, oS') :: (fp' ++ R0)) _ (.inl rfl) (.mk m₃ fp' place' tp' oT' oS' vT' vS' g3 hT' hS' x6 hW' (fun p hp q hq => ho3 p hp q (.tail _ hq)) fun p hp => hap3 p ?_) (fun p hp => ?_) (List.mem_append_right _ (.tail _ (.tail _ (.head _)))) fun p hp => ?_) F₄ N₄)
      rotate_left 1
      · rcases List.mem_cons.mp hp with rfl | hp
        · exact List.mem_append_right _ (.head _)
        · rcases List.mem_cons.mp hp with rfl | hp
          · exact List.mem_append_right _ (.tail _ (.head _))
          · rcases List.mem_append.mp hp with hp | hp
            · exact List.mem_append_left _ hp
            · exact List.mem_append_right _ (.tail _ (.tail _ (.tail _ hp)))
      · rcases List.mem_cons.mp hp with rfl | hp
        · exact gT
        · rcases List.mem_cons.mp hp with rfl | hp
          · exact gS
          · rcases List.mem_append.mp hp with hp | hp
            · exact fun e => ho3 p hp (I, o) (.head _) e.symm
            · exact gI p (List.mem_append_right _ hp)
      · rcases List.mem_append.mp hp with hp | hp
        · exact List.mem_append_left _ hp
        · exact List.mem_append_right _ (.tail _ hp)
theorem fin {D : Nat} {c : Addr} {wk : Bool} {rows : List RowB} {W : Led → Led → Addr → Option Nat → Prop} {fp R0 : Led}{rl nl : Addr} {rvs nvs : Array Value} {rn nn kk : Nat} {oT oS : Obj} {vT vS : Option Value} {el : Addr} {vs : Array Value} {n : Nat} {ents : List Ent} {oE : Obj} (B : Below A₀ base [] h₀) (F : Fr h₀ L s.heap m) (X : (Mine.hd.heap_39 w.params).In h₀) (N : News h₀ L s.heap ((L + 1 + 1 + 1 + 1, oT) :: (L + 1 + 1 + 1 + 1 + 1, oS) :: (fp ++ R0))) (T : Top VW (looseW VW []) mean mg mb h₀)
    (hPE : PassesOwn (model Challenge.rw_no0415_01.row.prog w) (callerA.deeper (envOfC (Str.ofString "law") lawSc L a ccd)) (envOfC (Str.ofString "law") lawSc L a ccd) E)(XB : (Mine.hd.heap_39 w.params).In base) (TB : Top VW (looseW VW []) mean mg mb base) (hS : WkSpec w D wk rows W) (hC : W fp R0 c none) (hD : D ≤ 60) (ho : Off fp R0) (hT : oT.data = .cell vT) (hS5 : oS.data = .cell vS) (hap : ∀ p ∈ fp ++ R0, p.1 ≠ L + 1 + 1 + 1 + 1 ∧ p.1 ≠ L + 1 + 1 + 1 + 1 + 1) (hn : NumsIn R0 nl nvs nn kk) (e1 : m "nums" = some (.ref nl)) (e4 : m "walker" = some (.ref c)) (e5 : m "merged" = some (.bool wk)) (e7 : m "rows" = some (.ref rl)) (hr : RowsL R0 rl rows rvs rn)
    (hE : oE.data = .cell (some (.ref el))) (hcE : (L + 1, oE) ∈ R0) (hl : (el, listOf vs n) ∈ R0) (he : EntsIn R0 vs ents) (hsz : ents.length ≤ 5) (hsm : wk = true → ∀ {fp E0 : Led} {p : Option Nat} (u : Array UInt8) (q : Nat) (t : Tok), W fp R0 c p → (∀ x ∈ R0, x ∈ E0) → Off fp E0 → u.size ≤ 8 → seqOk q → Calls w D (adrW wk .seek) [.ref c, .bytes (ikb ⟨u, q, 1⟩) t] fp E0 fun r fp' => r = .none ∧ sameAdr fp' fp ∧ W fp' R0 c (placeP rows.length ((ents.countP fun e => ltL (cut3 e) [.b u, .i (0 - (q : Int)), .i (-1)] : Nat) : Int))) (hsu : wk = false → ∀ {fp E0 : Led} {p : Option Nat} (u : Array UInt8) (t : Tok), W fp R0 c p → (∀ x ∈ R0, x ∈ E0) → Off fp E0 → u.size ≤ 8 → Calls w D (adrW wk .seek) [.ref c, .bytes u t] fp E0 fun r fp' => r = .none ∧ sameAdr fp' fp ∧ W fp' R0 c (placeP rows.length ((rows.countP fun r => ltB r.1 u : Nat) : Int)))
    (k : ∀ m' h' tk' led, Fr h₀ L h' m' → News h₀ L h' led → wpAny (model Challenge.rw_no0415_01.row.prog w) (callerA.deeper (envOfC (Str.ofString "law") lawSc L a ccd)) (execs (R) (envOfC (Str.ofString "law") lawSc L a ccd)) Q E { s with heap := h', toks := tk' }) :
    wpAny (model Challenge.rw_no0415_01.row.prog w) (callerA.deeper (envOfC (Str.ofString "law") lawSc L a ccd)) (execs (lawAt 18 :: lawAt 19 :: lawAt 20 :: R) (envOfC (Str.ofString "law") lawSc L a ccd)) Q E s := by
  refine st18 B F X N T fun tp h' tk' F' N' => ?_
  have hC' := hC
  rw [noneP_place rows.length] at hC'
  refine st19 (R1 := []) (fp := fp) (E0 := (L + 1 + 1 + 1 + 1, oT) :: (L + 1 + 1 + 1 + 1 + 1, oS) :: R0) (place := -1) (tp := tp) B F' X (news_of N' fun p hp => led_in p hp) T XB TB hS hC' hD (fun x hx => .tail _ (.tail _ hx)) (off_E ho hap) (hr.mono fun x hx => .tail _ (.tail _ hx)) e4 rfl e7 fun h₂ tk₂ F₂ N₂ => ?_
  exact st20 (place := -1) (tp := tp) B F₂ X (news_of N₂ fun p hp => led_out p hp) T hPE XB TB hS hC' hD ho hT hS5 hap hn e1 e4 e5 rfl e7 hr hE hcE hl he hsz hsm hsu k
end
open PySem PySem.W PyProof.Rows PySem.Spec
set_option maxRecDepth 100000
theorem Calls.weaken {w : World} {D D' : Nat} {f : Addr} {args : List Value} {fp rest : Led} {post : Value → Led → Prop} (h : Calls w D f args fp rest post) (hD : D ≤ D') : Calls w D' f args fp rest post := by
  intro dp un gd cn cs a ccd cl outer A₀ base h₀ L m mg mb mean s Q E B F X N T hk hd hu k
  exact h dp un gd cn cs a ccd cl outer A₀ base h₀ L m mg mb mean s Q E B F X N T hk (by omega) (by omega) k
theorem rows_rb (ents : List Ent) : (ents.map Ent.row).map (fun x => (ikb x.1, x.2)) = ents.map Ent.rb := by rw [List.map_map]; rfl
theorem merge_seek {w : World} {ents : List Ent} {c : Addr} {fp R0 E0 : Led} {p : Option Nat} (hs : SortedR (ents.map Ent.row)) (hk : ∀ e ∈ ents, e.k ≤ 1) (u : Array UInt8) (q : Nat) (t : Tok) (hC : MergeW LeafC (ents.map Ent.row) fp R0 c p) (hsub : ∀ x ∈ R0, x ∈ E0) (ho : Off fp E0) (hu : u.size ≤ 8) (hq : seqOk q) :
    Calls w 22 (adrW true .seek) [.ref c, .bytes (ikb ⟨u, q, 1⟩) t] fp E0 fun r fp' => r = .none ∧ sameAdr fp' fp ∧ MergeW LeafC (ents.map Ent.row) fp' R0 c (placeP (ents.map Ent.rb).length ((ents.countP fun e => ltL (cut3 e) [.b u, .i (0 - (q : Int)), .i (-1)] : Nat) : Int)) := by
  have := (merge_spec (leaf_spec w)).seek (e := ⟨u, q, 1⟩) (t := t) hC hsub ho ⟨seq_lt hq, by show (1 : Nat) < 256; decide, by show u.size ≤ 1000; omega⟩
  rw [seekAt_place, ← ents_count hs hk] at this
  rw [show (ents.map Ent.rb).length = (ents.map Ent.row).length by simp]
  exact this
theorem user_facts {ents : List Ent} {upto : Int} {lo hi : Option (Array UInt8)} (hs : SortedR (ents.map Ent.row)) (hk : ∀ e ∈ ents, e.k ≤ 1) (h0 : 0 ≤ upto) (h1 : upto ≤ 1099511627776) (hlo : ∀ b, lo = some b → b.size ≤ 8) (hhi : ∀ b, hi = some b → b.size ≤ 8) : UFacts (ents.map Ent.row) upto lo hi :=
  ⟨hs, fun x hx => by
    obtain ⟨e, he, rfl⟩ := List.mem_map.mp hx
    rw [row_kind (hk e he)]
    have := hk e he
    omega, h0, by omega, fun b hb => by have := hlo b hb; omega, fun b hb => by have := hhi b hb; omega⟩
theorem user_seek2 {w : World} {ents : List Ent} {upto : Int} {lo hi : Option (Array UInt8)} {c : Addr} {fp R0 E0 : Led} {p : Option Nat} (f : UFacts (ents.map Ent.row) upto lo hi) (u : Array UInt8) (t : Tok) (hC : UserS (MergeC LeafC) upto lo hi (ents.map Ent.row) fp R0 c p) (hsub : ∀ x ∈ R0, x ∈ E0) (ho : Off fp E0) (hu : u.size ≤ 8) :
    Calls w 34 (adrW false .seek) [.ref c, .bytes u t] fp E0 fun r fp' => r = .none ∧ sameAdr fp' fp ∧ UserS (MergeC LeafC) upto lo hi (ents.map Ent.row) fp' R0 c (placeP (toldRows (ents.map Ent.row) upto lo hi).length (((toldRows (ents.map Ent.row) upto lo hi).countP fun r => ltB r.1 u : Nat) : Int)) := by
  have := (user_seek (merge_spec (leaf_spec w)) f (t := u) (tt := t) (by omega) hC hsub ho).weaken (D' := 34) (by decide)
  rw [placeT_place, told_count] at this
  rw [show (toldRows (ents.map Ent.row) upto lo hi).length = (toldL (ents.map Ent.row) upto lo hi).length by unfold toldRows; simp]
  exact this
section
variable {w : World} {A₀ : Around} {base h₀ : Heap} {L a : Addr} {ccd : Value} {m mg mb : Str → Option Value} {mean : ExcName → Option Value} {s : Shared} {rest led : Led} {Q : Flow → Shared → Prop} {E : Value → Shared → Prop} {R : List Stmt}
set_option maxHeartbeats 8000000 in
theorem glueB {el fl pl od nl : Addr} {vs fvs nvs pvs : Array Value} {n n' nn kk np cnt : Nat} {ents : List Ent} {oE oF oC oT oS : Obj} {vC vT vS : Option Value} {tl : Led} {ks : List KS} {wk : Bool} {upto : Int} {tu tl9 th9 : Tok} {lo hi : Option (Array UInt8)} (B : Below A₀ base [] h₀) (F : Fr h₀ L s.heap m) (X : (Mine.hd.heap_39 w.params).In h₀) (N : News h₀ L s.heap ((L + 1 + 1 + 1, oC) :: (pl, listOf pvs np) :: (kfps ks ++ tl))) (T : Top VW (looseW VW []) mean mg mb h₀)
    (hPE : PassesOwn (model Challenge.rw_no0415_01.row.prog w) (callerA.deeper (envOfC (Str.ofString "law") lawSc L a ccd)) (envOfC (Str.ofString "law") lawSc L a ccd) E)(XB : (Mine.hd.heap_39 w.params).In base) (TB : Top VW (looseW VW []) mean mg mb base)
    (P : P14 rest pl (L + 1 + 1 + 1) (ents.map Ent.z) cnt pvs tl ks) (hcE : (L + 1, oE) ∈ rest) (hcF : (L + 1 + 1, oF) ∈ rest) (hcT : (L + 1 + 1 + 1 + 1, oT) ∈ rest) (hcS : (L + 1 + 1 + 1 + 1 + 1, oS) ∈ rest) (hE : oE.data = .cell (some (.ref el))) (hF : oF.data = .cell (some (.ref fl))) (hC : oC.data = .cell vC) (hT : oT.data = .cell vT) (hS5 : oS.data = .cell vS) (hpT : @Ne Nat pl (L + 1 + 1 + 1 + 1)) (hpS : @Ne Nat pl (L + 1 + 1 + 1 + 1 + 1))
    (hl : (el, listOf vs n) ∈ rest) (he : EntsIn rest vs ents) (hf : RowsL rest fl (ents.map Ent.rb) fvs n') (hO : OrdIn rest od) (hn : NumsIn rest nl nvs nn kk) (hok : ∀ e ∈ ents, e.Ok cnt) (hc2 : cnt ≤ 3) (hsz : ents.length ≤ 5) (hpw : ents.Pairwise fun a b => ltL a.fd b.fd = true)
    (e1 : m "nums" = some (.ref nl)) (e2 : m "parts" = some (.ref pl)) (e3 : m "order" = some (.ref od)) (e4 : m "merged" = some (.bool wk)) (e5 : m "upto" = some (.int upto tu)) (e6 : m "low" = some (bndV lo tl9)) (e7 : m "high" = some (bndV hi th9)) (hu0 : 0 ≤ upto) (hu1 : upto ≤ 1099511627776) (hlo : ∀ b, lo = some b → b.size ≤ 8) (hhi : ∀ b, hi = some b → b.size ≤ 8)
    (k : ∀ m' h' tk' led, Fr h₀ L h' m' → News h₀ L h' led → wpAny (model Challenge.rw_no0415_01.row.prog w) (callerA.deeper (envOfC (Str.ofString "law") lawSc L a ccd)) (execs (R) (envOfC (Str.ofString "law") lawSc L a ccd)) Q E { s with heap := h', toks := tk' }) :
    wpAny (model Challenge.rw_no0415_01.row.prog w) (callerA.deeper (envOfC (Str.ofString "law") lawSc L a ccd)) (execs (lawAt 15 :: lawAt 16 :: lawAt 17 :: lawAt 18 :: lawAt 19 :: lawAt 20 :: R) (envOfC (Str.ofString "law") lawSc L a ccd)) Q E s := by
  have hk : ∀ e ∈ ents, e.k ≤ 1 := fun e he => (hok e he).k
  have hsr := ents_sorted hpw hk
  have hzo := ents_pw hpw hk
  have gs := P.grow.sub
  have tE := gs _ hcE
  have tF := gs _ hcF
  have tT := gs _ hcT
  have tS := gs _ hcS
  have Ntl := news_of N (b := tl) fun p hp => .tail _ (.tail _ (List.mem_append_right _ hp))
  have aT := nc_apart Ntl tT hT
  have aS := nc_apart Ntl tS hS5
  have N15 := news_of N (b := (pl, listOf pvs np) :: (L + 1, oE) :: (L + 1 + 1, oF) :: (L + 1 + 1 + 1 + 1, oT) :: (L + 1 + 1 + 1 + 1 + 1, oS) :: (kfps ks ++ nc tl)) fun p hp => by
    rcases List.mem_cons.mp hp with rfl | hp
    · exact .tail _ (.head _)
    · rcases List.mem_cons.mp hp with rfl | hp
      · exact .tail _ (.tail _ (List.mem_append_right _ tE))
      · rcases List.mem_cons.mp hp with rfl | hp
        · exact .tail _ (.tail _ (List.mem_append_right _ tF))
        · rcases List.mem_cons.mp hp with rfl | hp
          · exact .tail _ (.tail _ (List.mem_append_right _ tT))
          · rcases List.mem_cons.mp hp with rfl | hp
            · exact .tail _ (.tail _ (List.mem_append_right _ tS))
            · rcases List.mem_append.mp hp with hp | hp
              · exact .tail _ (.tail _ (List.mem_append_left _ hp))
              · exact .tail _ (.tail _ (List.mem_append_right _ (nc_sub p hp)))
  refine st15 B F X N15 T e2 e3 (.head _) (by have := P.size; omega) ?_
  intro x dx ch tp q tc tg nc' nt tops h1 tk1 hts hdis hfr F1 N1
  refine st16 B F1 X N1 T hF (.tail _ (.tail _ (.tail _ (.tail _ (.tail _ (.tail _ (.head _))))))) ?_
  intro h2 tk2 F2 N2
  obtain ⟨d1, d2, d3, d4, d5, d6⟩ := hdis
  have fE := hfr _ (.tail _ (.head _))
  have fT := hfr _ (.tail _ (.tail _ (.tail _ (.head _))))
  have fS := hfr _ (.tail _ (.tail _ (.tail _ (.tail _ (.head _)))))
  have fK : ∀ p ∈ kfps ks ++ nc tl, p.1 ≠ x ∧ p.1 ≠ dx ∧ p.1 ≠ ch ∧ p.1 ≠ tp := fun p hp => hfr p (.tail _ (.tail _ (.tail _ (.tail _ (.tail _ hp)))))
  have hoff : Off ((dx, MD q ch tp od (-1) tc 0 tg) :: (tp, listOf tops nt) :: kfps ks) ((x, instObj 506 dx) :: (ch, listOf pvs nc') :: (L + 1, oE) :: nc tl) := by
    intro p hp r hr
    rcases List.mem_cons.mp hp with rfl | hp
    · rcases List.mem_cons.mp hr with rfl | hr
      · exact d1
      · rcases List.mem_cons.mp hr with rfl | hr
        · exact fun e => d4 e.symm
        · rcases List.mem_cons.mp hr with rfl | hr
          · exact fE.2.1
          · exact (fK r (List.mem_append_right _ hr)).2.1
    · rcases List.mem_cons.mp hp with rfl | hp
      · rcases List.mem_cons.mp hr with rfl | hr
        · exact d3
        · rcases List.mem_cons.mp hr with rfl | hr
          · exact d6
          · rcases List.mem_cons.mp hr with rfl | hr
            · exact fE.2.2.2
            · exact (fK r (List.mem_append_right _ hr)).2.2.2
      · have hk9 := fK p (List.mem_append_left _ hp)
        rcases List.mem_cons.mp hr with rfl | hr
        · exact fun e => hk9.1 e.symm
        · rcases List.mem_cons.mp hr with rfl | hr
          · exact fun e => hk9.2.2.1 e.symm
          · rcases List.mem_cons.mp hr with rfl | hr
            · exact P.gk p hp _ hcE
            · exact P.offk p hp r (nc_sub r hr)
  have hap : ∀ p ∈ ((dx, MD q ch tp od (-1) tc 0 tg) :: (tp, listOf tops nt) :: kfps ks) ++ ((x, instObj 506 dx) :: (ch, listOf pvs nc') :: (L + 1, oE) :: nc tl), p.1 ≠ L + 1 + 1 + 1 + 1 ∧ p.1 ≠ L + 1 + 1 + 1 + 1 + 1 := by
    intro p hp
    rcases List.mem_append.mp hp with hp | hp
    · rcases List.mem_cons.mp hp with rfl | hp
      · exact ⟨fun e => fT.2.1 e.symm, fun e => fS.2.1 e.symm⟩
      · rcases List.mem_cons.mp hp with rfl | hp
        · exact ⟨fun e => fT.2.2.2 e.symm, fun e => fS.2.2.2 e.symm⟩
        · exact ⟨fun e => P.gk p hp _ hcT e.symm, fun e => P.gk p hp _ hcS e.symm⟩
    · rcases List.mem_cons.mp hp with rfl | hp
      · exact ⟨fun e => fT.1 e.symm, fun e => fS.1 e.symm⟩
      · rcases List.mem_cons.mp hp with rfl | hp
        · exact ⟨fun e => fT.2.2.1 e.symm, fun e => fS.2.2.1 e.symm⟩
        · rcases List.mem_cons.mp hp with rfl | hp
          · exact ⟨Nat.ne_of_lt (Nat.lt_of_lt_of_le (Nat.lt_succ_self _) (Nat.le_succ_of_le (Nat.le_succ _))), Nat.ne_of_lt (Nat.lt_of_lt_of_le (Nat.lt_succ_self _) (Nat.le_succ_of_le (Nat.le_succ_of_le (Nat.le_succ _))))⟩
          · exact ⟨aT p hp, aS p hp⟩
  have sR : ∀ p ∈ nc tl, p ∈ ((x, instObj 506 dx) :: (ch, listOf pvs nc') :: (L + 1, oE) :: nc tl : Led) := fun p hp => .tail _ (.tail _ (.tail _ hp))
  have hM : MergeW LeafC (ents.map Ent.row) ((dx, MD q ch tp od (-1) tc 0 tg) :: (tp, listOf tops nt) :: kfps ks) ((x, instObj 506 dx) :: (ch, listOf pvs nc') :: (L + 1, oE) :: nc tl) x none :=
    mk_merge (w := w) P hc2 hsz hok hzo ((hO.mono gs).nc.mono sR) sR (.head _) (.tail _ (.head _)) hts d5 fun p hp => ⟨(fK p (List.mem_append_left _ hp)).2.1, (fK p (List.mem_append_left _ hp)).2.2.2⟩
  have N3 := news_of N2 (b := (L + 1 + 1 + 1 + 1, oT) :: (L + 1 + 1 + 1 + 1 + 1, oS) :: (((dx, MD q ch tp od (-1) tc 0 tg) :: (tp, listOf tops nt) :: kfps ks) ++ ((x, instObj 506 dx) :: (ch, listOf pvs nc') :: (L + 1, oE) :: nc tl))) fun p hp => by
    rcases List.mem_cons.mp hp with rfl | hp
    · exact .tail _ (.tail _ (.tail _ (.tail _ (.tail _ (.tail _ (.tail _ (.head _)))))))
    · rcases List.mem_cons.mp hp with rfl | hp
      · exact .tail _ (.tail _ (.tail _ (.tail _ (.tail _ (.tail _ (.tail _ (.tail _ (.head _))))))))
      · rcases List.mem_append.mp hp with hp | hp
        · rcases List.mem_cons.mp hp with rfl | hp
          · exact .tail _ (.head _)
          · rcases List.mem_cons.mp hp with rfl | hp
            · exact .tail _ (.tail _ (.tail _ (.head _)))
            · exact .tail _ (.tail _ (.tail _ (.tail _ (.tail _ (.tail _ (.tail _ (.tail _ (.tail _ (List.mem_append_left _ hp)))))))))
        · rcases List.mem_cons.mp hp with rfl | hp
          · exact .head _
          · rcases List.mem_cons.mp hp with rfl | hp
            · exact .tail _ (.tail _ (.head _))
            · rcases List.mem_cons.mp hp with rfl | hp
              · exact .tail _ (.tail _ (.tail _ (.tail _ (.tail _ (.head _)))))
              · exact .tail _ (.tail _ (.tail _ (.tail _ (.tail _ (.tail _ (.tail _ (.tail _ (.tail _ (List.mem_append_right _ hp)))))))))
  clear N N15 N1 N2
  have he3 := (he.mono gs).nc.mono sR
  have hl3 := sR _ (mem_nc (gs _ hl) rfl)
  have hn3 := (hn.mono gs).nc.mono sR
  have hf3 := (hf.mono gs).nc.mono sR
  cases wk with
  | true =>
    refine st17m B F2 X N3 T e4 ?_
    intro h3 tk3 F3 N4
    have spec := mergeW_spec (R := ents.map Ent.row) (leaf_spec w)
    rw [rows_rb] at spec
    exact fin (R := R) B F3 X N4 T hPE XB TB spec hM (by decide) hoff hT hS5 hap hn3 e1 rfl e4 rfl hf3 hE (.tail _ (.tail _ (.head _))) hl3 he3 hsz (fun _ {fp E0 p} u q t a1 a2 a3 a4 a5 => merge_seek hsr hk u q t a1 a2 a3 a4 a5) (fun h => (nomatch h)) k
  | false =>
    refine st17u (el := el) (x := x) (od := od) (upto := upto) (tu := tu) (tl9 := tl9) (th9 := th9) (lo := lo) (hi := hi) B F2 X N3 T e4 rfl e3 e5 e6 e7 hE (.tail _ (.tail _ (List.mem_append_right _ (.tail _ (.tail _ (.head _)))))) (.tail _ (.tail _ (List.mem_append_right _ hl3))) (he3.mono fun p hp => .tail _ (.tail _ (List.mem_append_right _ hp))) hsz ?_
    intro u du q2 tg2 tk9 tv9 rl rvs rn nw m' h3 tk3 g1 g2 g3 g4 g5 g6 g7 g8 g9 g10 F3 N4
    have uf := user_facts (upto := upto) (lo := lo) (hi := hi) hsr hk hu0 hu1 hlo hhi
    have spec := userW_spec (merge_spec (leaf_spec w)) uf
    rw [seen_told hsr (fun e he => (hok e he).u) hk] at g7
    have l1 : ∀ p ∈ ((dx, MD q ch tp od (-1) tc 0 tg) :: (tp, listOf tops nt) :: kfps ks) ++ ((x, instObj 506 dx) :: (ch, listOf pvs nc') :: (L + 1, oE) :: nc tl), p ∈ ((L + 1 + 1 + 1 + 1, oT) :: (L + 1 + 1 + 1 + 1 + 1, oS) :: (((dx, MD q ch tp od (-1) tc 0 tg) :: (tp, listOf tops nt) :: kfps ks) ++ ((x, instObj 506 dx) :: (ch, listOf pvs nc') :: (L + 1, oE) :: nc tl)) : Led) := fun p hp => .tail _ (.tail _ hp)
    generalize hfp : ((dx, MD q ch tp od (-1) tc 0 tg) :: (tp, listOf tops nt) :: kfps ks : Led) = fp at *
    generalize hR0 : ((x, instObj 506 dx) :: (ch, listOf pvs nc') :: (L + 1, oE) :: nc tl : Led) = R0 at *
    have sU : ∀ p ∈ R0, p ∈ ((rl, listOf rvs rn) :: (nw ++ ((u, instObj 611 du) :: R0)) : Led) := fun p hp => .tail _ (List.mem_append_right _ (.tail _ hp))
    have hU : UserS (MergeC LeafC) upto lo hi (ents.map Ent.row) ((du, UD q2 x upto lo hi 0 tg2 false #[] tk9 #[] tv9) :: fp) ((rl, listOf rvs rn) :: (nw ++ ((u, instObj 611 du) :: R0))) u none :=
      .mk du x true q2 none 0 tg2 false #[] tk9 #[] tv9 fp ((merge_spec (leaf_spec w)).mono hM sU) (fun p hp => (g2 p (l1 p (List.mem_append_left _ hp))).2) (.tail _ (List.mem_append_right _ (.head _))) rfl
    have hoffU : Off ((du, UD q2 x upto lo hi 0 tg2 false #[] tk9 #[] tv9) :: fp) ((rl, listOf rvs rn) :: (nw ++ ((u, instObj 611 du) :: R0))) := by
      intro p hp r hr
      rcases List.mem_cons.mp hp with rfl | hp
      · rcases List.mem_cons.mp hr with rfl | hr
        · exact fun e => g5 e.symm
        · rcases List.mem_append.mp hr with hr | hr
          · exact fun e => (g6 r hr).2.2 e.symm
          · rcases List.mem_cons.mp hr with rfl | hr
            · exact g1
            · exact (g2 r (l1 r (List.mem_append_right _ hr))).2
      · have hp2 := l1 p (List.mem_append_left _ hp)
        rcases List.mem_cons.mp hr with rfl | hr
        · exact fun e => g3 p hp2 e.symm
        · rcases List.mem_append.mp hr with hr | hr
          · exact fun e => (g6 r hr).1 p hp2 e.symm
          · rcases List.mem_cons.mp hr with rfl | hr
            · exact fun e => (g2 p hp2).1 e.symm
            · exact hoff p hp r hr
    have hapU : ∀ p ∈ ((du, UD q2 x upto lo hi 0 tg2 false #[] tk9 #[] tv9) :: fp) ++ ((rl, listOf rvs rn) :: (nw ++ ((u, instObj 611 du) :: R0))), p.1 ≠ L + 1 + 1 + 1 + 1 ∧ p.1 ≠ L + 1 + 1 + 1 + 1 + 1 := by
      have mT := g2 (L + 1 + 1 + 1 + 1, oT) (.head _)
      have mS := g2 (L + 1 + 1 + 1 + 1 + 1, oS) (.tail _ (.head _))
      have rT := g3 (L + 1 + 1 + 1 + 1, oT) (.head _)
      have rS := g3 (L + 1 + 1 + 1 + 1 + 1, oS) (.tail _ (.head _))
      intro p hp
      rcases List.mem_append.mp hp with hp | hp
      · rcases List.mem_cons.mp hp with rfl | hp
        · exact ⟨fun e => mT.2 e.symm, fun e => mS.2 e.symm⟩
        · exact hap p (List.mem_append_left _ hp)
      · rcases List.mem_cons.mp hp with rfl | hp
        · exact ⟨fun e => rT e.symm, fun e => rS e.symm⟩
        · rcases List.mem_append.mp hp with hp | hp
          · exact ⟨fun e => (g6 p hp).1 _ (.head _) e.symm, fun e => (g6 p hp).1 _ (.tail _ (.head _)) e.symm⟩
          · rcases List.mem_cons.mp hp with rfl | hp
            · exact ⟨fun e => mT.1 e.symm, fun e => mS.1 e.symm⟩
            · exact hap p (List.mem_append_right _ hp)
    have hcE3 : (L + 1, oE) ∈ R0 := by rw [← hR0]; exact .tail _ (.tail _ (.head _))
    refine fin (R := R) (fp := (du, UD q2 x upto lo hi 0 tg2 false #[] tk9 #[] tv9) :: fp) (R0 := (rl, listOf rvs rn) :: (nw ++ ((u, instObj 611 du) :: R0))) B F3 X (news_of N4 fun p hp => ?_) T hPE XB TB spec hU (by decide) hoffU hT hS5 hapU (hn3.mono sU) ((g8 "nums" (by decide) (by decide)).trans e1) g9 ((g8 "merged" (by decide) (by decide)).trans e4) g10 (g7.mono fun p hp => ?_) hE (sU _ hcE3) (sU _ hl3) (he3.mono sU) hsz (fun h => (nomatch h)) (fun _ {fp E0 p} u t a1 a2 a3 a4 => user_seek2 uf u t a1 a2 a3 a4) k
    · rcases List.mem_cons.mp hp with rfl | hp
      · exact .tail _ (List.mem_append_right _ (.tail _ (.tail _ (.head _))))
      · rcases List.mem_cons.mp hp with rfl | hp
        · exact .tail _ (List.mem_append_right _ (.tail _ (.tail _ (.tail _ (.head _)))))
        · rcases List.mem_append.mp hp with hp | hp
          · rcases List.mem_cons.mp hp with rfl | hp
            · exact .tail _ (List.mem_append_right _ (.tail _ (.head _)))
            · exact .tail _ (List.mem_append_right _ (.tail _ (.tail _ (l1 p (List.mem_append_left _ hp)))))
          · rcases List.mem_cons.mp hp with rfl | hp
            · exact .head _
            · rcases List.mem_append.mp hp with hp | hp
              · exact .tail _ (List.mem_append_left _ hp)
              · rcases List.mem_cons.mp hp with rfl | hp
                · exact .tail _ (List.mem_append_right _ (.head _))
                · exact .tail _ (List.mem_append_right _ (.tail _ (.tail _ (l1 p (List.mem_append_right _ hp)))))
    · rcases List.mem_cons.mp hp with rfl | hp
      · exact .head _
      · exact .tail _ (List.mem_append_left _ hp)
end
open PySem PySem.W PyProof.Rows PySem.Spec
set_option maxRecDepth 100000
theorem lawTail2 : lawTail 2 = lawAt 2 :: lawAt 3 :: lawAt 4 :: lawAt 5 :: lawAt 6 :: lawAt 7 :: lawAt 8 :: lawAt 9 :: lawAt 10 :: lawAt 11 :: lawAt 12 :: lawAt 13 :: lawAt 14 :: lawAt 15 :: lawAt 16 :: lawAt 17 :: lawAt 18 :: lawAt 19 :: lawAt 20 :: lawTail 21 := rfl
section
variable {w : World} {A₀ : Around} {base h₀ : Heap} {L a : Addr} {ccd : Value} {m mg mb : Str → Option Value} {mean : ExcName → Option Value} {s : Shared} {rest led : Led} {Q : Flow → Shared → Prop} {E : Value → Shared → Prop} {R : List Stmt}
set_option maxHeartbeats 8000000 in
theorem glue {nl : Addr} {vs : Array Value} {n kk : Nat} {oE oF oC oT oS : Obj} {vE vF vC vT vS : Option Value} {led0 : Led} (B : Below A₀ base [] h₀) (F : Fr h₀ L s.heap m) (X : (Mine.hd.heap_39 w.params).In h₀) (N : News h₀ L s.heap ((L + 1, oE) :: (L + 1 + 1, oF) :: (L + 1 + 1 + 1, oC) :: (L + 1 + 1 + 1 + 1, oT) :: (L + 1 + 1 + 1 + 1 + 1, oS) :: led0)) (T : Top VW (looseW VW []) mean mg mb h₀) (hPE : PassesOwn (model Challenge.rw_no0415_01.row.prog w) (callerA.deeper (envOfC (Str.ofString "law") lawSc L a ccd)) (envOfC (Str.ofString "law") lawSc L a ccd) E)
    (XB : (Mine.hd.heap_39 w.params).In base) (TB : Top VW (looseW VW []) mean mg mb base) (hE : oE.data = .cell vE) (hF : oF.data = .cell vF) (hC : oC.data = .cell vC) (hT : oT.data = .cell vT) (hS : oS.data = .cell vS) (hap1 : ∀ p ∈ led0, p.1 ≠ L + 1) (hn : NumsIn led0 nl vs n kk) (e1 : m "nums" = some (.ref nl))
    (k : ∀ m' h' tk' led, Fr h₀ L h' m' → News h₀ L h' led → wpAny (model Challenge.rw_no0415_01.row.prog w) (callerA.deeper (envOfC (Str.ofString "law") lawSc L a ccd)) (execs (lawTail 21) (envOfC (Str.ofString "law") lawSc L a ccd)) Q E { s with heap := h', toks := tk' }) :
    wpAny (model Challenge.rw_no0415_01.row.prog w) (callerA.deeper (envOfC (Str.ofString "law") lawSc L a ccd)) (execs (lawTail 2) (envOfC (Str.ofString "law") lawSc L a ccd)) Q E s := by
  rw [lawTail2]
  refine st234 B F X N T (hn.mono fun p hp => .tail _ (.tail _ (.tail _ (.tail _ (.tail _ hp))))) e1 ?_
  intro z tz wk cnt tc m1 h1 tk1 hz0 hz1 hc0 hc3 hm1 x1 x2 x3 F1 N1
  refine st5 B F1 X N1 T x1 hz0 hz1 ?_
  intro uv ut h2 tk2 hu0 hu1 F2 N2
  refine st6 B F2 X N2 T x1 hz0 hz1 ?_
  intro lo lt9 h3 tk3 hlo F3 N3
  refine st7 B F3 X N3 T x1 hz0 hz1 ?_
  intro hi ht9 h4 tk4 hhi F4 N4
  have hr8 : ∀ p ∈ ((L + 1 + 1, oF) :: (L + 1 + 1 + 1, oC) :: (L + 1 + 1 + 1 + 1, oT) :: (L + 1 + 1 + 1 + 1 + 1, oS) :: led0 : Led), p.1 ≠ L + 1 := fun p hp => by
    rcases List.mem_cons.mp hp with rfl | hp
    · exact (Nat.ne_of_lt (show @LT.lt Nat _ (L + 1) (L + 1 + 1) by omega)).symm
    · rcases List.mem_cons.mp hp with rfl | hp
      · exact (Nat.ne_of_lt (show @LT.lt Nat _ (L + 1) (L + 1 + 1 + 1) by omega)).symm
      · rcases List.mem_cons.mp hp with rfl | hp
        · exact (Nat.ne_of_lt (show @LT.lt Nat _ (L + 1) (L + 1 + 1 + 1 + 1) by omega)).symm
        · rcases List.mem_cons.mp hp with rfl | hp
          · exact (Nat.ne_of_lt (show @LT.lt Nat _ (L + 1) (L + 1 + 1 + 1 + 1 + 1) by omega)).symm
          · exact hap1 p hp
  refine st8 (rest := (L + 1 + 1, oF) :: (L + 1 + 1 + 1, oC) :: (L + 1 + 1 + 1 + 1, oT) :: (L + 1 + 1 + 1 + 1 + 1, oS) :: led0) B F4 X N4 T hE hr8 ?_
  intro el oE' k0 h5 tk5 dE hLe hlt F5 N5
  refine st9 (el := el) (rest := (L + 1 + 1, oF) :: (L + 1 + 1 + 1, oC) :: (L + 1 + 1 + 1 + 1, oT) :: (L + 1 + 1 + 1 + 1 + 1, oS) :: led0) B F5 X N5 T hPE (hn.mono fun p hp => .tail _ (.tail _ (.tail _ (.tail _ hp)))) ((hm1 "nums" (by decide) (by decide) (by decide)).trans e1) x3 hc0 hc3 dE hLe hr8 hlt ?_
  intro ws n' tl ents m6 h6 tk6 J9 hm6 F6 N6
  have hr10 : ∀ p ∈ ((el, listOf ws n') :: tl : Led), p.1 ≠ L + 1 := fun p hp => by
    rcases List.mem_cons.mp hp with rfl | hp
    · exact (Nat.ne_of_lt hLe).symm
    · exact (J9.off p hp).2
  refine st10 (el := el) (vs := ws) (n := n') (ents := ents) (led := (el, listOf ws n') :: tl) B F6 X (news_of N6 fun p hp => ?_) T dE (.head _) hr10 (J9.inn.mono fun p hp => .tail _ hp) (J9.some (by decide)) J9.len J9.pw ?_
  · rcases List.mem_cons.mp hp with rfl | hp
    · exact .tail _ (.head _)
    · rcases List.mem_cons.mp hp with rfl | hp
      · exact .head _
      · exact .tail _ (.tail _ hp)
  intro D oE2 c2 vs2 ents2 h7 tk7 dE2 gl gm gpw gin gD1 gD2 F7 N7
  refine st11 B F7 X N7 T ?_
  intro od led11 h8 tk8 hO hs11 hn11 F8 N8
  have htl : ∀ p ∈ tl, p ∈ led11 := fun p hp => hs11 p (.tail _ (.tail _ (.tail _ hp)))
  have mE := hs11 _ (.tail _ (.head _))
  have mF := htl _ (J9.sub _ (.head _))
  have mC := htl _ (J9.sub _ (.tail _ (.head _)))
  have mT := htl _ (J9.sub _ (.tail _ (.tail _ (.head _))))
  have mS := htl _ (J9.sub _ (.tail _ (.tail _ (.tail _ (.head _)))))
  have aF := nc_apart N8 mF hF
  have hok2 : ∀ e ∈ ents2, e.Ok cnt := fun e he => J9.ok e (gm e he)
  have hsz2 : ents2.length ≤ 5 := by rw [gl]; exact J9.len
  have gin2 : EntsIn (nc led11) vs2 ents2 := (gin.mono fun p hp => hs11 p (.tail _ (.tail _ hp))).nc
  have hn2 : NumsIn (nc led11) nl vs n kk := (hn.mono fun p hp => htl _ (J9.sub _ (.tail _ (.tail _ (.tail _ (.tail _ hp)))))).nc
  have sub4 : ∀ p ∈ nc led11, p ∈ ((L + 1, oE2) :: (L + 1 + 1 + 1, oC) :: (L + 1 + 1 + 1 + 1, oT) :: (L + 1 + 1 + 1 + 1 + 1, oS) :: nc led11 : Led) := fun p hp => .tail _ (.tail _ (.tail _ (.tail _ hp)))
  refine st12 (el := D) (vs := vs2) (n := c2) (ents := ents2) (cnt := cnt) (oE := oE2) (oF := oF) (led := (L + 1, oE2) :: (L + 1 + 1 + 1, oC) :: (L + 1 + 1 + 1 + 1, oT) :: (L + 1 + 1 + 1 + 1 + 1, oS) :: nc led11) B F8 X (news_of N8 fun p hp => ?_) T dE2 (.head _) hF (sub4 _ (mem_nc (hs11 _ (.head _)) rfl)) (fun p hp => ?_) (gin2.mono sub4) hok2 hsz2 ?_
  · rcases List.mem_cons.mp hp with rfl | hp
    · exact mF
    · rcases List.mem_cons.mp hp with rfl | hp
      · exact mE
      · rcases List.mem_cons.mp hp with rfl | hp
        · exact mC
        · rcases List.mem_cons.mp hp with rfl | hp
          · exact mT
          · rcases List.mem_cons.mp hp with rfl | hp
            · exact mS
            · exact nc_sub p hp
  · rcases List.mem_cons.mp hp with rfl | hp
    · exact Nat.ne_of_lt (show @LT.lt Nat _ (L + 1) (L + 1 + 1) by omega)
    · rcases List.mem_cons.mp hp with rfl | hp
      · exact (Nat.ne_of_lt (show @LT.lt Nat _ (L + 1 + 1) (L + 1 + 1 + 1) by omega)).symm
      · rcases List.mem_cons.mp hp with rfl | hp
        · exact (Nat.ne_of_lt (show @LT.lt Nat _ (L + 1 + 1) (L + 1 + 1 + 1 + 1) by omega)).symm
        · rcases List.mem_cons.mp hp with rfl | hp
          · exact (Nat.ne_of_lt (show @LT.lt Nat _ (L + 1 + 1) (L + 1 + 1 + 1 + 1 + 1) by omega)).symm
          · exact aF p hp
  intro fl oF2 led12 fvs n12 h9 tk9 dF2 hG hap12 hfL F9 N9
  refine st13 B F9 X N9 T ?_
  intro pl h10 tk10 hpl F10 N10
  have N12 := news_of N10 (b := led12) fun p hp => .tail _ (.tail _ hp)
  have qE := hG.sub _ (.head _)
  have qC := hG.sub _ (.tail _ (.head _))
  have qT := hG.sub _ (.tail _ (.tail _ (.head _)))
  have qS := hG.sub _ (.tail _ (.tail _ (.tail _ (.head _))))
  have aC := nc_apart N12 qC hC
  have s12 : ∀ p ∈ nc led11, p ∈ led12 := fun p hp => hG.sub p (sub4 p hp)
  have s14 : ∀ p ∈ nc led12, p ∈ ((L + 1, oE2) :: (L + 1 + 1, oF2) :: (L + 1 + 1 + 1 + 1, oT) :: (L + 1 + 1 + 1 + 1 + 1, oS) :: nc led12 : Led) := fun p hp => .tail _ (.tail _ (.tail _ (.tail _ hp)))
  have hO12 : OrdIn ((L + 1, oE2) :: (L + 1 + 1, oF2) :: (L + 1 + 1 + 1 + 1, oT) :: (L + 1 + 1 + 1 + 1 + 1, oS) :: nc led12) od := ((hO.nc.mono s12).nc).mono s14
  have he14 : EntsIn ((L + 1, oE2) :: (L + 1 + 1, oF2) :: (L + 1 + 1 + 1 + 1, oT) :: (L + 1 + 1 + 1 + 1 + 1, oS) :: nc led12) vs2 ents2 := ((gin2.mono s12).nc).mono s14
  have hn14 : NumsIn ((L + 1, oE2) :: (L + 1 + 1, oF2) :: (L + 1 + 1 + 1 + 1, oT) :: (L + 1 + 1 + 1 + 1 + 1, oS) :: nc led12) nl vs n kk := ((hn2.mono s12).nc).mono s14
  have hl14 : (D, listOf vs2 c2) ∈ ((L + 1, oE2) :: (L + 1 + 1, oF2) :: (L + 1 + 1 + 1 + 1, oT) :: (L + 1 + 1 + 1 + 1 + 1, oS) :: nc led12 : Led) := s14 _ (mem_nc (s12 _ (mem_nc (hs11 _ (.head _)) rfl)) rfl)
  have hpE : @LT.lt Nat _ (L + 1) pl := hpl _ (.tail _ qE)
  have hpF : @LT.lt Nat _ (L + 1 + 1) pl := hpl _ (.head _)
  have hpC : @LT.lt Nat _ (L + 1 + 1 + 1) pl := hpl _ (.tail _ qC)
  have hpT : @LT.lt Nat _ (L + 1 + 1 + 1 + 1) pl := hpl _ (.tail _ qT)
  have hpS : @LT.lt Nat _ (L + 1 + 1 + 1 + 1 + 1) pl := hpl _ (.tail _ qS)
  refine st14 (n0 := 0) (el := D) (fl := fl) (pl := pl) (od := od) (vs := vs2) (n := c2) (fvs := fvs) (n' := n12) (cnt := cnt) (ents := ents2) (oE := oE2) (oF := oF2) (oC := oC) (rest := (L + 1, oE2) :: (L + 1 + 1, oF2) :: (L + 1 + 1 + 1 + 1, oT) :: (L + 1 + 1 + 1 + 1 + 1, oS) :: nc led12) B F10 X (news_of N10 fun p hp => ?_) T hPE rfl ((hm6 "count" (by decide) (by decide) (by decide) (by decide)).trans x3) rfl hc3 dE2 (.head _) dF2 (.tail _ (.head _)) hC (fun p hp => ?_) (Nat.ne_of_gt hpC) hl14 he14 (hfL.nc.mono s14) hO12 hok2 hsz2 (ents_pw gpw fun e he => (hok2 e he).k) ?_
  · rcases List.mem_cons.mp hp with rfl | hp
    · exact .tail _ (.tail _ qC)
    · rcases List.mem_cons.mp hp with rfl | hp
      · exact .head _
      · rcases List.mem_cons.mp hp with rfl | hp
        · exact .tail _ (.tail _ qE)
        · rcases List.mem_cons.mp hp with rfl | hp
          · exact .tail _ (.head _)
          · rcases List.mem_cons.mp hp with rfl | hp
            · exact .tail _ (.tail _ qT)
            · rcases List.mem_cons.mp hp with rfl | hp
              · exact .tail _ (.tail _ qS)
              · exact .tail _ (.tail _ (nc_sub p hp))
  · rcases List.mem_cons.mp hp with rfl | hp
    · exact ⟨Nat.ne_of_lt hpE, Nat.ne_of_lt (show @LT.lt Nat _ (L + 1) (L + 1 + 1 + 1) by omega)⟩
    · rcases List.mem_cons.mp hp with rfl | hp
      · exact ⟨Nat.ne_of_lt hpF, Nat.ne_of_lt (show @LT.lt Nat _ (L + 1 + 1) (L + 1 + 1 + 1) by omega)⟩
      · rcases List.mem_cons.mp hp with rfl | hp
        · exact ⟨Nat.ne_of_lt hpT, (Nat.ne_of_lt (show @LT.lt Nat _ (L + 1 + 1 + 1) (L + 1 + 1 + 1 + 1) by omega)).symm⟩
        · rcases List.mem_cons.mp hp with rfl | hp
          · exact ⟨Nat.ne_of_lt hpS, (Nat.ne_of_lt (show @LT.lt Nat _ (L + 1 + 1 + 1) (L + 1 + 1 + 1 + 1 + 1) by omega)).symm⟩
          · exact ⟨Nat.ne_of_lt (hpl p (.tail _ (nc_sub p hp))), aC p hp⟩
  intro pvs np oC2 vC2 tl2 ks m11 h11 tk11 P hm11 dC2 F11 N11
  have g : ∀ y : Str, y ≠ "mine" → y ≠ "parts" → y ≠ "order" → y ≠ "i" → y ≠ "x" → y ≠ "kind" → y ≠ "head" → y ≠ "high" → y ≠ "low" → y ≠ "upto" → m11 y = m1 y := fun y a1 a2 a3 a4 a5 a6 a7 a8 a9 a10 => by
    rw [hm11 y a1]
    simp only [if_neg a2, if_neg a3]
    rw [hm6 y a4 a5 a6 a7]
    simp only [if_neg a8, if_neg a9, if_neg a10]
  exact glueB (wk := wk) B F11 X N11 T hPE XB TB P (.head _) (.tail _ (.head _)) (.tail _ (.tail _ (.head _))) (.tail _ (.tail _ (.tail _ (.head _)))) dE2 dF2 dC2 hT hS (Nat.ne_of_gt hpT) (Nat.ne_of_gt hpS) hl14 he14 (hfL.nc.mono s14) hO12 hn14 hok2 hc3 hsz2 gpw
    ((g "nums" (by decide) (by decide) (by decide) (by decide) (by decide) (by decide) (by decide) (by decide) (by decide) (by decide)).trans ((hm1 "nums" (by decide) (by decide) (by decide)).trans e1))
    ((hm11 "parts" (by decide)).trans rfl) ((hm11 "order" (by decide)).trans rfl)
    ((g "merged" (by decide) (by decide) (by decide) (by decide) (by decide) (by decide) (by decide) (by decide) (by decide) (by decide)).trans x2)
    ((hm11 "upto" (by decide)).trans ((hm6 "upto" (by decide) (by decide) (by decide) (by decide)).trans rfl))
    ((hm11 "low" (by decide)).trans ((hm6 "low" (by decide) (by decide) (by decide) (by decide)).trans rfl))
    ((hm11 "high" (by decide)).trans ((hm6 "high" (by decide) (by decide) (by decide) (by decide)).trans rfl))
    hu0 hu1 hlo hhi k
end
end Mine
namespace Mine
open PySem PySem.W PyProof.Rows PySem.Spec
set_option maxRecDepth 100000
local macro_rules | `(tactic| omega) => `(tactic| lia)
set_option hygiene false in
local macro_rules | `(tactic| obtain $p:rcasesPatMed := $e) => `(tactic| (refine Mine.hide ?_; intro G0 hG0; rcases $e:term with $p:rcasesPatMed <;> (refine hG0 ?_; clear hG0 G0)))
set_option hygiene false in
local macro_rules | `(tactic| obtain $p:rcasesPatMed : $t := $e) => `(tactic| (refine Mine.hide ?_; intro G0 hG0; rcases ($e : $t) with $p:rcasesPatMed <;> (refine hG0 ?_; clear hG0 G0)))
set_option hygiene false in
local macro_rules | `(tactic| obtain rfl : $t := $e) => `(tactic| (rcases ($e : $t) with rfl))
set_option hygiene false in
local macro_rules | `(tactic| walk_at "eval Name") => `(tactic| (k_dflt (refine' nameX_L ?F ?v ?_ ?a ?b; (case b => rfl); (case F => k_asm); (case a => rfl); (case v => first | exact rfl | assumption | exact hm0 _ _ rfl); k_whole)))
set_option hygiene false in
local macro_rules | `(tactic| fail "st") => `(tactic| (first | (k_unfold; (try dsimp only)) | walk1 | (dsimp only; walk1) | (leave1; walk_say "STEP leave1"; (try dsimp only)) | fail "no step"))
set_option hygiene false in
local macro_rules | `(tactic| k_all) => `(tactic| (first | assumption | exact Mine.all_nil | (refine' Mine.all_cons ?xx ?yy; (case xx => k_ne); (case yy => k_all))))
set_option hygiene false in
local macro_rules | `(tactic| k_mem) => `(tactic| assumption)
set_option hygiene false in
local macro_rules | `(tactic| walk_at "eval Call Attribute") => `(tactic| refine PyProof.Rows.MethodCall_ ?_)
set_option hygiene false in
local macro_rules | `(tactic| fail "n21") => `(tactic| (first | (with_reducible show wpAny _ _ (execs (PySem.Stmt.Assign [PySem.Expr.Name (PySem.Str.ofString "setup") _] _ _ :: _) _) _ _ _)))
set_option hygiene false in
local macro_rules | `(tactic| walk_at "mine stepsX") => `(tactic| repeat' (first | ((fail_if_success (fail "n21")); fail "st")))
theorem reordA {h₀ h : Heap} {L : Addr} {a b c s5 s4 s3 s2 s1 : Addr × Obj} (N : News h₀ L h [a, b, c, s5, s4, s3, s2, s1]) : News h₀ L h [s1, s2, s3, s4, s5, a] := news_of N fun p hp => by
  simp only [List.mem_cons, List.not_mem_nil, or_false] at hp ⊢
  rcases hp with h | h | h | h | h | h <;> simp [h]
theorem reordB {h₀ h : Heap} {L : Addr} {a c s5 s4 s3 s2 s1 : Addr × Obj} (N : News h₀ L h [a, c, s5, s4, s3, s2, s1]) : News h₀ L h [s1, s2, s3, s4, s5, a] := news_of N fun p hp => by
  simp only [List.mem_cons, List.not_mem_nil, or_false] at hp ⊢
  rcases hp with h | h | h | h | h | h <;> simp [h]
theorem ap_one {h₀ h : Heap} {L c : Addr} {o : Obj} {v : Option Value} {p1 p2 p3 p4 a : Addr × Obj} (N : News h₀ L h [(c, o), p1, p2, p3, p4, a]) (hd : o.data = .cell v) (ha : isCell a.2 = false) : ∀ p ∈ [a], p.1 ≠ c := fun p hp => by
  rw [List.mem_singleton.mp hp]
  exact nc_apart N (.head _) hd a (mem_nc (by simp) ha)
theorem nums_one {nl : Addr} {t : Tok} {n : Nat} : NumsIn [(nl, listOf #[Value.int 9 t] n)] nl #[Value.int 9 t] n 1 :=
  ⟨.head _, rfl, by decide, by decide, fun i v hi => by
    match i, hi with
    | 0, hi => cases hi; exact ⟨9, t, rfl, by decide, by decide⟩
    | i + 1, hi => simp at hi⟩
theorem nums_all {nl : Addr} {ys : List Value} {sc : List Int} (hi : IntsAre ys (List.map (fun k => k.fmod 999983) (List.take 12 sc))) (h0 : ys.length ≠ 0) : NumsIn [(nl, listOf ys.toArray ys.length)] nl ys.toArray ys.length ys.length := by
  have hl := hi.length
  rw [List.length_map, List.length_take] at hl
  refine ⟨.head _, by simp, by omega, by omega, fun i v hv => ?_⟩
  obtain ⟨x, t, rfl, hx⟩ := hi.at i v (by simpa using hv)
  rw [List.getElem?_map] at hx
  obtain ⟨z, _, hz⟩ := Option.map_eq_some_iff.mp hx
  subst hz
  exact ⟨_, t, rfl, Int.fmod_nonneg_of_pos _ (by decide), Int.fmod_lt_of_pos _ (by decide)⟩
set_option hygiene false in
local macro_rules | `(tactic| walk_at "mine open21") => `(tactic| ((conv in (occs := *) lawSc => all_goals whnf); (conv in (lawTail _) => whnf)))
set_option maxHeartbeats 8000000 in
theorem foo : PySem.Challenge.rw_no0415_01.Holds := Mine.hd (by
  k_go0
  all_goals (try k_fold)
  walk_at "mine stepsX"
  all_goals
    rename Fr _ _ _ _ => FF
    rename News _ _ _ _ => NN
  · have N2 := reordA NN
    refine glue (n := 0) (kk := 1) (by assumption) FF (by assumption) N2 (by assumption) (by passes_own) (by assumption) (by assumption) (by assumption) (by assumption) (by assumption) (by assumption) (by assumption) (ap_one N2 (by assumption) rfl) nums_one rfl ?_
    clear FF NN N2
    intro m' h' tk' led F' N'
    walk_at "mine open21"
    k_steps
  · have N2 := reordB NN
    rename (_ : Int) ≠ 0 => h0
    refine glue (by assumption) FF (by assumption) N2 (by assumption) (by passes_own) (by assumption) (by assumption) (by assumption) (by assumption) (by assumption) (by assumption) (by assumption) (ap_one N2 (by assumption) rfl) (nums_all (by assumption) (by have hl8 := ‹List.length _ = List.length _›; omega)) rfl ?_
    clear FF NN N2
    intro m' h' tk' led F' N'
    walk_at "mine open21"
    k_steps)
end Mine
set_option maxRecDepth 100000 in
set_option maxHeartbeats 8000000 in
theorem PySem.Challenge.cw_no0415_01_holds : PySem.Challenge.rw_no0415_01.Holds := by
  exact Mine.foo
