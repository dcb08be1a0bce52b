import PyProof.Rows.All
import Wide.All
import OpenK.AllK
import Wide.FinOn
import PyProof.Rows.MaxTwoN
import KE.LcTurns
import KE.KLcTest
import KE.KSliceW
import KE.KSortTup
import Lean
import PySem.Challenge.RW_no0415_02
set_option Elab.async false
set_option linter.all false
section
open PySem.W.S
local macro_rules | `(universe $xs*) => do return Lean.mkNullNode (← xs.mapM fun x => `(name_quick $x for findZ by findZ_eq))
universe tw731639361931675821 tw8886060185321712428 tw18003838903138870177 tw12720074488319991844 tw16161577474301301655 tw8075568018651887793 tw1524618649015135228 tw7370013457144220937 tw2826521108475653482 tw8145943149838271958 tw14979626087600564940 tw12152520270820667787 tw1309107185065388718 tw5150936880511922699 tw13479600455187215721 tw1065505535016073661 tw3345107109950449737 tw14096952598973939363 tw16742499929480997689 tw15587867472590373358 tw15344925407182087593 tw6889808747069210229 tw10250732866820691176 tw6988704321522420823 tw7574553109774388169 tw17815586953681464072 tw17999629351026575895 tw383478444716035976 tw14289078867681016318 tw10042830170769951172 tw14112274594779413971 tw13640514254501968386 tw17846936440860909165 tw6242409422312979302 tw10706342367453228570 tw8595292554425487202 tw8658103293671471659 tw2719445374943340272 tw4558998842232669794 tw16280195873916505411 tw6832808476680081064 tw5923252988546675246 tw6466090261432230078 tw17020146562604978829 tw11036193050239951465 tw17045043414572947948 tw8777329075199875621 tw18188234029961486008 tw6214688769961185500 tw15965015591981942514 tw3470799630455053000 tw3865406201487662470 tw13951257522405164796 tw2364824441312284604 tw2951486255847992690 tw13236226663087606529 tw13102660428377437172 tw16289391198768371057 tw8999186272805695465 tw3953757239420563355 tw3386650904741475044 tw3695515675974049574 tw17172517015917474193 tw10885399304501877467 tw6090905460779295987 tw7344376507651311505 tw10138199336372458610 tw15207642765257501584 tw503676674663206642 tw13251646731365433171 tw13746126617404028095 tw13809362725867891129 tw4405960384096086239 tw15423634916342008072 tw12945968074294007009 tw7286323032743288035 tw12821735335276811757 tw9676229304581654039 tw12832477231654346042 tw15315713394281565010 tw11328821685186248670 tw2193789692954389824 tw15560853006256673968 tw6123655918767846522 tw8732485361984058174 tw6519424955469430661 tw6250672158363226905 tw6426273055680023932 tw10057510723706494237 tw10819683100428557426 tw10308316962582663543 tw6967401301877209104 tw14323765505736481980 tw313226197891681235 tw10030586065758793078 tw2759451637364818457 tw12182807814244774211 tw3436264866546951355 tw7503421922109321716 tw7094674258960923220 tw17520869792638436183 tw14168537005229113720 tw8802822988693486460 tw18371169792594650754 tw3698559305507148144 tw14186486079044719983 tw9082586571710850966 tw17230556039016184743 tw6148621092414575339 tw8224813933742928703 tw196644378293983589 tw1869930749605803152 tw1763209079605825380 tw17001327861769816259 tw4109823476700235019 tw15773981995205291829 tw7585139358526817783 tw15034313371233782410 tw17026713947507217902 tw9413167413068371254 tw11838138170533393997 tw7469732015759309437 tw16417370028952169744 tw15806122291839087668 tw16349804527192203551 tw9407582987413476825 tw16950312913027304927 tw8385612375773290118 tw11682084944484805031 tw15902184279288820625 tw9720828393056574044 tw2460228577881660442 tw11636919720809706868 tw15261043813070345055 tw2948108419219029167 tw13335737130258781183 tw11796506867022685745 tw716658179208862652 tw9300948228871686676 tw8047484207015712433 tw17341736924252097559 tw2627984346626558326 tw5349121933718820234 tw17964007177503468958 tw3619232141914619222 tw13254397897704925713 tw282004115355043989 tw16350708796919097252 tw15263041282635125899 tw4658958612460137192 tw117213463901210413 tw10938465397075749097 tw9206804518496725263 tw12022618010286034681 tw6144853644547557980 tw2922074901204462755 tw14223099787259518943 tw8537084889766193716 tw18011898689540126615 tw1962928258387122110 tw9491899386500264472 tw13145125596335152023 tw7581816359482902497 tw6213141578215901147 tw4287028408620065468 tw17888162413812561239 tw8555734327229750603 tw13678640442995254988 tw6012508502120743258 tw4933834842325187142 tw14981143343336467331 tw4978915544186085027 tw5646442142991981755 tw4613930686462287906 tw17164873540382356111 tw4527066259768149269 tw11964429278604863157 tw4407734736301137906 tw14766643958189025262 tw5697894365363955025 tw12647630874787467225 tw1574873078441994576 tw9529234661008812162 tw17804436615005485693 tw17325535178939296128 tw17954736447514056666 tw16432479971616331241 tw3577408171920636059 tw2408619945344806742 tw17071476683966804577 tw5854881644878751223 tw148260917463534702 tw10317580896714288900 tw4434333111790514575 tw15560500314895047343 tw2447775223705975068 tw7392212959928792091 tw12172078356533094185 tw7802139600951554647 tw6122645084068987007 tw5396446701170858492 tw8642067239939848140 tw16180582048198870337 tw4936483359421988267 tw8800560270773162519 tw10323183001455561277 tw14224011070414065920 tw5135500740108067664 tw16328912562034613984 tw16942504070071679284 tw15450981722951097364 tw11707371222683016368 tw11186114360453789277 tw18123110421147349612 tw10181792811725400092 tw4075660801711882420 tw9787463984185863102 tw13559156169165276386 tw7035115661146626270 tw12734952128020822468 tw2039238271031011813 tw3880421473898291048 tw724751600484774222 tw9376109419431680627 tw16644606511662114574 tw9763268239775435451 tw7401281599722004195 tw14185684948912167051 tw13759679279233594173 tw4679858250743294509 tw15195428891847259777 tw325292655437039998 tw16966814322356759819 tw4224760802259116069 tw15663404670287596823 tw11310463157757771331 tw11277716924127702174 tw17111948838632640456 tw11333186260410459676 tw8987815912523675519 tw5701610774189311196 tw7670514497116975361 tw6127375697748050860 tw16049961110935095269 tw7788680626742099145 tw14537914154153760125 tw8376441433122354887 tw1829445100760108279 tw8719427161674164953 tw17975652961387846372 tw6380047634161181297 tw6550987210724342151 tw12659028871203227004 tw15980859228951719591 tw10205541121877940668 tw9305782018832362445 tw14214133299417103183 tw3152983702415266003 tw9467589175468403638 tw1702518465993881591 tw17476080006546285661 tw18056578402003937789 tw16374537267813192141 tw3442601649717412197 tw17828083071136270317 tw17803129079492736432 tw14285029430470858289 tw12290603225136948437 tw3282434896037501709 tw1189734492583310 tw17554001833073541016 tw18220123701641295943 tw16018607276475445134 tw17730428716208468724 tw2506853364499732696 tw13551572312386263098 tw151948405760981731 tw11420187438672877268 tw1414301608579184545 tw6679490504615227074 tw14934708107589980039 tw13581749221687468397 tw5248340912204065574 tw8424611434330503625 tw14023627001141898710 tw16437185098154296904 tw10352308551163946355 tw7405434945208526273 tw14209830616999942402 tw10007627690174824804 tw4921902886906138986 tw14097648870716263351 tw7275051467321613617 tw14907048974825807369 tw930746551332336609 tw1320183511955256522 tw8989982439271903415 tw15880737140895825463 tw11729385059970357855 tw2422670821966735624 tw4525517667737911620 tw1708024556718086227 tw2660918139993853925 tw16752143609539240740 tw7987952416473584550 tw2001226814458364393 tw17517737089405305841 tw16648231224745350325 tw18263319221461684349 tw7250012664060256230 tw13526986893379352335 tw17552769576498331613 tw5149714755402479525 tw14952990662201256454 tw8017206721242287953 tw15323854079317868165 tw39160002569200845 tw18410474027866654770 tw17899373020297197333 tw15157221202141545114 tw2905824091091238844 tw8047920394858072898 tw608726401823008365 tw4575980220486274672 tw11445135464325071761 tw15919542637913265678 tw3093977132361051618 tw13141144453892091621 tw11790162104776037713 tw9821368406582625841 tw12393455550290869266 tw4172830789200971933 tw13580328829973926956 tw17827458813498177553 tw10939839348159177617 tw1041845030581493396 tw8902219603052485911 tw7198390536060210744 tw16039550372008468697 tw15542503528162795033 tw13471461260053382970 tw17394056326795013819 tw1210750091971509897 tw11462045893675790159 tw13252181687094117063 tw8796240567053077481 tw5450187663091677483 tw11013792430000457035 tw4681523508651956083 tw13903129631018457399 tw15736541856241217950 tw13789449189825218787 tw17993156020533580102 tw17434858337260393937 tw17244072584429378644 tw12177649209318274912 tw618205885557783147 tw13725850141900786883 tw7299951869573292228 tw17719373434677690450 tw15900120412870309639 tw13314330512976039754 tw5228443966233409354 tw17503288770812694035 tw10996506086634736982 tw12835720964997663042 tw18163462532019968843 tw6834602518627153040 tw8430678208038309684 tw7397068168572129948 tw11788150170368784547 tw6434138532213402376 tw6714822604882049554 tw2134368852220247820 tw4071324889030633612 tw470574548607681690 tw15168306246750427876 tw6683783046931543321 tw4318056027017086478 tw12973657651903071711 tw1267870562809915468 tw13512673800721320934 tw1690735587144091376 tw7573151900890175926 tw4552823106982906706 tw921073385446354868 tw3427515755752030745 tw3365093317950918147 tw3504847659760329788 tw17768419659990539469 tw16172117957621229858 tw505943868828395459 tw7112787868492120936 tw18211773271919218964 tw7543195961347049332 tw7733015712792483723 tw10833955939284561965 tw16593013826814733010 tw5076957145309523181 tw17672482021469178181 tw9501820088010722379 tw18260038339965228139 tw14971970265804392439 tw13776390136698705113 tw12233582284571471492 tw7323676302269181137 tw2862820112641550484 tw10528696920762540405 tw7483462131439158144 tw8860024209350480642 tw1735497430108182060 tw16531745337717519161 tw16413963553889246368 tw1102190903223815498 tw8579058602437062094 tw13912434898499826684 tw1377046205977697930 tw10073347824450446311 tw2118141222776746865 tw17000458434675057986 tw14884601019740666482 tw9673203406766833760 tw2315820567201803617 tw8253183596043897158 tw2958062672499776758 tw14427280190107063356 tw13902233598862641821 tw11892598404827812706 tw1139862187096482527 tw12371321757623732685 tw18350638575300117064 tw17139780236743587250 tw16643379632663270332 tw15079194523842364033 tw1615719349143574890 tw7232422423428716515 tw10650810973499830745 tw1771862750571323454 tw7276740287692124622 tw11853533878840232495 tw3768068617246420682 tw13215998728584607739 tw16487347958798203451 tw2968979199505139716 tw15823609455315575823 tw2711585505577850959 tw6004533443673955352 tw6589095468515690095 tw9575948337506731703 tw16741492637210864865 tw3362959441861295915 tw8727135674562949291 tw8098380416015320538 tw7581352650102555174 tw17497748084772794779 tw16366562015402752707 tw17988542015724977305 tw2736616831223182526 tw3560238982266916124 tw1772237422875290029 tw1204117194425446250 tw856264945809894966 tw9691624938235723451 tw3856783459128436802 tw1402947280878808549 tw13200701876752130231 tw6132934438814934913 tw5268983451555188008 tw11957962974430299695 tw13160144027095335755 tw7299303143086499733 tw4748654258956052638 tw4039474712603431140 tw16874561944515371726 tw16697116713213952808 tw1419416864934026935 tw12945451867199242903 tw11939915149646268982 tw16873187988247708562 tw10919533547850550483 tw563124612126607214 tw15490439104401381959 tw12488000419048109807 tw16846860572762119324 tw5952267759425050802 tw6711915476519705758 tw16645262185327669138 tw7098571738820278039 tw10010936943081839664 tw14714103240675001986 tw17018628822417861297 tw14386061602966655976 tw9948023125614773506 tw17532718790514356516 tw17475289236778735526 tw10758392820592806131 tw15480198773659482676 tw2504098582860672743 tw17101871299007795629 tw15041003319150489328 tw7365555872484859036 tw5732905514179830355 tw17863021456227041891 tw16176465441171805009 tw8656719876789144132 tw6245536207120538393 tw5529568453561195837 tw3039592710220408265 tw2611137233208623240 tw2378363196638174374 tw17274371674624000324 tw15894407043143930727 tw13615603153576403970 tw12850107946570832962 tw11625766737575182897 tw11452132507678324671 tw15202239659555905331 tw1184552218554016812 tw6448080314894763839 tw9759809726879904816 tw912392155897948271 tw4090926877573551719 tw3267979357774110234 tw14126943448341045398 tw10948738476641704880 tw9458956999447867950 tw8459811325457737761 tw7892128664451923741 tw5111356299099525756 tw3636048126100218174 tw18345786424863182364 tw18340240734955500558 tw17279654841073493023 tw17000155066101142889 tw17069979004554194336 tw43969757491396457 tw5706481520468235054 tw6891000109920058784 tw17765544955259793912 tw16869277618539721502 tw1085346719588807367 tw1291980286583624508 tw4824431525194463578 tw11495947367809530248 tw13016732220969518872 tw16326889199254633757
end
set_option compiler.extract_closed false
namespace Internal
section
open PySem
set_option tactic.hygienic false
theorem hide {G:Prop} (h:∀ G0:Prop,(G→G0)→G0):G:=h G fun x=>x
section
variable {a c d k R:Nat}
end
end
section
open PySem PySem.W PyProof.Rows
set_option tactic.hygienic false
section
variable {prog:Program} {w:World} {A:Around} {E:Value→Shared→Prop} {s:Shared} {K:Frag} {r C L a:Addr} {h₀:Heap} {m:Str→Option Value} {ox:Obj} {es:List DictEntry} {n:Nat} {x name cn:Str} {v ccd:Value} {cs:Scope} {cl:List (Str × Addr)} {xp pos:Pos}
theorem attr_L {Q:Value→Shared→Prop} {at':Option Value} (F:Fr h₀ L s.heap m) (X₀:K.In h₀) (hv:m x = some (.ref r)) (I:InstAt s.heap r ox C (some (dictOf es n))) (hg:plainGet K C name = true) (hh:hasDictIn K C = true)
  (ha:findIn K (.ref C) name = some at') (hn:noGet K at' = true) (hl:getL name es = some (some v)) (hw:handedIn v = true) (h:Q v { s with toks:=s.toks + 1 })
  (hk:cs.kind = .function) (hx:(envX cn cs L a ccd cl).kindOf x = some .local) (hd:(x == ("__debug__":Str)) = false)
  (he:eval (.Attribute (.Name x xp) name pos) (envX cn cs L a ccd cl) = (do
   let o ← eval (.Name x xp) (envX cn cs L a ccd cl)
   standAt pos.atName
   let q ← holding [o] (getAttr o name true)
   letTemporaryGo (.Name x xp) o q
   pure q)) :
  wpAny (model prog w) A (eval (.Attribute (.Name x xp) name pos) (envX cn cs L a ccd cl)) Q E s :=
 Attribute_Name_ (nameX_L F hv (get_own F X₀ I hg hh ha hn hl hw h) hk hx hd) he
end
end
section
open PySem PySem.W PyProof.Rows
def Tg (_:Prop):Type:=Unit
abbrev bp {G:Prop} (_:Tg G):Prop:=G
@[irreducible] noncomputable def pk {α:Type} (n:Nonempty α) (P:α→Prop):α:=Classical.epsilon fun x=>¬ P x
theorem e1 {α:Type} (n:Nonempty α) {P:α→Prop} {G:Prop} (h:Tg G→P (pk n P)):∀ x,P x:=fun x=>Classical.byContradiction fun k=>by
 have h:=h ();unfold pk at h;exact (Classical.epsilon_spec (p:=fun x=>¬ P x) ⟨x,k⟩) h
theorem aW {G:Prop} (h:Unit→G):G:=h ()
theorem nePr {α β:Type} (h:Nonempty α) (k:Nonempty β):Nonempty (α × β):=h.elim fun a=>k.elim fun b=>⟨(a,b)⟩
section
variable {A B C D:Type}
abbrev u4 (φ:A→B→C→D→Prop) (x:A×B×C×D):Prop:=φ x.1 x.2.1 x.2.2.1 x.2.2.2
theorem e4 {φ:A→B→C→D→Prop} (μ:Nonempty (A×B×C×D)) (η:Tg (∀ a b c d,φ a b c d)→u4 φ (pk μ (u4 φ))):∀ a b c d,φ a b c d:=fun a b c d=>e1 μ η (a,b,c,d)
end
section
variable {A B C D E F G H:Type}
abbrev u8 (φ:A→B→C→D→E→F→G→H→Prop) (x:A×B×C×D×E×F×G×H):Prop:=u4 (φ x.1 x.2.1 x.2.2.1 x.2.2.2.1) x.2.2.2.2
theorem e8 {φ:A→B→C→D→E→F→G→H→Prop} (μ:Nonempty (A×B×C×D×E×F×G×H)) (η:Tg (∀ a b c d e f g h,φ a b c d e f g h)→u8 φ (pk μ (u8 φ))):∀ a b c d e f g h,φ a b c d e f g h:=fun a b c d e f g h=>e1 μ η (a,b,c,d,e,f,g,h)
end
section
variable {A B C D E F G H I J K L:Type}
abbrev u12 (φ:A→B→C→D→E→F→G→H→I→J→K→L→Prop) (x:A×B×C×D×E×F×G×H×I×J×K×L):Prop:=u8 (φ x.1 x.2.1 x.2.2.1 x.2.2.2.1) x.2.2.2.2
theorem e12 {φ:A→B→C→D→E→F→G→H→I→J→K→L→Prop} (μ:Nonempty (A×B×C×D×E×F×G×H×I×J×K×L)) (η:Tg (∀ a b c d e f g h i j k l,φ a b c d e f g h i j k l)→u12 φ (pk μ (u12 φ))):∀ a b c d e f g h i j k l,φ a b c d e f g h i j k l:=fun a b c d e f g h i j k l=>e1 μ η (a,b,c,d,e,f,g,h,i,j,k,l)
end
section
variable {A B C D E F G H I J K L M N O P:Type}
abbrev u16 (φ:A→B→C→D→E→F→G→H→I→J→K→L→M→N→O→P→Prop) (x:A×B×C×D×E×F×G×H×I×J×K×L×M×N×O×P):Prop:=u12 (φ x.1 x.2.1 x.2.2.1 x.2.2.2.1) x.2.2.2.2
theorem e16 {φ:A→B→C→D→E→F→G→H→I→J→K→L→M→N→O→P→Prop} (μ:Nonempty (A×B×C×D×E×F×G×H×I×J×K×L×M×N×O×P)) (η:Tg (∀ a b c d e f g h i j k l m n o p,φ a b c d e f g h i j k l m n o p)→u16 φ (pk μ (u16 φ))):∀ a b c d e f g h i j k l m n o p,φ a b c d e f g h i j k l m n o p:=fun a b c d e f g h i j k l m n o p=>e1 μ η (a,b,c,d,e,f,g,h,i,j,k,l,m,n,o,p)
end
section
variable {A B C D E F G H I J K L M N O P Q R S T:Type}
abbrev u20 (φ:A→B→C→D→E→F→G→H→I→J→K→L→M→N→O→P→Q→R→S→T→Prop) (x:A×B×C×D×E×F×G×H×I×J×K×L×M×N×O×P×Q×R×S×T):Prop:=u16 (φ x.1 x.2.1 x.2.2.1 x.2.2.2.1) x.2.2.2.2
theorem e20 {φ:A→B→C→D→E→F→G→H→I→J→K→L→M→N→O→P→Q→R→S→T→Prop} (μ:Nonempty (A×B×C×D×E×F×G×H×I×J×K×L×M×N×O×P×Q×R×S×T)) (η:Tg (∀ a b c d e f g h i j k l m n o p q r s t,φ a b c d e f g h i j k l m n o p q r s t)→u20 φ (pk μ (u20 φ))):∀ a b c d e f g h i j k l m n o p q r s t,φ a b c d e f g h i j k l m n o p q r s t:=fun a b c d e f g h i j k l m n o p q r s t=>e1 μ η (a,b,c,d,e,f,g,h,i,j,k,l,m,n,o,p,q,r,s,t)
end
section
variable {A B C D E F G H I J K L M N O P Q R S T U V W X:Type}
abbrev u24 (φ:A→B→C→D→E→F→G→H→I→J→K→L→M→N→O→P→Q→R→S→T→U→V→W→X→Prop) (x:A×B×C×D×E×F×G×H×I×J×K×L×M×N×O×P×Q×R×S×T×U×V×W×X):Prop:=u20 (φ x.1 x.2.1 x.2.2.1 x.2.2.2.1) x.2.2.2.2
theorem e24 {φ:A→B→C→D→E→F→G→H→I→J→K→L→M→N→O→P→Q→R→S→T→U→V→W→X→Prop} (μ:Nonempty (A×B×C×D×E×F×G×H×I×J×K×L×M×N×O×P×Q×R×S×T×U×V×W×X)) (η:Tg (∀ a b c d e f g h i j k l m n o p q r s t u v w x,φ a b c d e f g h i j k l m n o p q r s t u v w x)→u24 φ (pk μ (u24 φ))):∀ a b c d e f g h i j k l m n o p q r s t u v w x,φ a b c d e f g h i j k l m n o p q r s t u v w x:=fun a b c d e f g h i j k l m n o p q r s t u v w x=>e1 μ η (a,b,c,d,e,f,g,h,i,j,k,l,m,n,o,p,q,r,s,t,u,v,w,x)
end
section
variable {A B C D E F G H I J K L M N O P Q R S T U V W X Y Z A' B':Type}
abbrev u28 (φ:A→B→C→D→E→F→G→H→I→J→K→L→M→N→O→P→Q→R→S→T→U→V→W→X→Y→Z→A'→B'→Prop) (x:A×B×C×D×E×F×G×H×I×J×K×L×M×N×O×P×Q×R×S×T×U×V×W×X×Y×Z×A'×B'):Prop:=u24 (φ x.1 x.2.1 x.2.2.1 x.2.2.2.1) x.2.2.2.2
theorem e28 {φ:A→B→C→D→E→F→G→H→I→J→K→L→M→N→O→P→Q→R→S→T→U→V→W→X→Y→Z→A'→B'→Prop} (μ:Nonempty (A×B×C×D×E×F×G×H×I×J×K×L×M×N×O×P×Q×R×S×T×U×V×W×X×Y×Z×A'×B')) (η:Tg (∀ a b c d e f g h i j k l m n o p q r s t u v w x y z a' b',φ a b c d e f g h i j k l m n o p q r s t u v w x y z a' b')→u28 φ (pk μ (u28 φ))):∀ a b c d e f g h i j k l m n o p q r s t u v w x y z a' b',φ a b c d e f g h i j k l m n o p q r s t u v w x y z a' b':=fun a b c d e f g h i j k l m n o p q r s t u v w x y z a' b'=>e1 μ η (a,b,c,d,e,f,g,h,i,j,k,l,m,n,o,p,q,r,s,t,u,v,w,x,y,z,a',b')
end
section
variable {A B C D E F G H I J K L M N O P Q R S T U V W X Y Z A' B' C' D' E' F':Type}
abbrev u32 (φ:A→B→C→D→E→F→G→H→I→J→K→L→M→N→O→P→Q→R→S→T→U→V→W→X→Y→Z→A'→B'→C'→D'→E'→F'→Prop) (x:A×B×C×D×E×F×G×H×I×J×K×L×M×N×O×P×Q×R×S×T×U×V×W×X×Y×Z×A'×B'×C'×D'×E'×F'):Prop:=u28 (φ x.1 x.2.1 x.2.2.1 x.2.2.2.1) x.2.2.2.2
theorem e32 {φ:A→B→C→D→E→F→G→H→I→J→K→L→M→N→O→P→Q→R→S→T→U→V→W→X→Y→Z→A'→B'→C'→D'→E'→F'→Prop} (μ:Nonempty (A×B×C×D×E×F×G×H×I×J×K×L×M×N×O×P×Q×R×S×T×U×V×W×X×Y×Z×A'×B'×C'×D'×E'×F')) (η:Tg (∀ a b c d e f g h i j k l m n o p q r s t u v w x y z a' b' c' d' e' f',φ a b c d e f g h i j k l m n o p q r s t u v w x y z a' b' c' d' e' f')→u32 φ (pk μ (u32 φ))):∀ a b c d e f g h i j k l m n o p q r s t u v w x y z a' b' c' d' e' f',φ a b c d e f g h i j k l m n o p q r s t u v w x y z a' b' c' d' e' f':=fun a b c d e f g h i j k l m n o p q r s t u v w x y z a' b' c' d' e' f'=>e1 μ η (a,b,c,d,e,f,g,h,i,j,k,l,m,n,o,p,q,r,s,t,u,v,w,x,y,z,a',b',c',d',e',f')
end
section
variable {A B C D E F G H I J K L M N O P Q R S T U V W X Y Z A' B' C' D' E' F' G' H' I' J':Type}
abbrev u36 (φ:A→B→C→D→E→F→G→H→I→J→K→L→M→N→O→P→Q→R→S→T→U→V→W→X→Y→Z→A'→B'→C'→D'→E'→F'→G'→H'→I'→J'→Prop) (x:A×B×C×D×E×F×G×H×I×J×K×L×M×N×O×P×Q×R×S×T×U×V×W×X×Y×Z×A'×B'×C'×D'×E'×F'×G'×H'×I'×J'):Prop:=u32 (φ x.1 x.2.1 x.2.2.1 x.2.2.2.1) x.2.2.2.2
end
section
variable {A B C D E F G H I J K L M N O P Q R S T U V W X Y Z A' B' C' D' E' F' G' H' I' J' K' L' M' N':Type}
abbrev u40 (φ:A→B→C→D→E→F→G→H→I→J→K→L→M→N→O→P→Q→R→S→T→U→V→W→X→Y→Z→A'→B'→C'→D'→E'→F'→G'→H'→I'→J'→K'→L'→M'→N'→Prop) (x:A×B×C×D×E×F×G×H×I×J×K×L×M×N×O×P×Q×R×S×T×U×V×W×X×Y×Z×A'×B'×C'×D'×E'×F'×G'×H'×I'×J'×K'×L'×M'×N'):Prop:=u36 (φ x.1 x.2.1 x.2.2.1 x.2.2.2.1) x.2.2.2.2
theorem e40 {φ:A→B→C→D→E→F→G→H→I→J→K→L→M→N→O→P→Q→R→S→T→U→V→W→X→Y→Z→A'→B'→C'→D'→E'→F'→G'→H'→I'→J'→K'→L'→M'→N'→Prop} (μ:Nonempty (A×B×C×D×E×F×G×H×I×J×K×L×M×N×O×P×Q×R×S×T×U×V×W×X×Y×Z×A'×B'×C'×D'×E'×F'×G'×H'×I'×J'×K'×L'×M'×N')) (η:Tg (∀ a b c d e f g h i j k l m n o p q r s t u v w x y z a' b' c' d' e' f' g' h' i' j' k' l' m' n',φ a b c d e f g h i j k l m n o p q r s t u v w x y z a' b' c' d' e' f' g' h' i' j' k' l' m' n')→u40 φ (pk μ (u40 φ))):∀ a b c d e f g h i j k l m n o p q r s t u v w x y z a' b' c' d' e' f' g' h' i' j' k' l' m' n',φ a b c d e f g h i j k l m n o p q r s t u v w x y z a' b' c' d' e' f' g' h' i' j' k' l' m' n':=fun a b c d e f g h i j k l m n o p q r s t u v w x y z a' b' c' d' e' f' g' h' i' j' k' l' m' n'=>e1 μ η (a,b,c,d,e,f,g,h,i,j,k,l,m,n,o,p,q,r,s,t,u,v,w,x,y,z,a',b',c',d',e',f',g',h',i',j',k',l',m',n')
end
section
variable {A B C D E F G H I J K L M N O P Q R S T U V W X Y Z A' B' C' D' E' F' G' H' I' J' K' L' M' N' O' P' Q' R':Type}
abbrev u44 (φ:A→B→C→D→E→F→G→H→I→J→K→L→M→N→O→P→Q→R→S→T→U→V→W→X→Y→Z→A'→B'→C'→D'→E'→F'→G'→H'→I'→J'→K'→L'→M'→N'→O'→P'→Q'→R'→Prop) (x:A×B×C×D×E×F×G×H×I×J×K×L×M×N×O×P×Q×R×S×T×U×V×W×X×Y×Z×A'×B'×C'×D'×E'×F'×G'×H'×I'×J'×K'×L'×M'×N'×O'×P'×Q'×R'):Prop:=u40 (φ x.1 x.2.1 x.2.2.1 x.2.2.2.1) x.2.2.2.2
theorem e44 {φ:A→B→C→D→E→F→G→H→I→J→K→L→M→N→O→P→Q→R→S→T→U→V→W→X→Y→Z→A'→B'→C'→D'→E'→F'→G'→H'→I'→J'→K'→L'→M'→N'→O'→P'→Q'→R'→Prop} (μ:Nonempty (A×B×C×D×E×F×G×H×I×J×K×L×M×N×O×P×Q×R×S×T×U×V×W×X×Y×Z×A'×B'×C'×D'×E'×F'×G'×H'×I'×J'×K'×L'×M'×N'×O'×P'×Q'×R')) (η:Tg (∀ a b c d e f g h i j k l m n o p q r s t u v w x y z a' b' c' d' e' f' g' h' i' j' k' l' m' n' o' p' q' r',φ a b c d e f g h i j k l m n o p q r s t u v w x y z a' b' c' d' e' f' g' h' i' j' k' l' m' n' o' p' q' r')→u44 φ (pk μ (u44 φ))):∀ a b c d e f g h i j k l m n o p q r s t u v w x y z a' b' c' d' e' f' g' h' i' j' k' l' m' n' o' p' q' r',φ a b c d e f g h i j k l m n o p q r s t u v w x y z a' b' c' d' e' f' g' h' i' j' k' l' m' n' o' p' q' r':=fun a b c d e f g h i j k l m n o p q r s t u v w x y z a' b' c' d' e' f' g' h' i' j' k' l' m' n' o' p' q' r'=>e1 μ η (a,b,c,d,e,f,g,h,i,j,k,l,m,n,o,p,q,r,s,t,u,v,w,x,y,z,a',b',c',d',e',f',g',h',i',j',k',l',m',n',o',p',q',r')
end
theorem neW:Nonempty World:=⟨⟨fun O O=>0,⟨fun O=>0,fun O=>0,id,fun O=>0,fun O O=>0,fun O=>false,fun O=>0,.refcount,.text,fun O=>0,fun O=>none,fun O=>false,fun O O O=>true,fun O O O=>true,true,fun O=>false,fun O=>none,fun O=>none,fun O O O=>0,fun O O=>none,fun O=>none,fun O=>(0,false,"UTC"),fun O=>none,id,fun O=>false⟩⟩⟩
theorem neS:Nonempty Scope:=⟨⟨.function,[],false,false,[]⟩⟩
theorem neA:Nonempty Around:=⟨{}⟩
theorem neE:Nonempty Shared:=⟨{}⟩
end

section
local macro_rules | `(tactic| omega) => `(tactic| lia)
set_option hygiene false in
local macro_rules | `(tactic| fail "n") => `(tactic| (repeat' (first | infer_instance | exact neW | exact neB | exact neF | exact neA | exact neE | exact neS | refine nePr ?_ ?_ | ((refine ⟨?_⟩); repeat' (first | exact default | constructor)))))
section
open PySem PySem.W PyProof.Rows
set_option maxRecDepth 100000
set_option tactic.hygienic false
theorem slot_lt:Slot "bytes" (cmpInfo .Lt).2.1 "bytes.__lt__" :=
 .of (owner:="bytes") (n:="__lt__") (by rw [typeLookup_type,builtinLookup_eq_fast];kernel_rfl) (by decide +kernel) (by decide +kernel) (by decide +kernel)
  (by first | exact .inl (by decide +kernel) | exact .inr (by decide +kernel)) (by rw [isSubtype_type];kernel_rfl)
theorem slot_gt:Slot "bytes" (cmpInfo .Gt).2.1 "bytes.__gt__" :=
 .of (owner:="bytes") (n:="__gt__") (by rw [typeLookup_type,builtinLookup_eq_fast];kernel_rfl) (by decide +kernel) (by decide +kernel) (by decide +kernel)
  (by first | exact .inl (by decide +kernel) | exact .inr (by decide +kernel)) (by rw [isSubtype_type];kernel_rfl)
theorem slot_ge:Slot "bytes" (cmpInfo .GtE).2.1 "bytes.__ge__" :=
 .of (owner:="bytes") (n:="__ge__") (by rw [typeLookup_type,builtinLookup_eq_fast];kernel_rfl) (by decide +kernel) (by decide +kernel) (by decide +kernel)
  (by first | exact .inl (by decide +kernel) | exact .inr (by decide +kernel)) (by rw [isSubtype_type];kernel_rfl)
theorem entry_lt:entryFor table "bytes.__lt__" = some Builtin.«bytes.__lt__»:=entryFor_of_tree (by kernel_rfl)
theorem entry_gt:entryFor table "bytes.__gt__" = some Builtin.«bytes.__gt__»:=entryFor_of_tree (by kernel_rfl)
theorem entry_ge:entryFor table "bytes.__ge__" = some Builtin.«bytes.__ge__»:=entryFor_of_tree (by kernel_rfl)
theorem args_lt (a b:Value):argsOk "bytes.__lt__" ⟨[a,b],[]⟩:=by
 unfold argsOk;rw [signature?_of (id:="bytes.__lt__") (n:=['_','_','t','l','_','_']) (o:=['s','e','t','y','b']) (by kernel_rfl) FB.owner_bytes];kernel_rfl
theorem args_gt (a b:Value):argsOk "bytes.__gt__" ⟨[a,b],[]⟩:=by
 unfold argsOk;rw [signature?_of (id:="bytes.__gt__") (n:=['_','_','t','g','_','_']) (o:=['s','e','t','y','b']) (by kernel_rfl) FB.owner_bytes];kernel_rfl
theorem args_ge (a b:Value):argsOk "bytes.__ge__" ⟨[a,b],[]⟩:=by
 unfold argsOk;rw [signature?_of (id:="bytes.__ge__") (n:=['_','_','e','g','_','_']) (o:=['s','e','t','y','b']) (by kernel_rfl) FB.owner_bytes];kernel_rfl
noncomputable def ltB (a b:Array UInt8):Bool:=Builtin.Bytes.order a.toList b.toList == .lt
theorem order_swap:∀ a b:List UInt8,(Builtin.Bytes.order a b == .gt) = (Builtin.Bytes.order b a == .lt)
 | [],[]=>rfl
 | [],_::_=>rfl
 | _::_,[]=>rfl
 | x::a,y::b=>by
  simp only [Builtin.Bytes.order]
  by_cases h1:x < y
  ·have h2:¬ y < x:=fun h=>absurd (UInt8.lt_trans h1 h) (UInt8.lt_irrefl _)
   simp [h1,h2]
  ·by_cases h2:y < x
   ·simp [h1,h2]
   ·simp [h1,h2,order_swap a b]
theorem gives_lt (b c:Array UInt8) (t u:Tok):Gives (Builtin.«bytes.__lt__» ⟨[.bytes b t,.bytes c u],[]⟩) (.val (.bool (ltB b c))):=by
 refine .of_wp fun M A E s Q hq=>?_
 show wpAny M A (isInstance (.bytes c u) (.type "bytes") >>= fun r=>_) _ E s
 refine wpAny_bind (wpAny_isInstance (typeIs_bytes s c u) F.sub_bytes_bytes ?_)
 exact wpAny_pure ⟨_,rfl,hq⟩
theorem gives_gt (b c:Array UInt8) (t u:Tok):Gives (Builtin.«bytes.__gt__» ⟨[.bytes b t,.bytes c u],[]⟩) (.val (.bool (ltB c b))):=by
 refine .of_wp fun M A E s Q hq=>?_
 show wpAny M A (isInstance (.bytes c u) (.type "bytes") >>= fun r=>_) _ E s
 refine wpAny_bind (wpAny_isInstance (typeIs_bytes s c u) F.sub_bytes_bytes ?_)
 exact wpAny_pure ⟨_,rfl,by unfold ltB at hq;rw [← order_swap] at hq;exact hq⟩
theorem gives_ge (b c:Array UInt8) (t u:Tok):Gives (Builtin.«bytes.__ge__» ⟨[.bytes b t,.bytes c u],[]⟩) (.val (.bool (!ltB b c))):=by
 refine .of_wp fun M A E s Q hq=>?_
 show wpAny M A (isInstance (.bytes c u) (.type "bytes") >>= fun r=>_) _ E s
 refine wpAny_bind (wpAny_isInstance (typeIs_bytes s c u) F.sub_bytes_bytes ?_)
 exact wpAny_pure ⟨_,rfl,hq⟩
section
variable {prog:Program} {w:World} {A:Around} {E:Value→Shared→Prop} {s:Shared} {b c:Array UInt8} {t u:Tok}
theorem lt_bytes {Q:Value→Shared→Prop} (h:Q (.bool (ltB b c)) s):wpAny (model prog w) A (compareOp .Lt (.bytes b t) (.bytes c u)) Q E s :=
 compareOp_gives (op:=.Lt) (typeIs_bytes s b t) (typeIs_bytes s c u) slot_lt entry_lt (args_lt _ _) (gives_lt b c t u) (fun e=>nomatch e) h
theorem gt_bytes {Q:Value→Shared→Prop} (h:Q (.bool (ltB c b)) s):wpAny (model prog w) A (compareOp .Gt (.bytes b t) (.bytes c u)) Q E s :=
 compareOp_gives (op:=.Gt) (typeIs_bytes s b t) (typeIs_bytes s c u) slot_gt entry_gt (args_gt _ _) (gives_gt b c t u) (fun e=>nomatch e) h
theorem ge_bytes {Q:Value→Shared→Prop} (h:Q (.bool (!ltB b c)) s):wpAny (model prog w) A (compareOp .GtE (.bytes b t) (.bytes c u)) Q E s :=
 compareOp_gives (op:=.GtE) (typeIs_bytes s b t) (typeIs_bytes s c u) slot_ge entry_ge (args_ge _ _) (gives_ge b c t u) (fun e=>nomatch e) h
end
section
variable {prog:Program} {w:World} {A:Around} {E:Value→Shared→Prop} {s:Shared}
theorem bytes_special:typeLookup (.type "bytes") "__bytes__" = pure (some (.builtin "bytes.__bytes__")):=by rw [typeLookup_type,builtinLookup_eq_fast];kernel_rfl
theorem bb_new {b:Array UInt8} {t:Tok} {Q:Value→Shared→Prop} (hQ:Q (.bytes b t) s) :
  codeAny (model prog w) A (.call (.builtin "bytes.__new__") ⟨[.type "bytes",.bytes b t],[]⟩) (wants Q E) s:=by
 refine codeAny_of_tree ?_
 show wpAny _ A.in1 (do checkBuiltinCall "bytes.__new__" ⟨[.type "bytes",.bytes b t],[]⟩;again (.builtin "bytes.__new__" ⟨[.type "bytes",.bytes b t],[]⟩)) _ _ s
 refine wpAny_bind (wpAny_of_eq (F.bm_newCall _) (wpAny_pure ⟨plainId_quiet F.bm_plain _,codeAny_builtin F.bm_entry ?_⟩))
 rw [Around.under_plainId F.bm_plain _]
 unfold Builtin.«bytes.__new__»
 refine wpAny_bind (wpAny_of_eq (a:=true) rfl ?_)
 refine bm_if_false rfl ?_
 refine wpAny_bind (wpAny_of_eq F.bm_sub ?_)
 refine bm_if_false rfl ?_
 refine wpAny_bind (wpAny_of_eq (F.bm_bind _) ?_)
 refine wpAny_bind (wpAny_of_eq (a:=()) rfl ?_)
 refine wpAny_bind (wpAny_of_eq (a:=()) rfl ?_)
 refine bm_if_false rfl ?_
 refine wpAny_bind (wpAny_specialOf (typeIs_bytes s b t) bytes_special ?_)
 dsimp only
 refine wpAny_bind (wpAny_rule ?_)
 refine wpAny_bind (wpAny_typeOf (typeIs_bytes s b t) ?_)
 refine bm_if_true rfl ?_
 first
  | exact wpAny_pure hQ
  | exact wpAny_pure ⟨_,rfl,hQ⟩
theorem eD {b:Array UInt8} {t:Tok} {Q:Value→Shared→Prop} (hQ:Q (.bytes b t) s):wpAny (model prog w) A (call (.type "bytes") [.bytes b t]) Q E s:=by
 refine callType_codes (Q₁:=fun obj s₁=>s₁.TypeIs obj "bytes"∧Q obj s₁) F.bm_called (F.bm_typeCall _) F.entry_object_init
  (bb_new ⟨typeIs_bytes _ _ _,hQ⟩) fun obj s₁ h₁=>?_
 exact ⟨h₁.1,F.args_object_init_2 obj _,object_init_meets F.bm_called.init.lookup F.bm_called.made (by decide) prog w A.in1 _ s₁ ⟨h₁.1,rfl,h₁.2⟩⟩
end
theorem nat_and_shift {x b k:Nat} (hx:x < 2 ^ k):x &&& (b * 2 ^ k) = 0:=by
 apply Nat.eq_of_testBit_eq
 intro i
 rw [Nat.testBit_and,Nat.zero_testBit,Nat.testBit_mul_two_pow]
 by_cases h:i < k
 ·have:¬ k≤i:=by omega
  simp [this]
 ·have h2:x.testBit i = false:=Nat.testBit_lt_two_pow (Nat.lt_of_lt_of_le hx (Nat.pow_le_pow_right (by decide) (by omega)))
  simp [h2]
theorem eE {x y:Int} (hx:0≤x) (hy:0≤y):Builtin.bitAnd x y = ((x.toNat &&& y.toNat:Nat):Int):=by
 unfold Builtin.bitAnd
 have h1:decide (0≤x) = true:=by simp;omega
 have h2:decide (0≤y) = true:=by simp;omega
 simp [hx,hy]
theorem or_shift {x b:Int} (k:Nat) (hx:0≤x) (hx2:x < 2 ^ k) (hb:0≤b):Builtin.bitOr x (b * 2 ^ k) = x + b * 2 ^ k:=by
 have hp:(0:Int)≤b * 2 ^ k:=Int.mul_nonneg hb (Int.le_of_lt (Int.pow_pos (by decide)))
 rw [bitOr_and,eE hx hp]
 have e:(b * 2 ^ k).toNat = b.toNat * 2 ^ k:=by
  obtain ⟨n,rfl⟩:∃ n:Nat,b = (n:Int):=⟨b.toNat,by omega⟩
  have e2:((n:Int) * 2 ^ k) = ((n * 2 ^ k:Nat):Int):=by push_cast;rfl
  rw [e2,Int.toNat_natCast,Int.toNat_natCast]
 have hx3:x.toNat < 2 ^ k:=by
  have:x = (x.toNat:Int):=by omega
  rw [this] at hx2
  exact_mod_cast hx2
 rw [e,nat_and_shift hx3]
 omega
theorem and_255 {x:Int} (hx:0≤x):Builtin.bitAnd x 255 = x % 256:=by
 rw [eE hx (by decide)]
 have:(x.toNat &&& 255) = x.toNat % 2 ^ 8:=by
  rw [show (255:Nat) = 2 ^ 8 - 1 from rfl,Nat.and_two_pow_sub_one_eq_mod]
 show ((x.toNat &&& 255:Nat):Int) = _
 rw [this,Int.natCast_emod,Int.toNat_of_nonneg hx];rfl
section
variable {prog:Program} {w:World} {A:Around} {E:Value→Shared→Prop} {s:Shared} {a b:Int} {t u:Tok} {Q:Value→Shared→Prop}
theorem shl8 (h0:0≤a) (h1:a < 4294967296) (h:Q (.int (a * 256) s.toks) { s with toks:=s.toks + 1 }):wpAny (model prog w) A (binaryOp .LShift (.int a t) (.int 8 u)) Q E s :=
 lshift_int_small (by decide) (by decide) (by omega) h
theorem shl16 (h0:0≤a) (h1:a < 4294967296) (h:Q (.int (a * 65536) s.toks) { s with toks:=s.toks + 1 }):wpAny (model prog w) A (binaryOp .LShift (.int a t) (.int 16 u)) Q E s :=
 lshift_int_small (by decide) (by decide) (by omega) h
theorem shl24 (h0:0≤a) (h1:a < 4294967296) (h:Q (.int (a * 16777216) s.toks) { s with toks:=s.toks + 1 }):wpAny (model prog w) A (binaryOp .LShift (.int a t) (.int 24 u)) Q E s :=
 lshift_int_small (by decide) (by decide) (by omega) h
theorem shl32 (h0:0≤a) (h1:a < 4294967296) (h:Q (.int (a * 4294967296) s.toks) { s with toks:=s.toks + 1 }):wpAny (model prog w) A (binaryOp .LShift (.int a t) (.int 32 u)) Q E s :=
 lshift_int_small (by decide) (by decide) (by omega) h
theorem or8 (h0:0≤a) (h1:a < 256) (h2:0≤b) (h:Q (.int (a + b * 256) s.toks) { s with toks:=s.toks + 1 }):wpAny (model prog w) A (binaryOp .BitOr (.int a t) (.int (b * 256) u)) Q E s :=
 or_int (by have e:=or_shift (x:=a) (b:=b) 8 h0 h1 h2;rw [show ((2:Int) ^ 8) = 256 from rfl] at e;rw [e];exact h)
theorem or16 (h0:0≤a) (h1:a < 65536) (h2:0≤b) (h:Q (.int (a + b * 65536) s.toks) { s with toks:=s.toks + 1 }):wpAny (model prog w) A (binaryOp .BitOr (.int a t) (.int (b * 65536) u)) Q E s :=
 or_int (by have e:=or_shift (x:=a) (b:=b) 16 h0 h1 h2;rw [show ((2:Int) ^ 16) = 65536 from rfl] at e;rw [e];exact h)
theorem or24 (h0:0≤a) (h1:a < 16777216) (h2:0≤b) (h:Q (.int (a + b * 16777216) s.toks) { s with toks:=s.toks + 1 }):wpAny (model prog w) A (binaryOp .BitOr (.int a t) (.int (b * 16777216) u)) Q E s :=
 or_int (by have e:=or_shift (x:=a) (b:=b) 24 h0 h1 h2;rw [show ((2:Int) ^ 24) = 16777216 from rfl] at e;rw [e];exact h)
theorem or32 (h0:0≤a) (h1:a < 4294967296) (h2:0≤b) (h:Q (.int (a + b * 4294967296) s.toks) { s with toks:=s.toks + 1 }):wpAny (model prog w) A (binaryOp .BitOr (.int a t) (.int (b * 4294967296) u)) Q E s :=
 or_int (by have e:=or_shift (x:=a) (b:=b) 32 h0 h1 h2;rw [show ((2:Int) ^ 32) = 4294967296 from rfl] at e;rw [e];exact h)
theorem shr8 (h:Q (.int (a / 256) s.toks) { s with toks:=s.toks + 1 }):wpAny (model prog w) A (binaryOp .RShift (.int a t) (.int 8 u)) Q E s :=
 rshift_int (by decide) (by rw [show ((2:Int) ^ (8:Int).toNat) = 256 from rfl,Int.fdiv_eq_ediv_of_nonneg _ (by decide)];exact h)
theorem and255 (h0:0≤a) (h:Q (.int (a % 256) s.toks) { s with toks:=s.toks + 1 }):wpAny (model prog w) A (binaryOp .BitAnd (.int a t) (.int 255 u)) Q E s :=
 and_int (by rw [and_255 h0];exact h)
end
theorem bInts_inj {a b:Array UInt8} (h:KBw.bInts a = KBw.bInts b):a = b:=by
 have inj:∀ l l':List UInt8,(l.map fun c=>((c.toNat:Nat):Int)) = (l'.map fun c=>((c.toNat:Nat):Int))→l = l':=by
  intro l
  induction l with
  | nil=>intro l' h;cases l' with
   | nil=>rfl
   | cons x r=>simp at h
  | cons x r ih=>intro l' h;cases l' with
   | nil=>simp at h
   | cons y r' =>
    simp only [List.map_cons,List.cons.injEq] at h
    have:x = y:=UInt8.toNat_inj.mp (by omega)
    rw [this,ih r' h.2]
 have:=inj a.toList b.toList h
 exact Array.toList_inj.mp this
end
section
open PySem PySem.W PyProof.Rows PySem.Spec
set_option maxRecDepth 100000
set_option tactic.hygienic false
abbrev Led:=List (Addr × Obj)
section
variable {prog:Program} {w:World} {A:Around} {E:Value→Shared→Prop} {s:Shared} {env:Env} {h₀:Heap} {x:Str} {body:List Stmt} {Q:Flow→Shared→Prop}
noncomputable def TurnJ (h₀:Heap) (L:Addr) (J:(Str→Option Value)→Led→Prop) (I:Addr) (o:Obj) (s:Shared) (Q:Flow→Shared→Prop) (f:Flow) (s₂:Shared):Prop :=
 match f with
 | .ret v=>Q (.ret v) s₂
 | .brk=>Q .next s₂
 | _=>∃ h' tk' m' news' led,s₂ = { s with heap:=h',toks:=tk' }∧Fr h₀ L h' m'∧News h₀ L h' led∧(I,o)∈led∧(∀ p∈news',p∈led)∧(∀ p∈news',p.1≠I)∧J m' news'
theorem iter_rangeJ {r:Addr} {a₀ b₀ c:Int} {t₀ u₀ v₀:Tok} {n:Nat} {m₀:Str→Option Value} {news:Led} (J:Nat→(Str→Option Value)→Led→Prop)
  (hh:A.handled = none) (hr:IsRange s.heap r a₀ b₀ c t₀ u₀ v₀) (hsmall:Builtin.Range.small a₀ b₀ c = true) (hn:Builtin.Range.rangeSize a₀ b₀ c = (n:Int)) (F:Fr h₀ env.locals s.heap m₀) (N:News h₀ env.locals s.heap news) (hj:J 0 m₀ news)
  (turn:∀ (i:Nat) t m₁ news₁ h tk I o,i < n→J i m₁ news₁→(∀ p∈news₁,p.1≠I)→Fr h₀ env.locals h (fun y=>if y = x then some (.int (a₀ + i * c) t) else m₁ y)→News h₀ env.locals h ((I,o)::news₁) →
   wpAny (model prog w) A (execs body env) (TurnJ h₀ env.locals (J (i + 1)) I o { s with heap:=h,toks:=tk } Q) E { s with heap:=h,toks:=tk })
  (done:∀ m₁ news₁ h tk,J n m₁ news₁→Fr h₀ env.locals h m₁→News h₀ env.locals h news₁→Q .next { s with heap:=h,toks:=tk }) :
  wpAny (model prog w) A (pyIter (.ref r)) (fun it s₂=>LoopAtV prog w A h₀ env x body Q E it s₂) E s:=by
 revert prog w A E s env h₀ x body Q r a₀ b₀ c t₀ u₀ v₀ n m₀ news J
 refine no_implicit_lambda% (aW ?_)
 refine no_implicit_lambda% (aW ?_)
 refine no_implicit_lambda% (aW ?_)
 refine no_implicit_lambda% (e24 ?n fun T0=>(?_:bp T0) () () () _ _ _ _ _ _ _ _ _ _ _ _ _ _ _ _ _ _ _ _ _)
 case n=>fail "n"
 intro O O O prog w A E s env h₀ x body Q r a₀ b₀ c t₀ u₀ v₀ n m₀ news J
 intros
 clear T0
 refine wpAny_pyIter_range hr hsmall ?_
 have W:=Walks.range (prog:=prog) (w:=w) hh s.heap.objs.size a₀ c n
 refine ⟨_,_,_,n,_,_,m₀,news,J,rfl,W,?_,?_,?_,(by show IsRangeIter _ _ _ _ _;rw [hn];simpa using Heap.get?_push_size _ rfl),F.push _,(fun p hp=>⟨Heap.get?_push_of_some _ (N p hp).1,(N p hp).2⟩),hj,?_,?_⟩
 ·intro hm
  exact absurd F.ns.lt ((List.mem_singleton.mp hm) ▸ Nat.lt_irrefl _)
 ·intro b hb
  rw [List.mem_singleton.mp hb]
  exact next_is_new F
 ·intro p hp hI
  exact absurd (Heap.lt_size (N p hp).1) ((List.mem_singleton.mp hI) ▸ Nat.lt_irrefl _)
 ·intro i v m₁ news₁ s₁ own hx1 hin hx2 hJ hoff hown hget hall hst F₁ N₁
  obtain ⟨hh',tk',rfl⟩:=hx1
  obtain ⟨t,rfl⟩:=hx2
  obtain ⟨oI,ho⟩:∃ oI,hh'.get? s.heap.objs.size = some oI:=⟨_,hst⟩
  have hfree:h₀.get? s.heap.objs.size = none:=next_is_new F
  have hIo:=hall s.heap.objs.size (List.mem_singleton.mpr rfl) hfree _ ho
  have hone:∀ p∈own,p = (s.heap.objs.size,oI):=fun p hp=>by
   have e1:=List.mem_singleton.mp (hown p hp)
   have e2:=hget p hp
   refine Prod.ext e1 ?_
   have e3:hh'.get? p.1 = some p.2:=e2
   rw [e1] at e3
   exact (Option.some.inj (ho.symm.trans e3)).symm
  refine wpAny_mono (turn i t m₁ news₁ hh' tk' _ oI hin hJ (fun p hp q=>hoff p hp (List.mem_singleton.mpr q)) F₁ (fun p hp=>?_)) (fun f s₂ p=>?_) fun O O e=>e
  ·rcases List.mem_cons.mp hp with rfl | hp
   ·exact N₁ _ (List.mem_append_left _ hIo)
   ·exact N₁ _ (List.mem_append_right _ hp)
  ·have fin:∀ {s₂:Shared},(∃ h' tk' m' news' led,s₂ = { s with heap:=h',toks:=tk' }∧Fr h₀ env.locals h' m'∧News h₀ env.locals h' led∧(s.heap.objs.size,oI)∈led∧(∀ p∈news',p∈led)∧(∀ p∈news',p.1≠s.heap.objs.size)∧J (i + 1) m' news') →
     LoopStepU h₀ env.locals [s.heap.objs.size] own (J (i + 1)) { s with heap:=hh',toks:=tk' } .next s₂:=by
    intro s₂ hx3
    obtain ⟨h',tk,m',news',led,e,F',N',hI,hsub,hne,hj'⟩:=hx3
    refine ⟨rfl,h',tk,m',news',e,F',fun p hp=>?_,fun p hp q=>hne p hp (List.mem_singleton.mp q),hj'⟩
    rcases List.mem_append.mp hp with hp | hp
    ·rw [hone p hp];exact N' _ hI
    ·exact N' _ (hsub p hp)
   cases f with
   | ret v=>exact .ret p
   | brk=>exact .brk p
   | next=>exact .next (fin p)
   | cont=>exact .cont (fin p)
 ·rintro h' tk m' news' F' N' _ hJ
  exact done m' news' h' tk hJ F' N'
theorem small_up {n:Nat} (h:n≤1000000):Builtin.Range.small 0 (n:Int) 1 = true:=small_one (by decide) (by decide) (by omega) (by omega)
theorem size_up (n:Nat):Builtin.Range.rangeSize 0 (n:Int) 1 = (n:Int):=by
 unfold Builtin.Range.rangeSize
 simp
 omega
theorem size_down (n:Nat):Builtin.Range.rangeSize ((n:Int) - 1) (-1) (-1) = (n:Int):=by
 unfold Builtin.Range.rangeSize
 simp
 omega
theorem small_down {n:Nat} (h:n≤1000000):Builtin.Range.small ((n:Int) - 1) (-1) (-1) = true:=by
 unfold Builtin.Range.small
 rw [size_down]
 simp only [Builtin.Range.rangeFitsLong,Bool.and_eq_true,Bool.or_eq_true,decide_eq_true_eq,beq_iff_eq,show ¬ ((-1:Int) > 0) by decide,if_false]
 omega
end
theorem bJ {h₀ h:Heap} {L:Addr} {a b:Led} (N:News h₀ L h a) (hs:∀ p∈b,p∈a):News h₀ L h b:=fun p hp=>N p (hs p hp)
section
variable {prog:Program} {w:World} {A:Around} {E:Value→Shared→Prop} {s:Shared} {env:Env} {h₀:Heap} {x:Str} {body:List Stmt} {Q:Flow→Shared→Prop}
theorem iter_up {r:Addr} {t₀ u₀ v₀:Tok} {n:Nat} {m₀:Str→Option Value} {news:Led} (J:Nat→(Str→Option Value)→Led→Prop)
  (hh:A.handled = none) (hr:IsRange s.heap r 0 (n:Int) 1 t₀ u₀ v₀) (hn:n≤1000000) (F:Fr h₀ env.locals s.heap m₀) (N:News h₀ env.locals s.heap news) (hj:J 0 m₀ news)
  (turn:∀ (i:Nat) t m₁ news₁ h tk I o,i < n→J i m₁ news₁→(∀ p∈news₁,p.1≠I)→Fr h₀ env.locals h (fun y=>if y = x then some (.int (i:Int) t) else m₁ y)→News h₀ env.locals h ((I,o)::news₁) →
   wpAny (model prog w) A (execs body env) (TurnJ h₀ env.locals (J (i + 1)) I o { s with heap:=h,toks:=tk } Q) E { s with heap:=h,toks:=tk })
  (done:∀ m₁ news₁ h tk,J n m₁ news₁→Fr h₀ env.locals h m₁→News h₀ env.locals h news₁→Q .next { s with heap:=h,toks:=tk }) :
  wpAny (model prog w) A (pyIter (.ref r)) (fun it s₂=>LoopAtV prog w A h₀ env x body Q E it s₂) E s :=
 iter_rangeJ (x:=x) J hh hr (small_up hn) (size_up n) F N hj (fun i t m₁ news₁ h tk I o hi hJ hne F₁ N₁=>turn i t m₁ news₁ h tk I o hi hJ hne (by rw [show (0:Int) + i * 1 = i from by omega] at F₁;exact F₁) N₁) done
theorem iter_down {r:Addr} {t₀ u₀ v₀:Tok} {n:Nat} {m₀:Str→Option Value} {news:Led} (J:Nat→(Str→Option Value)→Led→Prop)
  (hh:A.handled = none) (hr:IsRange s.heap r ((n:Int) - 1) (-1) (-1) t₀ u₀ v₀) (hn:n≤1000000) (F:Fr h₀ env.locals s.heap m₀) (N:News h₀ env.locals s.heap news) (hj:J n m₀ news)
  (turn:∀ (i:Nat) t m₁ news₁ h tk I o,i < n→J (i + 1) m₁ news₁→(∀ p∈news₁,p.1≠I)→Fr h₀ env.locals h (fun y=>if y = x then some (.int (i:Int) t) else m₁ y)→News h₀ env.locals h ((I,o)::news₁) →
   wpAny (model prog w) A (execs body env) (TurnJ h₀ env.locals (J i) I o { s with heap:=h,toks:=tk } Q) E { s with heap:=h,toks:=tk })
  (done:∀ m₁ news₁ h tk,J 0 m₁ news₁→Fr h₀ env.locals h m₁→News h₀ env.locals h news₁→Q .next { s with heap:=h,toks:=tk }) :
  wpAny (model prog w) A (pyIter (.ref r)) (fun it s₂=>LoopAtV prog w A h₀ env x body Q E it s₂) E s :=
 iter_rangeJ (x:=x) (fun i=>J (n - i)) hh hr (small_down hn) (size_down n) F N hj (fun i t m₁ news₁ h tk I o hi hJ hne F₁ N₁=>by
  have e:(n:Int) - 1 + i * -1 = ((n - 1 - i:Nat):Int):=by omega (splitNatSub:=true)
  rw [e] at F₁
  have e2:n - i = n - 1 - i + 1:=by omega (splitNatSub:=true)
  have e3:n - (i + 1) = n - 1 - i:=by omega (splitNatSub:=true)
  rw [e2] at hJ
  simp only [e3]
  exact turn (n - 1 - i) t m₁ news₁ h tk I o (by omega (splitNatSub:=true)) hJ hne F₁ N₁) (fun m₁ news₁ h tk hJ=>done m₁ news₁ h tk (by simpa using hJ))
theorem set_list {D:Addr} {items:Array Value} {n:Nat} {k:Int} {t:Tok} {v:Value} {L:Addr} {m:Str→Option Value} {news news':Led} {Q:Unit→Shared→Prop} (F:Fr h₀ L s.heap m) (N:News h₀ L s.heap news)
  (U:Upd D (listOf items n) (listOf (items.setIfInBounds k.toNat v) n) news news') (h0:0≤k) (h1:k < items.size) (hfit:k < 2 ^ 63) (h:∀ h',Fr h₀ L h' m→News h₀ L h' news'→Q () { s with heap:=h' }) :
  wpAny (model prog w) A (setItem (.ref D) (.int k t) v) Q E s:=by
 obtain ⟨pre,post,rfl,rfl,a,b⟩:=U.split
 have z:=N (D,listOf items n) (List.mem_append.mpr (.inr (.head _)))
 refine ki_setAt z.1 h0 hfit h1 (h _ (F.change (Heap.SameBut.update ..) z.2.1 z.2.2) (ki_turn _ N a b rfl ?_))
 simp
end
end
section
open PySem PySem.W PyProof.Rows
set_option maxRecDepth 100000
set_option tactic.hygienic false
theorem and_m32 {x:Int} (hx:0≤x):Builtin.bitAnd x 4294967295 = x % 4294967296:=by
 rw [eE hx (by decide)]
 have:(x.toNat &&& 4294967295) = x.toNat % 2 ^ 32:=by
  rw [show (4294967295:Nat) = 2 ^ 32 - 1 from rfl,Nat.and_two_pow_sub_one_eq_mod]
 show ((x.toNat &&& 4294967295:Nat):Int) = _
 rw [this,Int.natCast_emod,Int.toNat_of_nonneg hx];rfl
theorem or_comm_nn {x y:Int} (hx:0≤x) (hy:0≤y):Builtin.bitOr x y = Builtin.bitOr y x:=by
 rw [bitOr_and,bitOr_and,eE hx hy,eE hy hx,Nat.and_comm];omega
section
variable {prog:Program} {w:World} {A:Around} {E:Value→Shared→Prop} {s:Shared} {a b:Int} {t u:Tok} {Q:Value→Shared→Prop}
theorem shr16 (h:Q (.int (a / 65536) s.toks) { s with toks:=s.toks + 1 }):wpAny (model prog w) A (binaryOp .RShift (.int a t) (.int 16 u)) Q E s :=
 rshift_int (by decide) (by rw [show ((2:Int) ^ (16:Int).toNat) = 65536 from rfl,Int.fdiv_eq_ediv_of_nonneg _ (by decide)];exact h)
theorem shr24 (h:Q (.int (a / 16777216) s.toks) { s with toks:=s.toks + 1 }):wpAny (model prog w) A (binaryOp .RShift (.int a t) (.int 24 u)) Q E s :=
 rshift_int (by decide) (by rw [show ((2:Int) ^ (24:Int).toNat) = 16777216 from rfl,Int.fdiv_eq_ediv_of_nonneg _ (by decide)];exact h)
theorem shr32 (h:Q (.int (a / 4294967296) s.toks) { s with toks:=s.toks + 1 }):wpAny (model prog w) A (binaryOp .RShift (.int a t) (.int 32 u)) Q E s :=
 rshift_int (by decide) (by rw [show ((2:Int) ^ (32:Int).toNat) = 4294967296 from rfl,Int.fdiv_eq_ediv_of_nonneg _ (by decide)];exact h)
theorem andM32 (h0:0≤a) (h:Q (.int (a % 4294967296) s.toks) { s with toks:=s.toks + 1 }):wpAny (model prog w) A (binaryOp .BitAnd (.int a t) (.int 4294967295 u)) Q E s :=
 and_int (by rw [and_m32 h0];exact h)
theorem or8r (h0:0≤a) (h1:a < 256) (h2:0≤b) (h:Q (.int (a + b * 256) s.toks) { s with toks:=s.toks + 1 }):wpAny (model prog w) A (binaryOp .BitOr (.int (b * 256) u) (.int a t)) Q E s :=
 or_int (by rw [or_comm_nn (by omega) h0];have e:=or_shift (x:=a) (b:=b) 8 h0 h1 h2;rw [show ((2:Int) ^ 8) = 256 from rfl] at e;rw [e];exact h)
theorem add_bb {x y:Array UInt8} (hz:x.size + y.size≤16777216) (h:∀ t' k,Q (.bytes (x++y) t') { s with toks:=k }):wpAny (model prog w) A (binaryOp .Add (.bytes x t) (.bytes y u)) Q E s:=KBy.add_bytes hz h
theorem shl8b (h0:0≤a) (h1:a < 72057594037927936) (h:Q (.int (a * 256) s.toks) { s with toks:=s.toks + 1 }):wpAny (model prog w) A (binaryOp .LShift (.int a t) (.int 8 u)) Q E s :=
 lshift_int_small (by decide) (by decide) (by omega) h
end
end
section
open PySem PySem.W PyProof.Rows PySem.Spec
set_option maxRecDepth 100000
set_option tactic.hygienic false
section
variable {prog:Program} {w:World} {A:Around} {E:Value→Shared→Prop} {s:Shared} {env:Env} {h₀:Heap} {x:Str} {body:List Stmt} {Q:Flow→Shared→Prop}
theorem iter_listJ {l:Addr} {items:Array Value} {n:Nat} {m₀:Str→Option Value} {news:Led} (J:Nat→(Str→Option Value)→Led→Prop)
  (hh:A.handled = none) (F:Fr h₀ env.locals s.heap m₀) (N:News h₀ env.locals s.heap news) (hl:∀ i m' nw,J i m' nw→(l,listOf items n)∈nw) (hj:J 0 m₀ news)
  (turn:∀ (i:Nat) v m₁ news₁ h tk I o,items[i]? = some v→J i m₁ news₁→(∀ p∈news₁,p.1≠I)→Fr h₀ env.locals h (fun y=>if y = x then some v else m₁ y)→News h₀ env.locals h ((I,o)::news₁) →
   wpAny (model prog w) A (execs body env) (TurnJ h₀ env.locals (J (i + 1)) I o { s with heap:=h,toks:=tk } Q) E { s with heap:=h,toks:=tk })
  (done:∀ m₁ news₁ h tk,J items.size m₁ news₁→Fr h₀ env.locals h m₁→News h₀ env.locals h news₁→Q .next { s with heap:=h,toks:=tk }) :
  wpAny (model prog w) A (pyIter (.ref l)) (fun it s₂=>LoopAtV prog w A h₀ env x body Q E it s₂) E s:=by
 revert prog w A E s env h₀ x body Q l items n m₀ news J
 refine no_implicit_lambda% (e16 ?n fun T0=>(?_:bp T0) _ _ _ _ _ _ _ _ _ _ _ _ _ _ _ _)
 case n=>fail "n"
 intro prog w A E s env h₀ x body Q l items n m₀ news J
 intros
 clear T0
 have hm:=hl _ _ _ hj
 have hlist:=News.isList N hm
 have hlt:l < s.heap.objs.size:=Heap.lt_size (N _ hm).1
 refine wpAny_pyIter_list hlist ?_
 have W:=Walks.list (prog:=prog) (w:=w) hh s.heap.objs.size l (Nat.ne_of_lt hlt) items
 refine ⟨_,_,_,_,_,_,m₀,news,J,rfl,W,?_,?_,?_,⟨⟨_,Heap.get?_push_size _ rfl,rfl,rfl⟩,hlist.push _⟩,F.push _,(fun p hp=>⟨Heap.get?_push_of_some _ (N p hp).1,(N p hp).2⟩),hj,?_,?_⟩
 ·intro hm'
  rcases List.mem_cons.mp hm' with e | hm'
  ·exact absurd F.ns.lt (e ▸ Nat.lt_irrefl _)
  ·exact (N _ hm).2.1 (List.mem_singleton.mp hm').symm
 ·intro b hb
  rw [List.mem_singleton.mp hb]
  exact next_is_new F
 ·intro p hp hI
  exact absurd (Heap.lt_size (N p hp).1) ((List.mem_singleton.mp hI) ▸ Nat.lt_irrefl _)
 ·intro i v m₁ news₁ s₁ own hx1 hin hv hJ hoff hown hget hall hst F₁ N₁
  obtain ⟨hh',tk',rfl⟩:=hx1
  obtain ⟨oI,ho⟩:∃ oI,hh'.get? s.heap.objs.size = some oI:=by
   obtain ⟨⟨o,h1,_⟩,_⟩:=hst
   exact ⟨o,h1⟩
  have hfree:h₀.get? s.heap.objs.size = none:=next_is_new F
  have hIo:=hall s.heap.objs.size (.head _) hfree _ ho
  have hpl:=hl _ _ _ hJ
  have hplg:hh'.get? l = some (listOf items n):=(N₁ _ (List.mem_append_right _ hpl)).1
  have hone:∀ p∈own,p = (s.heap.objs.size,oI) ∨ p = (l,listOf items n):=fun p hp=>by
   have e2:hh'.get? p.1 = some p.2:=hget p hp
   rcases List.mem_cons.mp (hown p hp) with e1 | e1
   ·left
    refine Prod.ext e1 ?_
    rw [e1] at e2
    exact (Option.some.inj (ho.symm.trans e2)).symm
   ·right
    have e1:=List.mem_singleton.mp e1
    refine Prod.ext e1 ?_
    rw [e1] at e2
    exact (Option.some.inj (hplg.symm.trans e2)).symm
  refine wpAny_mono (turn i v m₁ news₁ hh' tk' _ oI hv hJ (fun p hp q=>hoff p hp (List.mem_singleton.mpr q)) F₁ (fun p hp=>?_)) (fun f s₂ p=>?_) fun O O e=>e
  ·rcases List.mem_cons.mp hp with rfl | hp
   ·exact N₁ _ (List.mem_append_left _ hIo)
   ·exact N₁ _ (List.mem_append_right _ hp)
  ·have fin:∀ {s₂:Shared},(∃ h' tk' m' news' led,s₂ = { s with heap:=h',toks:=tk' }∧Fr h₀ env.locals h' m'∧News h₀ env.locals h' led∧(s.heap.objs.size,oI)∈led∧(∀ p∈news',p∈led)∧(∀ p∈news',p.1≠s.heap.objs.size)∧J (i + 1) m' news') →
     LoopStepU h₀ env.locals [s.heap.objs.size] own (J (i + 1)) { s with heap:=hh',toks:=tk' } .next s₂:=by
    intro s₂ hx2
    obtain ⟨h',tk,m',news',led,e,F',N',hI,hsub,hne,hj'⟩:=hx2
    refine ⟨rfl,h',tk,m',news',e,F',fun p hp=>?_,fun p hp q=>hne p hp (List.mem_singleton.mp q),hj'⟩
    rcases List.mem_append.mp hp with hp | hp
    ·rcases hone p hp with rfl | rfl
     ·exact N' _ hI
     ·exact N' _ (hsub _ (hl _ _ _ hj'))
    ·exact N' _ (hsub p hp)
   cases f with
   | ret v=>exact .ret p
   | brk=>exact .brk p
   | next=>exact .next (fin p)
   | cont=>exact .cont (fin p)
 ·rintro h' tk m' news' F' N' _ hJ
  exact done m' news' h' tk hJ F' N'
theorem app_list {D:Addr} {items:Array Value} {n:Nat} {v:Value} {L:Addr} {m:Str→Option Value} {news news':Led} {Q:Value→Shared→Prop} (F:Fr h₀ L s.heap m) (N:News h₀ L s.heap news)
  (U:Upd D (listOf items n) (listOf (items.push v) (n + 1)) news news') (hz:items.size≤10000) (h:∀ h',Fr h₀ L h' m→News h₀ L h' news'→Q .none { s with heap:=h' }) :
  wpAny (model prog w) A (call (.builtin "list.append") [.ref D,v]) Q E s:=by
 obtain ⟨pre,post,rfl,rfl,a,b⟩:=U.split
 have z:=N (D,listOf items n) (List.mem_append.mpr (.inr (.head _)))
 have hl:s.heap.IsList D items:=PySem.IsL.isList (n:=n) z.1
 refine wpAny_call_entry slot_list_append hl.typeIs entry_list_append ?_ (args_list_append _ _)
 show wpAny _ _ (updateSeq D (·.push v) >>= fun O=>ret .none) _ _ s
 refine wpAny_bind ?_
 refine wpAny_updateSeq z.1 rfl (wpAny_pure ⟨.none,rfl,?_⟩) (by rw [sizeLine_eq];(try rw [Array.size_push]);omega)
 exact h _ (F.change (Heap.SameBut.update ..) z.2.1 z.2.2) (ki_turn _ N a b rfl (by simp))
end
end
end
end Internal
namespace Mine
section
open PySem PySem.W PyProof.Rows
set_option tactic.hygienic false
set_option maxRecDepth 100000 in
set_option maxHeartbeats 8000000 in
open_top hd for PySem.Challenge.rw_no0415_02
end
end Mine
namespace Internal
end Internal
namespace Internal
open PySem PySem.W PyProof.Rows
abbrev MM := Str → Option Value
abbrev FP := Flow → MM → Led → Prop
abbrev VP := Value → MM → Led → Prop
abbrev VS := Value → Shared → Prop
abbrev FS := Flow → Shared → Prop
theorem aR {α : Type} {a : α} {l l2 : List α} (h : a ∈ l2) : a ∈ l ++ l2 := List.mem_append_right _ h
theorem aL {α : Type} {a : α} {l l2 : List α} (h : a ∈ l) : a ∈ l ++ l2 := List.mem_append_left _ h
end Internal
namespace Internal
set_option rowWalk.seconds 0
theorem topOff : True := by
  w_top off
  exact True.intro
end Internal
set_option rowWalk.seconds 0
set_option genInjectivity false
set_option genSizeOf false
namespace Internal
local macro_rules | `(tactic| omega) => `(tactic| lia)
set_option hygiene false in
local macro_rules | `(tactic| fail "n") => `(tactic| (repeat' (first | infer_instance | exact neW | exact neB | exact neF | exact neA | exact neE | exact neS | refine nePr ?_ ?_ | ((refine ⟨?_⟩); repeat' (first | exact default | constructor)))))
set_option hygiene false in
local macro_rules | `(tactic| fail "p") => `(tactic| first | exact pgA rfl rfl | with_unfolding_all rfl)
set_option hygiene false in
local macro_rules | `(tactic| fail "q") => `(tactic| first | exact fiA rfl rfl | with_unfolding_all rfl)
local macro_rules | `(tactic| fail "r") => `(tactic| with_unfolding_all rfl)
local macro_rules | `(nofun) => `(by with_unfolding_all rfl)
set_option hygiene false in
local macro_rules | `(decl_name%) => `(af rfl rfl rfl rfl)
set_option hygiene false in
local macro_rules | `(tactic| fail "c") => `(tactic| rcases List.mem_cons.mp hp with rfl | hp)
set_option hygiene false in
local macro_rules | `(tactic| fail "a") => `(tactic| rcases List.mem_append.mp hp with hp | hp)
set_option hygiene false in
local macro_rules | `(tactic| fail "e") => `(tactic| ((case ho => with_unfolding_all rfl); (case hcd => with_unfolding_all rfl); (case hb => exact fun s => BindsTo.of_eq rfl); (case hl => exact locs rfl); (case c1 => rfl); (case c2 => rfl); (case c3 => rfl); (case c4 => decide)))
section
open PySem PySem.W PyProof.Rows
set_option tactic.hygienic false
noncomputable def nmsOf (C : Addr) : List Str := if C = 611 then ["inner", "seq", "low", "high", "going", "good", "saved_key", "saved_value"] else if C = 506 then ["children", "tops", "order", "current", "going"] else if C = 380 then ["rows", "order", "place"] else []
section
variable {w:World}
theorem nms_ok:∀ C∈[(611:Addr),506,380],(nmsOf C).all (fun nm=>plainGet (Mine.hd.heap_39 w.params) C nm && decide (findIn (Mine.hd.heap_39 w.params) (.ref C) nm = some none)) = true:=by
 intro C h
 rcases List.mem_cons.mp h with rfl | h
 ·with_unfolding_all rfl
 rcases List.mem_cons.mp h with rfl | h
 ·with_unfolding_all rfl
 rcases List.mem_cons.mp h with rfl | h
 ·with_unfolding_all rfl
 ·cases h
theorem nms_at {C:Addr} {nm:Str} (hC:[(611:Addr),506,380].contains C = true) (h:(nmsOf C).contains nm = true):plainGet (Mine.hd.heap_39 w.params) C nm = true∧findIn (Mine.hd.heap_39 w.params) (.ref C) nm = some none:=by
 have e:=List.all_eq_true.mp (nms_ok (w:=w) C (List.contains_iff_mem.mp hC)) nm (List.contains_iff_mem.mp h)
 rw [Bool.and_eq_true,decide_eq_true_eq] at e
 exact e
theorem pgA {C:Addr} {nm:Str} (hC:[(611:Addr),506,380].contains C = true) (h:(nmsOf C).contains nm = true):plainGet (Mine.hd.heap_39 w.params) C nm = true:=(nms_at hC h).1
theorem fiA {C:Addr} {nm:Str} (hC:[(611:Addr),506,380].contains C = true) (h:(nmsOf C).contains nm = true):findIn (Mine.hd.heap_39 w.params) (.ref C) nm = some none:=(nms_at hC h).2
end
noncomputable abbrev VW:=Mine.hd.view_39
structure IK where
 u:Array UInt8
 q:Nat
 k:Nat
noncomputable def tagL (q k:Nat):List Int:=[(k:Int),((q % 256:Nat):Int),((q / 256 % 256:Nat):Int),((q / 65536 % 256:Nat):Int),((q / 16777216 % 256:Nat):Int),((q / 4294967296 % 256:Nat):Int),((q / 1099511627776 % 256:Nat):Int),((q / 281474976710656 % 256:Nat):Int)]
noncomputable def IK.ints (e:IK):List Int:=KBw.bInts e.u++tagL e.q e.k
noncomputable def ikb (e:IK):Array UInt8:=byteArr e.ints
structure IK.Ok (e:IK):Prop where
 q:e.q < 72057594037927936
 k:e.k < 256
 u:e.u.size≤1000
noncomputable def IK.tag (e:IK):Int:=(e.q:Int) * 256 + e.k
theorem md_in (n:Nat):(0:Int)≤((n % 256:Nat):Int)∧((n % 256:Nat):Int) < 256:=⟨Int.natCast_nonneg _,Int.ofNat_lt.mpr (Nat.mod_lt _ (by decide))⟩
theorem bA {P:Int→Prop} {a:Int} {l:List Int} (h:P a) (k:∀ n∈l,P n):∀ n∈a::l,P n:=List.forall_mem_cons.mpr ⟨h,k⟩
theorem tagL_in {q k:Nat} (h:k < 256):∀ n∈tagL q k,0≤n∧n < 256 :=
 bA ⟨Int.natCast_nonneg _,Int.ofNat_lt.mpr h⟩ (bA (md_in _) (bA (md_in _) (bA (md_in _) (bA (md_in _) (bA (md_in _) (bA (md_in _) (bA (md_in _) fun O h=>nomatch h)))))))
theorem ints_in (e:IK) (h:e.Ok):KBa.In e.ints:=by
 intro n hn
 rcases List.mem_append.mp hn with h1 | h1
 ·exact KBw.ints_in h1
 ·exact tagL_in h.k n h1
theorem bInts_ikb (e:IK) (h:e.Ok):KBw.bInts (ikb e) = e.ints:=KBa.ints_make (ints_in e h)
theorem ints_len (e:IK):e.ints.length = e.u.size + 8:=by simp [IK.ints,tagL,KBw.bInts]
theorem d7 (e:IK) (j:Nat):e.ints.getD (e.u.size + j) 0 = (tagL e.q e.k).getD j 0:=by
 unfold IK.ints
 have:(KBw.bInts e.u).length = e.u.size:=by simp [KBw.bInts]
 rw [List.getD_eq_getElem?_getD,List.getD_eq_getElem?_getD,List.getElem?_append_right (by omega),this]
 congr 2;omega
theorem dg (q m:Nat):((q / m:Nat):Int) = ((q / m % 256:Nat):Int) + ((q / (m * 256):Nat):Int) * 256:=by
 rw [← Nat.div_div_eq_div_mul];omega
theorem t_sum {k q a b c d e f g x1 x2 x3 x4 x5 x6:Int} (h0:q = a + x1 * 256) (h1:x1 = b + x2 * 256) (h2:x2 = c + x3 * 256) (h3:x3 = d + x4 * 256) (h4:x4 = e + x5 * 256) (h5:x5 = f + x6 * 256) (h6:x6 = g) :
  k + a * 256 + b * 65536 + c * 16777216 + (d + e * 256 + f * 65536 + g * 16777216) * 4294967296 = q * 256 + k:=by
 subst h0 h1 h2 h3 h4 h5 h6;lia
theorem tag_sum (e:IK) (h:e.Ok):(tagL e.q e.k).getD 0 0 + (tagL e.q e.k).getD 1 0 * 256 + (tagL e.q e.k).getD 2 0 * 65536 + (tagL e.q e.k).getD 3 0 * 16777216 + ((tagL e.q e.k).getD 4 0 + (tagL e.q e.k).getD 5 0 * 256 + (tagL e.q e.k).getD 6 0 * 65536 + (tagL e.q e.k).getD 7 0 * 16777216) * 4294967296 = e.tag :=
 t_sum (by have:=dg e.q 1;rwa [Nat.div_one] at this) (dg e.q 256) (dg e.q 65536) (dg e.q 16777216) (dg e.q 4294967296) (dg e.q 1099511627776) (congrArg Nat.cast (Nat.mod_eq_of_lt (Nat.div_lt_of_lt_mul h.q)).symm)
noncomputable def aV (a b:IK):Int:=if ltB a.u b.u then -1 else if ltB b.u a.u then 1 else if b.tag < a.tag then -1 else if a.tag < b.tag then 1 else 0
inductive cA (rest:Led) (o:Addr):Prop
 | mk (duo uo dd:Addr) (h:Int) (t:Tok) (n:Nat) (m1:(o,instObj 284 duo)∈rest) (m2:(duo,dictOf [⟨h,.str "user_order" t,.ref uo⟩] n)∈rest) (m3:(uo,instObj 230 dd)∈rest) (m4:(dd,dictOf [] 0)∈rest):cA rest o
section
variable {w:World} {dp un:Nat} {gd:Option (List Code)} {cn:Str} {cs:Scope} {a:Addr} {ccd:Value} {cl:List (Str × Addr)} {outer:List Env} {A₀:Around} {base h₀:Heap} {L:Addr} {m mg mb:MM} {mean:ExcName→Option Value} {s:Shared} {rest:Led}
 {Q E:VS}
end
abbrev Row:=IK × Array UInt8
noncomputable abbrev aS (vs:List Value) (n:Nat):Obj:={ cls:=.type "tuple",data:=.seq vs.toArray n }
structure LP where
 h1:Int
 h2:Int
 h3:Int
 t1:Tok
 t2:Tok
 t3:Tok
noncomputable abbrev LD (q:LP) (r o:Addr) (p:Int) (t:Tok):Obj:=dictOf [⟨q.h1,.str "rows" q.t1,.ref r⟩,⟨q.h2,.str "order" q.t2,.ref o⟩,⟨q.h3,.str "place" q.t3,.int p t⟩] 3
structure bG (rest:Led) (c dx o r:Addr) (vs:Array Value) (n2:Nat) (R:List Row):Prop where
 inst:(c,instObj 380 dx)∈rest
 lst:(r,listOf vs n2)∈rest
 len:vs.size = R.length
 row:∀ (i:Nat) (k:IK) (v:Array UInt8),R[i]? = some (k,v)→∃ a t1 t2 n,vs[i]? = some (.ref a)∧(a,aS [.bytes (ikb k) t1,.bytes v t2] n)∈rest
 ok:∀ x∈R,x.1.Ok
 small:R.length≤1000
 ord:cA rest o
theorem cA.mono {rest rest':Led} {o:Addr} (h:cA rest o) (hs:∀ p∈rest,p∈rest'):cA rest' o:=by
 obtain ⟨duo,uo,dd,hh,tt,n,m1,m2,m3,m4⟩:=h
 exact ⟨duo,uo,dd,hh,tt,n,hs _ m1,hs _ m2,hs _ m3,hs _ m4⟩
section
variable {prog:Program} {w:World} {A:Around} {E:VS} {s:Shared} {h₀:Heap} {L:Addr} {news:Led}
theorem item_list {value slice:Expr} {l:Addr} {items:Array Value} {n:Nat} {k:Int} {u:Tok} {v:Value} {Q:VS} (N:News h₀ L s.heap news) (hm:(l,listOf items n)∈news)
  (h0:0≤k) (hf:k < 2 ^ 63) (hx:items[k.toNat]? = some v) (h:Q v s) (hs:subscripted slice false (.ref l) (.int k u) = operate [.ref l,.int k u] (getItem (.ref l) (.int k u)):=by with_unfolding_all rfl) :
  wpAny (model prog w) A (subscriptTail value slice (.ref l) (.int k u)) Q E s :=
 have hl:=News.isList N hm
 tail_any hl.typeIs slot_list_getitem.lookup (wpAny_getItem_list hl h0 hf hx h) hs
end
section
variable {prog:Program} {w:World} {A:Around} {E:VS} {s:Shared} {h₀:Heap} {L:Addr} {news:Led}
theorem item_tup {value slice:Expr} {l:Addr} {items:List Value} {n:Nat} {k:Int} {u:Tok} {v:Value} {Q:VS} (N:News h₀ L s.heap news) (hm:(l,aS items n)∈news)
  (h0:0≤k) (hf:k < 2 ^ 63) (hx:items[k.toNat]? = some v) (h:Q v s) (hs:subscripted slice false (.ref l) (.int k u) = operate [.ref l,.int k u] (getItem (.ref l) (.int k u)):=by with_unfolding_all rfl) :
  wpAny (model prog w) A (subscriptTail value slice (.ref l) (.int k u)) Q E s:=by
 have ht:=News.isTup N hm
 have hlt:=(List.getElem?_eq_some_iff.mp hx).1
 refine tail_any ht.typeIs slot_tuple_getitem.lookup (getItem_tuple ht (by omega) hf (j:=k.toNat) (by have g:k.toNat < items.length:=hlt;have e:=Int.toNat_of_nonneg h0;simp only [seqIndex?,if_neg (Int.not_lt.mpr h0)];rw [if_pos (by simp only [List.size_toArray,Bool.and_eq_true,decide_eq_true_eq];exact ⟨h0,e ▸ Int.ofNat_lt.mpr g⟩)]) (by simpa using hx) h) hs
end
section
variable {w:World} {dp un:Nat} {gd:Option (List Code)} {cn:Str} {cs:Scope} {a:Addr} {ccd:Value} {cl:List (Str × Addr)} {outer:List Env} {A₀:Around} {base h₀:Heap} {L:Addr} {m mg mb:MM} {mean:ExcName→Option Value} {s:Shared} {rest:Led}
 {Q E:VS} {c dx o r:Addr} {vs:Array Value} {n2:Nat} {R:List Row} {q:LP} {p:Int} {t:Tok}
end
structure KS where
 c:Addr
 kd:Bool
 R:List Row
 fp:Led
 st:Option Nat
noncomputable def KS.key (k:KS):Option IK:=k.st.bind fun i=>(k.R[i]?).map (·.1)
inductive MN | valid | key | value | first | last | seek | step | back
def MN.name:MN→Str
 | .valid=>"valid" | .key=>"key" | .value=>"value" | .first=>"seek_first" | .last=>"seek_last" | .seek=>"seek" | .step=>"step" | .back=>"back"
def adr:Bool→MN→Addr
 | false,.valid=>321 | false,.key=>370 | false,.value=>377 | false,.first=>335 | false,.last=>342 | false,.seek=>349 | false,.step=>356 | false,.back=>363
 | true,.valid=>426 | true,.key=>496 | true,.value=>503 | true,.first=>440 | true,.last=>447 | true,.seek=>454 | true,.step=>482 | true,.back=>489
def cls:Bool→Addr | false=>380 | true=>506
noncomputable def Off (fp T:Led):Prop:=∀ p∈fp,∀ q∈T,q.1≠p.1
noncomputable def am (w:World) (D:Nat) (f:Addr) (args:List Value) (fp rest:Led) (post:Value→Led→Prop):Prop :=
 ∀ (dp un:Nat) (gd:Option (List Code)) (cn:Str) (cs:Scope) (a:Addr) (ccd:Value) (cl:List (Str × Addr)) (outer:List Env) (A₀:Around) (base h₀:Heap) (L:Addr) (m mg mb:MM) (mean:ExcName→Option Value) (s:Shared) (Q E:VS),
  Below A₀ base outer h₀→Fr h₀ L s.heap m→(Mine.hd.heap_39 w.params).In h₀→News h₀ L s.heap (fp++rest)→Top VW (looseW VW []) mean mg mb h₀→cs.kind = .function→dp + D < recursionLimit→un + 8 * D < cLine →
  (∀ r fp' h' tk',Fr h₀ L h' m→News h₀ L h' (fp'++rest)→post r fp'→Q r { s with heap:=h',toks:=tk' }) →
  wpAny (model Challenge.rw_no0415_02.row.prog w) (ktrTop dp un gd cn cs L a ccd cl outer) (call (.ref f) args) Q E s
noncomputable def c7 (R:List Row):Option Nat:=if R = [] then none else some 0
noncomputable def eS (R:List Row):Option Nat:=if R = [] then none else some (R.length - 1)
noncomputable def bM (R:List Row) (e:IK):Option Nat:=let i:=(R.takeWhile fun x=>decide (aV x.1 e < 0)).length;if i < R.length then some i else none
noncomputable def dn (R:List Row) (i:Nat):Option Nat:=if i + 1 < R.length then some (i + 1) else none
noncomputable def prevAt (i:Nat):Option Nat:=if i = 0 then none else some (i - 1)
abbrev aN:=Led→Led→Addr→Bool→List Row→Option Nat→Prop
noncomputable def ak (a b:Led):Prop:=a.map (·.1) = b.map (·.1)
structure al (w:World) (D:Nat) (C:aN):Prop where
 mono:∀ {fp rest rest' c kd R st},C fp rest c kd R st→(∀ p∈rest,p∈rest')→C fp rest' c kd R st
 obj:∀ {fp rest c kd R st},C fp rest c kd R st→∃ dx es n,(c,instObj (cls kd) dx)∈rest∧(dx,dictOf es n)∈fp∧∀ mn:MN,getL mn.name es = some none
 ok:∀ {fp rest c kd R st},C fp rest c kd R st→∀ x∈R,x.1.Ok
 size:∀ {fp rest c kd R st},C fp rest c kd R st→R.length≤100000∧∀ i,st = some i→i < R.length
 valid:∀ {fp rest E0 c kd R st},C fp rest c kd R st→(∀ p∈rest,p∈E0)→am w D (adr kd .valid) [.ref c] fp E0 fun r fp'=>r = .bool st.isSome∧fp' = fp
 key:∀ {fp rest E0 c kd R i x},C fp rest c kd R (some i)→R[i]? = some x→(∀ p∈rest,p∈E0)→am w D (adr kd .key) [.ref c] fp E0 fun r fp'=>(∃ t,r = .bytes (ikb x.1) t)∧fp' = fp
 value:∀ {fp rest E0 c kd R i x},C fp rest c kd R (some i)→R[i]? = some x→(∀ p∈rest,p∈E0)→am w D (adr kd .value) [.ref c] fp E0 fun r fp'=>(∃ t,r = .bytes x.2 t)∧fp' = fp
 first:∀ {fp rest E0 c kd R st},C fp rest c kd R st→(∀ p∈rest,p∈E0)→Off fp E0→am w D (adr kd .first) [.ref c] fp E0 fun r fp'=>r = .none∧ak fp' fp∧C fp' rest c kd R (c7 R)
 last:∀ {fp rest E0 c kd R st},C fp rest c kd R st→(∀ p∈rest,p∈E0)→Off fp E0→am w D (adr kd .last) [.ref c] fp E0 fun r fp'=>r = .none∧ak fp' fp∧C fp' rest c kd R (eS R)
 seek:∀ {fp rest E0 c kd R st} {e:IK} {t:Tok},C fp rest c kd R st→(∀ p∈rest,p∈E0)→Off fp E0→e.Ok→am w D (adr kd .seek) [.ref c,.bytes (ikb e) t] fp E0 fun r fp'=>r = .none∧ak fp' fp∧C fp' rest c kd R (bM R e)
 step:∀ {fp rest E0 c kd R i},C fp rest c kd R (some i)→(∀ p∈rest,p∈E0)→Off fp E0→am w D (adr kd .step) [.ref c] fp E0 fun r fp'=>r = .none∧ak fp' fp∧C fp' rest c kd R (dn R i)
 back:∀ {fp rest E0 c kd R i},C fp rest c kd R (some i)→(∀ p∈rest,p∈E0)→Off fp E0→am w D (adr kd .back) [.ref c] fp E0 fun r fp'=>r = .none∧ak fp' fp∧C fp' rest c kd R (prevAt i)
section
variable {w:World} {dp un D:Nat} {gd:Option (List Code)} {cn:Str} {cs:Scope} {a f:Addr} {ccd:Value} {cl:List (Str × Addr)} {outer:List Env} {A₀:Around} {base h₀:Heap} {L:Addr} {m mg mb:MM} {mean:ExcName→Option Value} {s:Shared} {news fp rest:Led}
 {Q E:VS} {args:List Value} {post:Value→Led→Prop}
theorem am.use (H:am w D f args fp rest post) (B:Below A₀ base outer h₀) (F:Fr h₀ L s.heap m) (X:(Mine.hd.heap_39 w.params).In h₀) (N:News h₀ L s.heap news) (T:Top VW (looseW VW []) mean mg mb h₀) (hk:cs.kind = .function) (hd:dp + D < recursionLimit) (hu:un + 8 * D < cLine)
  (hs:∀ p∈fp++rest,p∈news) (k:∀ r fp' h' tk',Fr h₀ L h' m→News h₀ L h' (fp'++rest)→post r fp'→Q r { s with heap:=h',toks:=tk' }) :
  wpAny (model Challenge.rw_no0415_02.row.prog w) (ktrTop dp un gd cn cs L a ccd cl outer) (call (.ref f) args) Q E s :=
 H dp un gd cn cs a ccd cl outer A₀ base h₀ L m mg mb mean s Q E B F X (bJ N hs) T hk hd hu k
end
noncomputable def aC (ks:List KS):Led:=ks.flatMap (·.fp)
structure dW (C:aN) (rest:Led) (ks:List KS):Prop where
 cur:∀ k∈ks,C k.fp rest k.c k.kd k.R k.st
 off:∀ k∈ks,Off k.fp rest
 apart:ks.Pairwise fun a b=>Off a.fp b.fp
theorem Off.symm {a b:Led} (h:Off a b):Off b a:=fun p hp q hq e=>h q hq p hp e.symm
theorem Off.adr {a a' b:Led} (h:Off a b) (e:ak a' a):Off a' b:=fun p hp q hq=>by
 have:p.1∈a.map (·.1):=e ▸ List.mem_map_of_mem hp
 obtain ⟨p',hp',e'⟩:=List.mem_map.mp this
 rw [← e'];exact h p' hp' q hq
theorem bS {ks:List KS} {k:KS} (h:k∈ks):∀ p∈k.fp,p∈aC ks:=fun p hp=>List.mem_flatMap.mpr ⟨k,h,hp⟩
theorem mem_kfps_set {ks:List KS} {i:Nat} {k':KS} {p:Addr × Obj} (h:p∈aC (ks.set i k')):p∈k'.fp ∨ p∈aC (ks.eraseIdx i):=by
 obtain ⟨k,hk,hp⟩:=List.mem_flatMap.mp h
 obtain ⟨j,hj⟩:=List.mem_iff_getElem?.mp hk
 by_cases e:i = j
 ·subst e
  rw [List.getElem?_set] at hj
  simp only [if_true] at hj
  split at hj
  ·cases hj;exact .inl hp
  ·cases hj
 ·rw [List.getElem?_set_ne e] at hj
  refine .inr (List.mem_flatMap.mpr ⟨k,?_,hp⟩)
  rw [List.mem_iff_getElem?]
  by_cases hlt:j < i
  ·exact ⟨j,by rw [List.getElem?_eraseIdx_of_lt hlt];exact hj⟩
  ·exact ⟨j - 1,by rw [List.getElem?_eraseIdx_of_ge (by omega),show j - 1 + 1 = j by omega];exact hj⟩
theorem mem_erase_of {ks:List KS} {i:Nat} {p:Addr × Obj} (h:p∈aC (ks.eraseIdx i)):p∈aC ks:=by
 obtain ⟨k,hk,hp⟩:=List.mem_flatMap.mp h
 exact List.mem_flatMap.mpr ⟨k,List.mem_of_mem_eraseIdx hk,hp⟩
theorem off_erase {ks:List KS} {i:Nat} {k:KS} (ha:ks.Pairwise fun a b=>Off a.fp b.fp) (hk:ks[i]? = some k):Off k.fp (aC (ks.eraseIdx i)):=by
 intro p hp q hq
 obtain ⟨k2,hk2,hq2⟩:=List.mem_flatMap.mp hq
 obtain ⟨j,hj⟩:=List.mem_iff_getElem?.mp hk2
 have hi:=(List.getElem?_eq_some_iff.mp hk).1
 rw [List.pairwise_iff_getElem] at ha
 have ek:=(List.getElem?_eq_some_iff.mp hk).2
 by_cases hlt:j < i
 ·rw [List.getElem?_eraseIdx_of_lt hlt] at hj
  obtain ⟨hj1,hj2⟩:=List.getElem?_eq_some_iff.mp hj
  have:=ha j i hj1 hi hlt
  rw [hj2,ek] at this
  exact fun e=>this q hq2 p hp e.symm
 ·rw [List.getElem?_eraseIdx_of_ge (by omega)] at hj
  obtain ⟨hj1,hj2⟩:=List.getElem?_eq_some_iff.mp hj
  have:=ha i (j + 1) hi hj1 (by omega)
  rw [hj2,ek] at this
  exact this p hp q hq2
theorem dW.set {C:aN} {rest:Led} {ks:List KS} {i:Nat} {k:KS} {fp':Led} {st':Option Nat} (K:dW C rest ks) (hk:ks[i]? = some k) (ha:ak fp' k.fp) (hC:C fp' rest k.c k.kd k.R st') :
  dW C rest (ks.set i { k with fp:=fp',st:=st' }):=by
 have hmem:=List.mem_of_getElem? hk
 have hi:=(List.getElem?_eq_some_iff.mp hk).1
 have ek:=(List.getElem?_eq_some_iff.mp hk).2
 refine ⟨fun k2 h2=>?_,fun k2 h2=>?_,?_⟩
 ·rcases List.mem_or_eq_of_mem_set h2 with h | rfl
  ·exact K.cur _ h
  ·exact hC
 ·rcases List.mem_or_eq_of_mem_set h2 with h | rfl
  ·exact K.off _ h
  ·exact (K.off _ hmem).adr ha
 ·have ap:=K.apart
  rw [List.pairwise_iff_getElem] at ap ⊢
  intro a b h1 h2 hab
  have h1':a < ks.length:=by simpa using h1
  have h2':b < ks.length:=by simpa using h2
  have:=ap a b h1' h2' hab
  rw [List.getElem_set,List.getElem_set]
  split
  ·rename_i e
   subst e
   rw [if_neg (by omega)]
   rw [ek] at this
   exact this.adr ha
  ·split
   ·rename_i e
    subst e
    rw [ek] at this
    exact (this.symm.adr ha).symm
   ·exact this
section
variable {w:World} {dp un D:Nat} {gd:Option (List Code)} {cn:Str} {cs:Scope} {a f:Addr} {ccd:Value} {cl:List (Str × Addr)} {outer:List Env} {A₀:Around} {base h₀:Heap} {L:Addr} {m mg mb:MM} {mean:ExcName→Option Value} {s:Shared} {news ext rest:Led}
 {Q E:VS} {args:List Value} {C:aN} {ks:List KS} {i:Nat} {k:KS} {st':Option Nat}
end
section
variable {w:World} {dp un D:Nat} {gd:Option (List Code)} {cn:Str} {cs:Scope} {a f c:Addr} {ccd:Value} {cl:List (Str × Addr)} {outer:List Env} {A₀ A:Around} {base h₀:Heap} {L:Addr} {m mg mb:MM} {mean:ExcName→Option Value} {s:Shared} {news fp rest:Led}
 {E:VS} {C:aN} {kd:Bool} {R:List Row} {st:Option Nat}
set_option maxRecDepth 100000 in
set_option maxHeartbeats 8000000 in
theorem gm_cur {pl:Sem Bool} {Q:Value × List Value→Shared→Prop} (S:al w D C) (hC:C fp rest c kd R st) (F:Fr h₀ L s.heap m) (X:(Mine.hd.heap_39 w.params).In h₀) (N:News h₀ L s.heap news) (hs:∀ p∈fp++rest,p∈news) (mn:MN)
  (h:Q (.ref (adr kd mn),[.ref c]) s):wpAny (model Challenge.rw_no0415_02.row.prog w) A (getMethod (.ref c) mn.name pl) Q E s:=by
 obtain ⟨dx,es,n,h1,h2,h3⟩:=S.obj hC
 have I:=InstAt.of_news N (hs _ (aR h1)) (hs _ (aL h2))
 have h3:=h3 mn
 revert X
 k_fill
 intro X
 cases kd <;> cases mn <;> exact method_inst F X I (by k_is) (by k_is) (by k_is) h3 h
theorem aP (w:World) (kd:Bool) (mn:MN):keepIn (Mine.hd.heap_39 w.params) (.ref (adr kd mn)) = true:=by
 have:∀ h:Heap,(Mine.hd.heap_39 w.params).In h→keepIn (Mine.hd.heap_39 w.params) (.ref (adr kd mn)) = true:=by
  intro h
  cases kd <;> cases mn <;> (intro X;k_is)
 cases kd <;> cases mn <;> rfl
variable {Q:VS}
end
noncomputable abbrev PG:Program:=Challenge.rw_no0415_02.row.prog
structure Bx where
 dp:Nat
 un:Nat
 gd:Option (List Code)
 cl:List (Str × Addr)
 outer:List Env
 A₀:Around
 base:Heap
 g:Heap
 L:Addr
 mg:MM
 mb:MM
 mean:ExcName→Option Value
structure FnC where
 cn:Str
 cs:Scope
 a:Addr
 cd:Value
noncomputable def tpx (F:FnC) (b:Bx):Around:=ktrTop b.dp b.un b.gd F.cn F.cs b.L F.a F.cd b.cl b.outer
noncomputable def evx (F:FnC) (b:Bx):Env:=envX F.cn F.cs b.L F.a F.cd b.cl
structure Okx (w:World) (D:Nat) (b:Bx):Prop where
 B:Below b.A₀ b.base b.outer b.g
 X:(Mine.hd.heap_39 w.params).In b.g
 T:Top VW (looseW VW []) b.mean b.mg b.mb b.g
 hd:b.dp + D < recursionLimit
 hu:b.un + 8 * D < cLine
noncomputable def Lx {α:Type} (w:World) (F:FnC) (b:Bx) (t:Sem α) (φ:α→MM→Led→Prop) (m:MM) (led:Led):Prop :=
 ∀ (s:Shared) (Q:α→Shared→Prop) (E:VS),Fr b.g b.L s.heap m→News b.g b.L s.heap led →
  (∀ a m' led' h' tk',φ a m' led'→Fr b.g b.L h' m'→News b.g b.L h' led'→Q a { s with heap:=h',toks:=tk' }) →
  wpAny (model PG w) (tpx F b) t Q E s
section
variable {w:World} {F:FnC} {b:Bx} {m:MM} {led:Led} {φ:FP}
theorem Lx.mono {α:Type} {t:Sem α} {φ ψ:α→MM→Led→Prop} (h:Lx w F b t φ m led) (hs:∀ a m' led',φ a m' led'→ψ a m' led'):Lx w F b t ψ m led:=fun s Q E f n k=>h s Q E f n fun a m' led' h' tk' p=>k a m' led' h' tk' (hs _ _ _ p)
theorem ae {env:Env} (h:φ .next m led):Lx w F b (execs [] env) φ m led:=fun s Q E f n k=>wpAny_execs_nil (k .next m led s.heap s.toks h f n)
theorem lx_cons {st:Stmt} {rest:List Stmt} {env:Env} {ψ:FP} (h:Lx w F b (exec st env) ψ m led) (h1:∀ m' led',ψ .next m' led'→Lx w F b (execs rest env) φ m' led') (h2:∀ f m' led',f≠.next→ψ f m' led'→φ f m' led') :
  Lx w F b (execs (st::rest) env) φ m led:=fun s Q E f n k=>wpAny_execs_cons (h s _ E f n fun fl m' led' h' tk' hp F' N'=>by
 cases fl with
 | next=>exact h1 _ _ hp _ _ _ F' N' k
 | ret v=>exact k _ _ _ _ _ (h2 _ _ _ (by simp) hp) F' N'
 | brk=>exact k _ _ _ _ _ (h2 _ _ _ (by simp) hp) F' N'
 | cont=>exact k _ _ _ _ _ (h2 _ _ _ (by simp) hp) F' N')
end
noncomputable def retv (fl:Flow):Value:=match fl with | .ret v=>v | _=>.none
section
variable {w:World} {D:Nat} {f:Addr} {args:List Value} {fp rest:Led} {post:Value→Led→Prop} {name qual:Str} {params:Arguments} {body:List Stmt} {scope:Scope} {dV kV doc pm cdv ct oc:Value} {an od:Option Addr} {osl:Array (Option Value)} {binds:List (Str × Value)}
theorem calls_of (ho:(Mine.hd.heap_39 w.params).lookup f = some ⟨oc,od,.func (fnOf name qual params body scope dV kV doc pm an cdv ct),osl⟩) (hcd:codeIn (Mine.hd.heap_39 w.params) cdv qual = true)
  (hbind:∀ s,BindsTo s (fnOf name qual params body scope dV kV doc pm an cdv ct) ⟨args,[]⟩ binds) (hloc:∀ y∈binds,scope.names.lookup y.1 = some .local)
  (hco:scope.isCoroutine = false) (hgen:scope.isGenerator = false) (hk:scope.kind = .function) (hcell:∀ x∈scope.names,x.2≠.cell)
  (h:∀ b:Bx,Okx w D b→Lx w ⟨qual,scope,f,cdv⟩ b (execs body (evx ⟨qual,scope,f,cdv⟩ b)) (fun fl O led'=>∃ fp',led' = fp'++rest∧post (retv fl) fp') (fun y=>binds.reverse.lookup y) (fp++rest)) :
  am w (D + 1) f args fp rest post:=by
 intro dp un gd cn cs a ccd cl outer A₀ base h₀ L m mg mb mean s Q E B F X N T hkk hd hu k
 refine wpAny_call ?_
 refine code_def (env:=envX cn cs L a ccd cl) (outer:=outer) B F X N T rfl rfl hkk ho hcd ?_ (hbind s) hloc (fun g L' h' FG F' N' B' X' T'=>?_) hco hgen hk hcell
 ·show dp < recursionLimit;omega
 ·refine h ⟨dp + 1,un + 3,gd,[],envX cn cs L a ccd cl::outer,_,base,g,L',mg,mb,mean⟩ ⟨B',X',T',by show dp + 1 + D < _;omega,by show un + 3 + 8 * D < _;omega⟩ _ _ _ F' N' ?_
  intro fl m' led' h'' tk' hp F'' N''
  obtain ⟨fp',rfl,hp⟩:=hp
  refine leaveK_ F'' N'' fun F3 N3=>?_
  exact k _ _ _ _ F3 N3 hp
end
noncomputable def Rx {α:Type} (w:World) (F:FnC) (b:Bx) (t:Sem α) (v:Nat→α) (k:Nat) (m:MM) (led:Led):Prop :=
 ∀ (s:Shared) (Q:α→Shared→Prop) (E:VS),Fr b.g b.L s.heap m→News b.g b.L s.heap led→Q (v s.toks) { s with toks:=s.toks + k }→wpAny (model PG w) (tpx F b) t Q E s
noncomputable def ms (m:MM) (x:Str) (v:Value):MM:=fun y=>if y = x then some v else m y
theorem aq {m:MM} {x y:Str} {v:Value} {r:Option Value} (h:(y == x) = false) (e:m y = r):ms m x v y = r:=(if_neg (by simpa using h)).trans e
section
variable {w:World} {D:Nat} {F:FnC} {b:Bx} {m:MM} {led:Led} {φ:FP} {x name:Str} {p pos:Pos} {v:Value} {r C dx:Addr} {es:List DictEntry} {n:Nat}
theorem di (hv:m x = some v) (hk:F.cs.kind = .function) (hx:(evx F b).kindOf x = some .local) (hd:(x == ("__debug__":Str)) = false):Rx w F b (eval (.Name x p) (evx F b)) (fun O=>v) 0 m led :=
 fun O O O f O q=>nameX_L f hv q hk hx hd
theorem rx_none {k pos} {env:Env}:Rx w F b (eval (.Constant .none k pos) env) (fun O=>.none) 0 m led:=fun O O O O O q=>wpAny_Constant_none q
theorem rx_bool {c:Bool} {k pos} {env:Env}:Rx w F b (eval (.Constant (.bool c) k pos) env) (fun O=>.bool c) 0 m led:=fun O O O O O q=>wpAny_Constant_bool q
theorem rx_int {i:Int} {k pos} {env:Env}:Rx w F b (eval (.Constant (.int i) k pos) env) (fun t=>.int i t) 1 m led:=fun O O O O O q=>wpAny_Constant_int q
theorem rx_attr {at':Option Value} (ok:Okx w D b) (hv:m x = some (.ref r)) (m1:(r,instObj C dx)∈led) (m2:(dx,dictOf es n)∈led) (hg:plainGet (Mine.hd.heap_39 w.params) C name = true) (hh:hasDictIn (Mine.hd.heap_39 w.params) C = true)
  (ha:findIn (Mine.hd.heap_39 w.params) (.ref C) name = some at') (hn:noGet (Mine.hd.heap_39 w.params) at' = true) (hl:getL name es = some (some v)) (hw:handedIn v = true)
  (hk:F.cs.kind = .function) (hx:(evx F b).kindOf x = some .local) (hd:(x == ("__debug__":Str)) = false)
  (he:eval (.Attribute (.Name x p) name pos) (evx F b) = (do
   let o ← eval (.Name x p) (evx F b)
   standAt pos.atName
   let q ← holding [o] (getAttr o name true)
   letTemporaryGo (.Name x p) o q
   pure q)):Rx w F b (eval (.Attribute (.Name x p) name pos) (evx F b)) (fun O=>v) 1 m led :=
 fun O O O f N q=>attr_L f ok.X hv (InstAt.of_news N m1 m2) hg hh ha hn hl hw q hk hx hd he
end
section
variable {w:World} {D D':Nat} {F:FnC} {b:Bx} {m:MM} {led:Led} {φ:FP} {ψ:VP} {x name:Str} {p pos:Pos} {v:Value} {r C dx f:Addr} {es:List DictEntry} {n:Nat} {env:Env}
theorem lx_expr {e:Expr} (h:Lx w F b (eval e env) (fun O=>φ .next) m led) (hi:interactive env = false) (hs:swapsWith e none pos.line env = pure false):Lx w F b (exec (.Expr e pos) env) φ m led :=
 fun s Q E f N q=>wpAny_Expr_any (h s _ E f N fun a m' led' h' tk' hp F' N'=>q _ _ _ h' tk' hp F' N') hi hs
theorem dB {e:Expr} (h:Lx w F b (eval e env) (fun v=>φ (.ret v)) m led):Lx w F b (exec (.Return (some e) pos) env) φ m led :=
 fun s Q E f N q=>wpAny_Return_some (h s _ E f N fun a m' led' h' tk' hp F' N'=>q _ _ _ h' tk' hp F' N')
theorem aM {value:Expr} {pos':Pos} (h:Lx w F b (eval value (evx F b)) (fun v m' led'=>φ .next (ms m' x v) led') m led) (hk:F.cs.kind = .function) (hx:(evx F b).kindOf x = some .local)
  (hs:swapsWith value (some (.Name x pos')) pos.line (evx F b) = pure false):Lx w F b (exec (.Assign [.Name x pos'] value pos) (evx F b)) φ m led :=
 fun s Q E f N q=>wpAny_Assign_Name (h s _ E f N fun a m' led' h' tk' hp F' N'=>storeX_L F' N' (fun h'' F'' N''=>q _ _ _ h'' _ hp F'' N'') hk hx) hs
theorem lx_ifC {test:Expr} {body orelse:List Stmt} {θ:Bool→MM→Led→Prop} (h:Lx w F b (isTrue test env (eval test env)) θ m led) (h1:∀ m' led',θ true m' led'→Lx w F b (execs body env) φ m' led')
  (h2:∀ m' led',θ false m' led'→Lx w F b (execs orelse env) φ m' led'):Lx w F b (exec (.If test body orelse pos) env) φ m led:=fun s Q E f N q=>wpAny_If (h s _ E f N fun a m' led' h' tk' hp F' N'=>by
 cases a with
 | true=>exact h1 _ _ hp _ _ _ F' N' q
 | false=>exact h2 _ _ hp _ _ _ F' N' q)
theorem aX {args:List Value} {fp rest:Led} {post:Value→Led→Prop} (ok:Okx w D b) (hk:F.cs.kind = .function) (hD:D'≤D) (H:am w D' f args fp rest post) (hs:∀ p∈fp++rest,p∈led) (hp:∀ r fp',post r fp'→ψ r m (fp'++rest)) :
  Lx w F b (call (.ref f) args) ψ m led:=fun s Q E F' N q =>
 H.use ok.B F' ok.X N ok.T hk (by have:=ok.hd;omega) (by have:=ok.hu;omega) hs fun r fp' h' tk' F'' N'' hr=>q _ _ _ h' tk' (hp _ _ hr) F'' N''
end
noncomputable def turnφ (φ:FP) (J:Nat→MM→Led→Prop) (n:Nat):FP
 | .next,m',led'=>∃ n',n' < n∧J n' m' led'
 | .cont,m',led'=>∃ n',n' < n∧J n' m' led'
 | .brk,m',led'=>φ .next m' led'
 | .ret v,m',led'=>φ (.ret v) m' led'
section
variable {w:World} {D D':Nat} {F:FnC} {b:Bx} {m:MM} {led:Led} {φ:FP} {θ:Bool→MM→Led→Prop} {env:Env} {pos:Pos}
theorem lx_while {test:Expr} {body:List Stmt} (J:Nat→MM→Led→Prop) (n₀:Nat) (hJ:J n₀ m led)
  (turn:∀ n m₁ led₁,J n m₁ led₁→Lx w F b (isTrue test env (eval test env)) (fun c m' led'=>if c = true then Lx w F b (execs body env) (turnφ φ J n) m' led' else φ .next m' led') m₁ led₁) :
  Lx w F b (exec (.While test body [] pos) env) φ m led:=fun s Q E f N q=>by
 refine wpAny_mono (E:=fun O O=>False) (While_inv2 J (n₀:=n₀) (Q:=Q) f N hJ (fun n m₁ news₁ h₁ tk₁ F₁ N₁ J₁=>?_) ?_) (fun O O x=>x) fun O O x=>x.elim
 ·refine turn n m₁ news₁ J₁ _ _ _ F₁ N₁ fun c m' led' h' tk' hp F' N'=>?_
  cases c with
  | false=>exact q _ _ _ h' tk' hp F' N'
  | true =>
   show wpAny _ _ (execs body env) (WhileStep2 b.g b.L s J Q n) _ _
   refine hp _ _ _ F' N' fun fl m2 led2 h2 tk2 hp2 F2 N2=>?_
   cases fl with
   | next=>obtain ⟨n',hn,hJ'⟩:=hp2;exact ⟨h2,tk2,m2,led2,n',rfl,F2,N2,hn,hJ'⟩
   | cont=>obtain ⟨n',hn,hJ'⟩:=hp2;exact ⟨h2,tk2,m2,led2,n',rfl,F2,N2,hn,hJ'⟩
   | brk=>exact q _ _ _ h2 tk2 hp2 F2 N2
   | ret v=>exact q _ _ _ h2 tk2 hp2 F2 N2
 ·passes_own
end
noncomputable def kφ (w:World) (F:FnC) (b:Bx) (env:Env) (rest:List Stmt) (φ:FP):FP
 | .next,m',led'=>Lx w F b (execs rest env) φ m' led'
 | .brk,m',led'=>φ .brk m' led'
 | .cont,m',led'=>φ .cont m' led'
 | .ret v,m',led'=>φ (.ret v) m' led'
section
variable {w:World} {D D':Nat} {F:FnC} {b:Bx} {m:MM} {led:Led} {φ:FP} {ψ:VP} {env:Env} {pos:Pos} {C f:Addr} {name x:Str}
theorem aj {st:Stmt} {rest:List Stmt} (h:Lx w F b (exec st env) (kφ w F b env rest φ) m led):Lx w F b (execs (st::rest) env) φ m led :=
 fun s Q E f N q=>wpAny_execs_cons (h s _ E f N fun fl m' led' h' tk' hp F' N'=>by
  cases fl with
  | next=>exact hp _ _ _ F' N' q
  | ret v=>exact q _ _ _ _ _ hp F' N'
  | brk=>exact q _ _ _ _ _ hp F' N'
  | cont=>exact q _ _ _ _ _ hp F' N')
theorem rx_cur {pl:Sem Bool} {Cu:aN} {fp rest:Led} {c:Addr} {kd:Bool} {R:List Row} {st:Option Nat} (ok:Okx w D b) (S:al w D' Cu) (hC:Cu fp rest c kd R st) (hs:∀ p∈fp++rest,p∈led) (mn:MN) :
  Rx w F b (getMethod (.ref c) mn.name pl) (fun O=>(.ref (adr kd mn),[.ref c])) 0 m led:=fun O O O f N q=>gm_cur S hC f ok.X N hs mn q
end
section
variable {w:World} {D:Nat} {F:FnC} {b:Bx} {m:MM} {led:Led} {φ:FP} {env:Env} {pos:Pos}
theorem lx_break (h:φ .brk m led):Lx w F b (exec (.Break pos) env) φ m led:=fun s Q E f N q=>wpAny_Break (q _ _ _ s.heap s.toks h f N)
theorem lx_continue (h:φ .cont m led):Lx w F b (exec (.Continue pos) env) φ m led:=fun s Q E f N q=>wpAny_Continue (q _ _ _ s.heap s.toks h f N)
theorem lx_ret0 (h:φ (.ret .none) m led):Lx w F b (exec (.Return none pos) env) φ m led:=fun s Q E f N q=>wpAny_Return_none (q _ _ _ s.heap s.toks h f N)
section
variable {x y:Int} {t u:Tok}
end
end
section
variable {w:World} {D:Nat} {F:FnC} {b:Bx} {m:MM} {led:Led} {x:Str} {v:Value} {p:Pos}
theorem rx_glob (ok:Okx w D b) (e:nsIn (Mine.hd.heap_39 w.params) mainGlobals x = some (some v)) (hk:F.cs.kind = .function) (hx:(evx F b).kindOf x = some .globalImplicit) (hd:(x == ("__debug__":Str)) = false) :
  Rx w F b (eval (.Name x p) (evx F b)) (fun O=>v) 0 m led:=fun O O O f O q=>nameX_K f ok.X (topRead_of ok.T) e q hk hx hd
end
section
variable {w:World} {D:Nat} {F:FnC} {b:Bx} {m:MM} {led:Led} {ψ:VP} {name:Str} {pos apos:Pos} {env:Env} {pl:Sem Bool} {ov fv:Value} {first:List Value} {k k2:Nat} {o e:Expr} {rest:List Expr} {vs:Nat→List Value}
end
section
variable {w:World} {D:Nat} {F:FnC} {b:Bx} {m:MM} {led:Led} {φ:FP} {pos:Pos} {value:Expr} {x y z:Str} {px py pz tpos:Pos}
end
section
variable {w:World} {D:Nat} {F:FnC} {b:Bx} {m:MM} {led:Led} {ψ:VP} {env:Env} {pos:Pos}
end
theorem neB:Nonempty Bx:=⟨⟨0,0,none,[],[],{},default,default,0,fun O=>none,fun O=>none,fun O=>none⟩⟩
theorem neF:Nonempty FnC:=⟨⟨"",⟨.function,[],false,false,[]⟩,0,.none⟩⟩
section
variable {α β:Type} {O:Bx→Prop} {K G:Bx→α→Prop} {K2 G2:Bx→α→β→Prop}
noncomputable def cP (i:Nonempty α) (O:Bx→Prop) (K G:Bx→α→Prop):Bx × α:=pk (nePr neB i) fun x=>O x.1→K x.1 x.2→G x.1 x.2
theorem eC (i:Nonempty α) (η:Tg (∀ b φ,O b→K b φ→G b φ)→O (cP i O K G).1→K (cP i O K G).1 (cP i O K G).2→G (cP i O K G).1 (cP i O K G).2):∀ b,O b→∀ φ,K b φ→G b φ:=fun b h φ =>
 e1 (nePr neB i) (P:=fun x=>O x.1→K x.1 x.2→G x.1 x.2) (fun t=>by unfold cP at η;exact η t) (b,φ) h
end
theorem neM {α β γ:Type}:Nonempty (α→β→γ→Prop):=⟨fun O O O=>True⟩
noncomputable def Px {α:Type} (w:World) (F:FnC) (b:Bx) (t:Sem α) (P:α→Prop) (m:MM) (led:Led):Prop :=
 ∀ (s:Shared) (Q:α→Shared→Prop) (E:VS),Fr b.g b.L s.heap m→News b.g b.L s.heap led →
  (∀ a h' tk',P a→Fr b.g b.L h' m→News b.g b.L h' led→Q a { s with heap:=h',toks:=tk' })→wpAny (model PG w) (tpx F b) t Q E s
noncomputable def IsI (i:Int) (v:Value):Prop:=∃ t,v = .int i t
noncomputable def IsB (x:Array UInt8) (v:Value):Prop:=∃ t,v = .bytes x t
section
variable {w:World} {D D':Nat} {F:FnC} {b:Bx} {m:MM} {led:Led} {α:Type} {t:Sem α} {P P':α→Prop} {env:Env} {pos:Pos} {x name:Str} {p apos:Pos} {v fv:Value} {r C dx f:Addr} {es:List DictEntry} {n:Nat}
theorem Rx.px {v:Nat→α} {k:Nat} (h:Rx w F b t v k m led) (hp:∀ t,P (v t)):Px w F b t P m led :=
 fun s Q E f N q=>h s Q E f N (q _ s.heap _ (hp _) f N)
theorem Px.mono (h:Px w F b t P m led) (hp:∀ a,P a→P' a):Px w F b t P' m led:=fun s Q E f N q=>h s Q E f N fun a h' tk' pa=>q a h' tk' (hp a pa)
theorem Px.lx {φ:α→MM→Led→Prop} (h:Px w F b t P m led) (hp:∀ a,P a→φ a m led):Lx w F b t φ m led :=
 fun s Q E f N q=>h s Q E f N fun a h' tk' pa F' N'=>q a m led h' tk' (hp a pa) F' N'
theorem Lx.sub {φ:α→MM→Led→Prop} {led':Led} (hs:∀ p∈led',p∈led) (h:Lx w F b t φ m led'):Lx w F b t φ m led:=fun s Q E f N q=>h s Q E f (bJ N hs) q
theorem af (hv:m x = some v) (hk:F.cs.kind = .function) (hx:(evx F b).kindOf x = some .local) (hd:(x == ("__debug__":Str)) = false):Px w F b (eval (.Name x p) (evx F b)) (fun a=>a = v) m led :=
 (di hv hk hx hd).px fun O=>rfl
theorem ac {P:Value→Prop} (hv:∃ v,m x = some v∧P v) (hk:F.cs.kind = .function) (hx:(evx F b).kindOf x = some .local) (hd:(x == ("__debug__":Str)) = false):Px w F b (eval (.Name x p) (evx F b)) P m led:=by
 obtain ⟨v,hv,hp⟩:=hv
 exact (di hv hk hx hd).px fun O=>hp
theorem ao (ok:Okx w D b) (e:nsIn (Mine.hd.heap_39 w.params) mainGlobals x = some (some v)) (hk:F.cs.kind = .function) (hx:(evx F b).kindOf x = some .globalImplicit) (hd:(x == ("__debug__":Str)) = false) :
  Px w F b (eval (.Name x p) (evx F b)) (fun a=>a = v) m led:=(rx_glob ok e hk hx hd).px fun O=>rfl
theorem au {i:Int} {t:Tok} (ok:Okx w D b) (e:nsIn (Mine.hd.heap_39 w.params) mainGlobals x = some (some (.int i t))) (hk:F.cs.kind = .function) (hx:(evx F b).kindOf x = some .globalImplicit) (hd:(x == ("__debug__":Str)) = false) :
  Px w F b (eval (.Name x p) (evx F b)) (IsI i) m led:=(rx_glob ok e hk hx hd).px fun O=>⟨_,rfl⟩
theorem ab {i:Int} {k pos}:Px w F b (eval (.Constant (.int i) k pos) env) (IsI i) m led:=rx_int.px fun O=>⟨_,rfl⟩
theorem bQ {k pos}:Px w F b (eval (.Constant .none k pos) env) (fun a=>a = .none) m led:=rx_none.px fun O=>rfl
theorem bX {c:Bool} {k pos}:Px w F b (eval (.Constant (.bool c) k pos) env) (fun a=>a = .bool c) m led:=rx_bool.px fun O=>rfl
theorem px_bytes {c:List UInt8} {k pos}:Px w F b (eval (.Constant (.bytes c) k pos) env) (IsB c.toArray) m led:=fun s Q E f N q=>Constant_bytes (q _ s.heap _ ⟨_,rfl⟩ f N)
theorem ag {at':Option Value} (ok:Okx w D b) (hv:m x = some (.ref r)) (m1:(r,instObj C dx)∈led) (m2:(dx,dictOf es n)∈led) (hl:getL name es = some (some v)) (hw:handedIn v = true) (hg:plainGet (Mine.hd.heap_39 w.params) C name = true) (hh:hasDictIn (Mine.hd.heap_39 w.params) C = true)
  (ha:findIn (Mine.hd.heap_39 w.params) (.ref C) name = some at') (hn:noGet (Mine.hd.heap_39 w.params) at' = true)
  (hk:F.cs.kind = .function) (hx:(evx F b).kindOf x = some .local) (hd:(x == ("__debug__":Str)) = false)
  (he:eval (.Attribute (.Name x p) name pos) (evx F b) = (do
   let o ← eval (.Name x p) (evx F b)
   standAt pos.atName
   let q ← holding [o] (getAttr o name true)
   letTemporaryGo (.Name x p) o q
   pure q)):Px w F b (eval (.Attribute (.Name x p) name pos) (evx F b)) (fun a=>a = v) m led :=
 (rx_attr ok hv m1 m2 hg hh ha hn hl hw hk hx hd he).px fun O=>rfl
theorem ar {args:List Value} {fp:Led} {post:Value→Led→Prop} {P:Value→Prop} (ok:Okx w D b) (H:am w D' f args fp led post) (hp:∀ r fp',post r fp'→P r) (hs:∀ p∈fp,p∈led) (hk:F.cs.kind = .function) (hD:D'≤D) :
  Px w F b (call (.ref f) args) P m led:=fun s Q E F' N q =>
 H.use ok.B F' ok.X N ok.T hk (by have:=ok.hd;omega) (by have:=ok.hu;omega) (fun p hm=>(List.mem_append.mp hm).elim (hs p) _root_.id) fun r fp' h' tk' F'' N'' hr=>q _ _ _ (hp _ _ hr) F'' (bJ N'' fun O hp=>aR hp)
theorem aw {pl:Sem Bool} (ok:Okx w D b) (m1:(r,instObj C dx)∈led) (m2:(dx,dictOf es n)∈led) (hl:getL name es = some none) (hg:plainGet (Mine.hd.heap_39 w.params) C name = true) (hf:findIn (Mine.hd.heap_39 w.params) (.ref C) name = some (some (.ref f))) (hb:isFn (Mine.hd.heap_39 w.params) (.ref f) = true) :
  Px w F b (getMethod (.ref r) name pl) (fun a=>a = (.ref f,[.ref r])) m led:=fun s Q E f N q=>method_inst f ok.X (InstAt.of_news N m1 m2) hg hf hb hl (q _ _ _ rfl f N)
theorem bD {pl:Sem Bool} {Cu:aN} {fp rest:Led} {c:Addr} {kd:Bool} {R:List Row} {st:Option Nat} (ok:Okx w D b) (S:al w D' Cu) (hC:Cu fp rest c kd R st) (hs:∀ p∈fp++rest,p∈led) (mn:MN) :
  Px w F b (getMethod (.ref c) mn.name pl) (fun a=>a = (.ref (adr kd mn),[.ref c])) m led:=(rx_cur ok S hC hs mn).px fun O=>rfl
theorem az {e:Expr} {P:Value→Prop} (h1:Px w F b (eval e env) P m led) (he:starEach [e] env = (false,eval e env)::starEach [] env) :
  Px w F b (spliced (backTo pos (starEach [e] env))) (fun vs=>∃ v,vs = [v]∧P v) m led:=fun s Q E f N q =>
 args_cons (h1 s _ E f N fun a h' tk' pa F' N'=>args_nil (q _ _ _ ⟨a,rfl,pa⟩ F' N')) he
theorem aU {e e2:Expr} {P P2:Value→Prop} (h1:Px w F b (eval e env) P m led) (h2:Px w F b (eval e2 env) P2 m led) (he:starEach [e,e2] env = (false,eval e env)::starEach [e2] env) (he2:starEach [e2] env = (false,eval e2 env)::starEach [] env) :
  Px w F b (spliced (backTo pos (starEach [e,e2] env))) (fun vs=>∃ v v2,vs = [v,v2]∧P v∧P2 v2) m led:=fun s Q E f N q =>
 args_cons (h1 s _ E f N fun a h' tk' pa F' N'=>args_cons (h2 _ _ E F' N' fun a2 h2' tk2' pa2 F2' N2'=>args_nil (q _ _ _ ⟨a,a2,rfl,pa,pa2⟩ F2' N2')) he2) he
theorem bY {e e2 e3:Expr} {P P2 P3:Value→Prop} (h1:Px w F b (eval e env) P m led) (h2:Px w F b (eval e2 env) P2 m led) (h3:Px w F b (eval e3 env) P3 m led) (he:starEach [e,e2,e3] env = (false,eval e env)::starEach [e2,e3] env) (he2:starEach [e2,e3] env = (false,eval e2 env)::starEach [e3] env) (he3:starEach [e3] env = (false,eval e3 env)::starEach [] env) :
  Px w F b (spliced (backTo pos (starEach [e,e2,e3] env))) (fun vs=>∃ v v2 v3,vs = [v,v2,v3]∧P v∧P2 v2∧P3 v3) m led:=fun s Q E f N q =>
 args_cons (h1 s _ E f N fun a h' tk' pa F' N'=>args_cons (h2 _ _ E F' N' fun a2 h2' tk2' pa2 F2' N2'=>args_cons (h3 _ _ E F2' N2' fun a3 h3' tk3' pa3 F3' N3'=>args_nil (q _ _ _ ⟨a,a2,a3,rfl,pa,pa2,pa3⟩ F3' N3')) he3) he2) he
theorem ar1 {v:Value} {G:List Value→Prop} (k:G [v]):∀ vs,(∃ x,vs = [x]∧x = v)→G vs:=fun O h=>by obtain ⟨_,rfl,rfl⟩:=h;exact k
theorem ar2 {v v2:Value} {G:List Value→Prop} (k:G [v,v2]):∀ vs,(∃ x y,vs = [x,y]∧x = v∧y = v2)→G vs:=fun O h=>by obtain ⟨_,_,rfl,rfl,rfl⟩:=h;exact k
theorem ar3 {v v2 v3:Value} {G:List Value→Prop} (k:G [v,v2,v3]):∀ vs,(∃ x y z,vs = [x,y,z]∧x = v∧y = v2∧z = v3)→G vs:=fun O h=>by obtain ⟨_,_,_,rfl,rfl,rfl,rfl⟩:=h;exact k
theorem ar1i {i:Int} {G:List Value→Prop} (k:∀ t,G [.int i t]):∀ vs,(∃ x,vs = [x]∧IsI i x)→G vs:=fun O h=>by obtain ⟨_,rfl,⟨t,rfl⟩⟩:=h;exact k t
theorem ar2i {i j:Int} {G:List Value→Prop} (k:∀ t u,G [.int i t,.int j u]):∀ vs,(∃ x y,vs = [x,y]∧IsI i x∧IsI j y)→G vs:=fun O h=>by obtain ⟨_,_,rfl,⟨t,rfl⟩,⟨u,rfl⟩⟩:=h;exact k t u
theorem ar2b {X Y:Array UInt8} {G:List Value→Prop} (k:∀ t u,G [.bytes X t,.bytes Y u]):∀ vs,(∃ x y,vs = [x,y]∧IsB X x∧IsB Y y)→G vs:=fun O h=>by obtain ⟨_,_,rfl,⟨t,rfl⟩,⟨u,rfl⟩⟩:=h;exact k t u
theorem lm0 {o:Expr} {pl:Sem Bool} {ov:Value} {first:List Value} {ψ:VP} (ok:Okx w D b) (h1:Px w F b (eval o env) (fun a=>a = ov) m led) (h2:Px w F b (getMethod ov name pl) (fun a=>a = (fv,first)) m led) (h4:Lx w F b (call fv (first++[])) ψ m led) (hk:keepIn (Mine.hd.heap_39 w.params) fv = true)
  (he:eval (.Call (.Attribute o name apos) [] [] pos) env = (do
   let ov ← eval o env
   standAt apos.atName
   let (f,first) ← holding [ov] (getMethod ov name pl)
   callWith pos f first (backTo pos (starEach [] env)) [])):Lx w F b (eval (.Call (.Attribute o name apos) [] [] pos) env) ψ m led :=
 fun s Q E f N q=>MethodCall_ (h1 s _ E f N fun a h' tk' pa F' N'=>by subst pa;exact h2 _ _ E F' N' fun a h2' tk2' pa F2' N2'=>by subst pa;exact callWith_K0 (ok.X.keeps F2'.keep) hk (h4 _ _ _ F2' N2' q)) he
theorem pm0 {o:Expr} {pl:Sem Bool} {ov:Value} {first:List Value} {P:Value→Prop} (ok:Okx w D b) (h1:Px w F b (eval o env) (fun a=>a = ov) m led) (h2:Px w F b (getMethod ov name pl) (fun a=>a = (fv,first)) m led) (h4:Px w F b (call fv (first++[])) P m led) (hk:keepIn (Mine.hd.heap_39 w.params) fv = true)
  (he:eval (.Call (.Attribute o name apos) [] [] pos) env = (do
   let ov ← eval o env
   standAt apos.atName
   let (f,first) ← holding [ov] (getMethod ov name pl)
   callWith pos f first (backTo pos (starEach [] env)) [])):Px w F b (eval (.Call (.Attribute o name apos) [] [] pos) env) P m led :=
 fun s Q E f N q=>MethodCall_ (h1 s _ E f N fun a h' tk' pa F' N'=>by subst pa;exact h2 _ _ E F' N' fun a h2' tk2' pa F2' N2'=>by subst pa;exact callWith_K0 (ok.X.keeps F2'.keep) hk (h4 _ _ _ F2' N2' q)) he
theorem lm1 {o e:Expr} {rest:List Expr} {pl:Sem Bool} {ov:Value} {first:List Value} {A:List Value→Prop} {ψ:VP} (ok:Okx w D b) (h1:Px w F b (eval o env) (fun a=>a = ov) m led) (h2:Px w F b (getMethod ov name pl) (fun a=>a = (fv,first)) m led)
  (h3:Px w F b (spliced (backTo pos (starEach (e::rest) env))) A m led) (h4:∀ vs,A vs→Lx w F b (call fv (first++vs)) ψ m led) (hk:keepIn (Mine.hd.heap_39 w.params) fv = true)
  (ha:starEach (e::rest) env = (false,eval e env)::starEach rest env) (hp:(backTo pos (starEach rest env)).any (·.1) = false)
  (he:eval (.Call (.Attribute o name apos) (e::rest) [] pos) env = (do
   let ov ← eval o env
   standAt apos.atName
   let (f,first) ← holding [ov] (getMethod ov name pl)
   callWith pos f first (backTo pos (starEach (e::rest) env)) [])):Lx w F b (eval (.Call (.Attribute o name apos) (e::rest) [] pos) env) ψ m led :=
 fun s Q E f N q=>MethodCall_ (h1 s _ E f N fun a h' tk' pa F' N'=>by
  subst pa
  exact h2 _ _ E F' N' fun a h2' tk2' pa F2' N2'=>by
   subst pa
   exact callWith_K ok.X hk (h3 _ _ E F2' N2' fun vs h3' tk3' pa F3' N3'=>⟨ok.X.keeps F3'.keep,h4 vs pa _ _ _ F3' N3' q⟩) ha hp) he
theorem pm1 {o e:Expr} {rest:List Expr} {pl:Sem Bool} {ov:Value} {first:List Value} {A:List Value→Prop} {P:Value→Prop} (ok:Okx w D b) (h1:Px w F b (eval o env) (fun a=>a = ov) m led) (h2:Px w F b (getMethod ov name pl) (fun a=>a = (fv,first)) m led)
  (h3:Px w F b (spliced (backTo pos (starEach (e::rest) env))) A m led) (h4:∀ vs,A vs→Px w F b (call fv (first++vs)) P m led) (hk:keepIn (Mine.hd.heap_39 w.params) fv = true)
  (ha:starEach (e::rest) env = (false,eval e env)::starEach rest env) (hp:(backTo pos (starEach rest env)).any (·.1) = false)
  (he:eval (.Call (.Attribute o name apos) (e::rest) [] pos) env = (do
   let ov ← eval o env
   standAt apos.atName
   let (f,first) ← holding [ov] (getMethod ov name pl)
   callWith pos f first (backTo pos (starEach (e::rest) env)) [])):Px w F b (eval (.Call (.Attribute o name apos) (e::rest) [] pos) env) P m led :=
 fun s Q E f N q=>MethodCall_ (h1 s _ E f N fun a h' tk' pa F' N'=>by
  subst pa
  exact h2 _ _ E F' N' fun a h2' tk2' pa F2' N2'=>by
   subst pa
   exact callWith_K ok.X hk (h3 _ _ E F2' N2' fun vs h3' tk3' pa F3' N3'=>⟨ok.X.keeps F3'.keep,h4 vs pa _ _ _ F3' N3' q⟩) ha hp) he
theorem lf1 {o e:Expr} {rest:List Expr} {A:List Value→Prop} {ψ:VP} (ok:Okx w D b) (h1:Px w F b (eval o env) (fun a=>a = fv) m led)
  (h3:Px w F b (spliced (backTo pos (starEach (e::rest) env))) A m led) (h4:∀ vs,A vs→Lx w F b (call fv ([]++vs)) ψ m led) (hk:keepIn (Mine.hd.heap_39 w.params) fv = true)
  (ha:starEach (e::rest) env = (false,eval e env)::starEach rest env) (hp:(backTo pos (starEach rest env)).any (·.1) = false)
  (he:eval (.Call o (e::rest) [] pos) env = (do callWith pos (← eval o env) [] (backTo pos (starEach (e::rest) env)) (backToKw pos (keywordEach [] env)))):Lx w F b (eval (.Call o (e::rest) [] pos) env) ψ m led :=
 fun s Q E f N q=>Call_ (h1 s _ E f N fun a h' tk' pa F' N'=>by
  subst pa
  exact callWith_K ok.X hk (h3 _ _ E F' N' fun vs h3' tk3' pa F3' N3'=>⟨ok.X.keeps F3'.keep,h4 vs pa _ _ _ F3' N3' q⟩) ha hp) he
theorem pf1 {o e:Expr} {rest:List Expr} {A:List Value→Prop} {P:Value→Prop} (ok:Okx w D b) (h1:Px w F b (eval o env) (fun a=>a = fv) m led)
  (h3:Px w F b (spliced (backTo pos (starEach (e::rest) env))) A m led) (h4:∀ vs,A vs→Px w F b (call fv ([]++vs)) P m led) (hk:keepIn (Mine.hd.heap_39 w.params) fv = true)
  (ha:starEach (e::rest) env = (false,eval e env)::starEach rest env) (hp:(backTo pos (starEach rest env)).any (·.1) = false)
  (he:eval (.Call o (e::rest) [] pos) env = (do callWith pos (← eval o env) [] (backTo pos (starEach (e::rest) env)) (backToKw pos (keywordEach [] env)))):Px w F b (eval (.Call o (e::rest) [] pos) env) P m led :=
 fun s Q E f N q=>Call_ (h1 s _ E f N fun a h' tk' pa F' N'=>by
  subst pa
  exact callWith_K ok.X hk (h3 _ _ E F' N' fun vs h3' tk3' pa F3' N3'=>⟨ok.X.keeps F3'.keep,h4 vs pa _ _ _ F3' N3' q⟩) ha hp) he
end
section
variable {w:World} {D D':Nat} {F:FnC} {b:Bx} {m:MM} {led:Led} {env:Env} {pos:Pos} {l r:Expr} {i j:Int} {x y:Array UInt8} {whole:Sem Value} {c c2:Bool}
theorem aG {op:Operator} {P P2 P3:Value→Prop} (h1:Px w F b (eval l env) P m led) (h2:Px w F b (eval r env) P2 m led) (h3:∀ u v,P u→P2 v→Px w F b (binaryOp op u v) P3 m led):Px w F b (eval (.BinOp l op r pos) env) P3 m led:=fun s Q E f N q =>
 wpAny_BinOp (h1 s _ E f N fun a h' tk' pa F' N'=>h2 _ _ E F' N' fun a2 h2' tk2' pa2 F2' N2'=>h3 a a2 pa pa2 _ _ _ F2' N2' q)
theorem cJ (h1:Px w F b (eval l env) (IsI i) m led) (h2:Px w F b (eval r env) (IsI j) m led):Px w F b (eval (.BinOp l .Add r pos) env) (IsI (i + j)) m led :=
 aG h1 h2 fun u v hu hv s Q E f N q=>by obtain ⟨t,rfl⟩:=hu;obtain ⟨t',rfl⟩:=hv;exact add_int (q _ s.heap _ ⟨_,rfl⟩ f N)
theorem bq (h1:Px w F b (eval l env) (IsI i) m led) (h2:Px w F b (eval r env) (IsI j) m led):Px w F b (eval (.BinOp l .Sub r pos) env) (IsI (i - j)) m led :=
 aG h1 h2 fun u v hu hv s Q E f N q=>by obtain ⟨t,rfl⟩:=hu;obtain ⟨t',rfl⟩:=hv;exact sub_int (q _ s.heap _ ⟨_,rfl⟩ f N)
theorem dL {op:CmpOp} {P P2:Value→Prop} (h1:Px w F b (eval l env) P m led) (h2:Px w F b (eval r env) P2 m led) (h3:∀ u v,P u→P2 v→Px w F b (compareOp op u v) (fun a=>a = .bool c) m led) (hm:behindInMarks op r = false) :
  Px w F b (isTrue (.Compare l [op] [r] pos) env whole) (fun a=>a = c) m led:=fun s Q E f N q =>
 wpAny_isTrue_Compare1 (h1 s _ E f N fun a h' tk' pa F' N'=>h2 _ _ E F' N' fun a2 h2' tk2' pa2 F2' N2'=>h3 a a2 pa pa2 _ _ _ F2' N2' fun a3 h3' tk3' pa3 F3' N3'=>by subst pa3;exact wpAny_truthy_bool (q _ _ _ rfl F3' N3')) hm
theorem bn (h1:Px w F b (eval l env) (IsI i) m led) (h2:Px w F b (eval r env) (IsI j) m led) (hm:behindInMarks .Eq r = false):Px w F b (isTrue (.Compare l [.Eq] [r] pos) env whole) (fun a=>a = (i == j)) m led :=
 dL h1 h2 (fun u v hu hv s Q E f N q=>by obtain ⟨t,rfl⟩:=hu;obtain ⟨t',rfl⟩:=hv;exact eq_int (q _ s.heap _ rfl f N)) hm
theorem pc_neI (h1:Px w F b (eval l env) (IsI i) m led) (h2:Px w F b (eval r env) (IsI j) m led) (hm:behindInMarks .NotEq r = false):Px w F b (isTrue (.Compare l [.NotEq] [r] pos) env whole) (fun a=>a = (i != j)) m led :=
 dL h1 h2 (fun u v hu hv s Q E f N q=>by obtain ⟨t,rfl⟩:=hu;obtain ⟨t',rfl⟩:=hv;exact ne_int (q _ s.heap _ rfl f N)) hm
theorem bE (h1:Px w F b (eval l env) (IsI i) m led) (h2:Px w F b (eval r env) (IsI j) m led) (hm:behindInMarks .Lt r = false):Px w F b (isTrue (.Compare l [.Lt] [r] pos) env whole) (fun a=>a = decide (i < j)) m led :=
 dL h1 h2 (fun u v hu hv s Q E f N q=>by obtain ⟨t,rfl⟩:=hu;obtain ⟨t',rfl⟩:=hv;exact lt_int (q _ s.heap _ rfl f N)) hm
theorem pc_leI (h1:Px w F b (eval l env) (IsI i) m led) (h2:Px w F b (eval r env) (IsI j) m led) (hm:behindInMarks .LtE r = false):Px w F b (isTrue (.Compare l [.LtE] [r] pos) env whole) (fun a=>a = decide (i≤j)) m led :=
 dL h1 h2 (fun u v hu hv s Q E f N q=>by obtain ⟨t,rfl⟩:=hu;obtain ⟨t',rfl⟩:=hv;exact le_int (q _ s.heap _ rfl f N)) hm
theorem cS (h1:Px w F b (eval l env) (IsI i) m led) (h2:Px w F b (eval r env) (IsI j) m led) (hm:behindInMarks .Gt r = false):Px w F b (isTrue (.Compare l [.Gt] [r] pos) env whole) (fun a=>a = decide (j < i)) m led :=
 dL h1 h2 (fun u v hu hv s Q E f N q=>by obtain ⟨t,rfl⟩:=hu;obtain ⟨t',rfl⟩:=hv;exact gt_int (q _ s.heap _ rfl f N)) hm
theorem pc_geI (h1:Px w F b (eval l env) (IsI i) m led) (h2:Px w F b (eval r env) (IsI j) m led) (hm:behindInMarks .GtE r = false):Px w F b (isTrue (.Compare l [.GtE] [r] pos) env whole) (fun a=>a = decide (j≤i)) m led :=
 dL h1 h2 (fun u v hu hv s Q E f N q=>by obtain ⟨t,rfl⟩:=hu;obtain ⟨t',rfl⟩:=hv;exact ge_int (q _ s.heap _ rfl f N)) hm
theorem pc_ltB (h1:Px w F b (eval l env) (IsB x) m led) (h2:Px w F b (eval r env) (IsB y) m led) (hm:behindInMarks .Lt r = false):Px w F b (isTrue (.Compare l [.Lt] [r] pos) env whole) (fun a=>a = ltB x y) m led :=
 dL h1 h2 (fun u v hu hv s Q E f N q=>by obtain ⟨t,rfl⟩:=hu;obtain ⟨t',rfl⟩:=hv;exact lt_bytes (q _ s.heap _ rfl f N)) hm
theorem pc_gtB (h1:Px w F b (eval l env) (IsB x) m led) (h2:Px w F b (eval r env) (IsB y) m led) (hm:behindInMarks .Gt r = false):Px w F b (isTrue (.Compare l [.Gt] [r] pos) env whole) (fun a=>a = ltB y x) m led :=
 dL h1 h2 (fun u v hu hv s Q E f N q=>by obtain ⟨t,rfl⟩:=hu;obtain ⟨t',rfl⟩:=hv;exact gt_bytes (q _ s.heap _ rfl f N)) hm
theorem pc_geB (h1:Px w F b (eval l env) (IsB x) m led) (h2:Px w F b (eval r env) (IsB y) m led) (hm:behindInMarks .GtE r = false):Px w F b (isTrue (.Compare l [.GtE] [r] pos) env whole) (fun a=>a = !ltB x y) m led :=
 dL h1 h2 (fun u v hu hv s Q E f N q=>by obtain ⟨t,rfl⟩:=hu;obtain ⟨t',rfl⟩:=hv;exact ge_bytes (q _ s.heap _ rfl f N)) hm
noncomputable def IsO (o:Option (Array UInt8)) (v:Value):Prop:=match o with | none=>v = .none | some x=>IsB x v
theorem dK {o:Option (Array UInt8)} (h1:Px w F b (eval l env) (IsO o) m led) (h2:Px w F b (eval r env) (fun a=>a = .none) m led) (hm:behindInMarks .IsNot r = false):Px w F b (isTrue (.Compare l [.IsNot] [r] pos) env whole) (fun a=>a = o.isSome) m led :=
 dL h1 h2 (fun u v hu hv s Q E f N q=>by
  subst hv
  cases o with
  | none=>obtain rfl:u = .none:=hu;exact wpAny_isNot_self rfl (q _ s.heap _ rfl f N)
  | some x=>obtain ⟨t,rfl⟩:=hu;exact wpAny_isNot_other rfl (by intro h;cases h) (q _ s.heap _ rfl f N)) hm
theorem pc_is {o:Option (Array UInt8)} (h1:Px w F b (eval l env) (IsO o) m led) (h2:Px w F b (eval r env) (fun a=>a = .none) m led) (hm:behindInMarks .Is r = false):Px w F b (isTrue (.Compare l [.Is] [r] pos) env whole) (fun a=>a = !o.isSome) m led :=
 dL h1 h2 (fun u v hu hv s Q E f N q=>by
  subst hv
  cases o with
  | none=>obtain rfl:u = .none:=hu;exact wpAny_is_self rfl (q _ s.heap _ rfl f N)
  | some x=>obtain ⟨t,rfl⟩:=hu;exact wpAny_is_other rfl (by intro h;cases h) (q _ s.heap _ rfl f N)) hm
theorem dJ {e:Expr} (h:Px w F b (isTrue e env (eval e env)) (fun a=>a = c) m led):Px w F b (isTrue (.UnaryOp .Not e pos) env whole) (fun a=>a = !c) m led :=
 fun s Q E f N q=>isTrue_not (h s _ E f N fun a h' tk' pa F' N'=>by subst pa;exact q _ _ _ rfl F' N')
theorem pc_and {e:Expr} {rest:List Expr} (h:Px w F b (isTrue e env (eval e env)) (fun a=>a = c) m led) (h2:c = true→Px w F b (isTrue (.BoolOp .And rest pos) env whole) (fun a=>a = c2) m led):Px w F b (isTrue (.BoolOp .And (e::rest) pos) env whole) (fun a=>a = (c && c2)) m led :=
 fun s Q E f N q=>isTrue_and (h s _ E f N fun a h' tk' pa F' N'=>by
  subst pa
  cases a with
  | true=>exact h2 rfl _ _ _ F' N' q
  | false=>exact q _ _ _ rfl F' N')
theorem pc_or {e:Expr} {rest:List Expr} (h:Px w F b (isTrue e env (eval e env)) (fun a=>a = c) m led) (h2:c = false→Px w F b (isTrue (.BoolOp .Or rest pos) env whole) (fun a=>a = c2) m led):Px w F b (isTrue (.BoolOp .Or (e::rest) pos) env whole) (fun a=>a = (c || c2)) m led :=
 fun s Q E f N q=>isTrue_or (h s _ E f N fun a h' tk' pa F' N'=>by
  subst pa
  cases a with
  | true=>exact q _ _ _ rfl F' N'
  | false=>exact h2 rfl _ _ _ F' N' q)
theorem pc_and0:Px w F b (isTrue (.BoolOp .And [] pos) env whole) (fun a=>a = true) m led:=fun s Q E f N q=>isTrue_and_nil (q _ s.heap s.toks rfl f N)
theorem pc_or0:Px w F b (isTrue (.BoolOp .Or [] pos) env whole) (fun a=>a = false) m led:=fun s Q E f N q=>isTrue_or_nil (q _ s.heap s.toks rfl f N)
theorem ck {e e2:Expr} (h:Px w F b (isTrue e env (eval e env)) (fun a=>a = c) m led) (h2:c = true→Px w F b (isTrue e2 env (eval e2 env)) (fun a=>a = c2) m led):Px w F b (isTrue (.BoolOp .And [e,e2] pos) env whole) (fun a=>a = (c && c2)) m led :=
 pc_and h fun e=>Px.mono (pc_and (h2 e) fun O=>pc_and0) fun a ha=>ha.trans (Bool.and_true c2)
theorem cZ {e e2:Expr} (h:Px w F b (isTrue e env (eval e env)) (fun a=>a = c) m led) (h2:c = false→Px w F b (isTrue e2 env (eval e2 env)) (fun a=>a = c2) m led):Px w F b (isTrue (.BoolOp .Or [e,e2] pos) env whole) (fun a=>a = (c || c2)) m led :=
 pc_or h fun e=>Px.mono (pc_or (h2 e) fun O=>pc_or0) fun a ha=>ha.trans (Bool.or_false c2)
theorem bt {e:Expr} (h:Px w F b whole (fun a=>a = .bool c) m led) (he:isTrue e env whole = (do let v ← whole;standAt e.pos;holding [v] (truthy v))):Px w F b (isTrue e env whole) (fun a=>a = c) m led :=
 fun s Q E f N q=>isTrue_plain (h s _ E f N fun a h' tk' pa F' N'=>by subst pa;exact wpAny_truthy_bool (q _ _ _ rfl F' N')) he
end
section
variable {w:World} {D D':Nat} {F:FnC} {b:Bx} {m:MM} {led:Led} {env:Env} {pos:Pos} {φ:FP} {x:Str} {P:Value→Prop} {c:Bool}
theorem aD {value:Expr} {pos':Pos} {rest:List Stmt} (h:Px w F b (eval value (evx F b)) P m led) (hq:∀ v,P v→Lx w F b (execs rest (evx F b)) φ (ms m x v) led) (hk:F.cs.kind = .function) (hx:(evx F b).kindOf x = some .local)
  (hs:swapsWith value (some (.Name x pos')) pos.line (evx F b) = pure false):Lx w F b (execs (.Assign [.Name x pos'] value pos::rest) (evx F b)) φ m led :=
 aj (aM (h.lx hq) hk hx hs)
theorem sx_if {test:Expr} {body orelse rest:List Stmt} (h:Px w F b (isTrue test env (eval test env)) (fun a=>a = c) m led) (h1:c = true→Lx w F b (execs body env) (kφ w F b env rest φ) m led) (h2:c = false→Lx w F b (execs orelse env) (kφ w F b env rest φ) m led) :
  Lx w F b (execs (.If test body orelse pos::rest) env) φ m led:=aj fun s Q E f N q=>wpAny_If (h s _ E f N fun a h' tk' pa F' N'=>by
   subst pa
   cases a with
   | true=>exact h1 rfl _ _ _ F' N' q
   | false=>exact h2 rfl _ _ _ F' N' q)
theorem aH {test:Expr} {body rest:List Stmt} (h:Px w F b (isTrue test env (eval test env)) (fun a=>a = c) m led) (h1:c = true→Lx w F b (execs body env) (kφ w F b env rest φ) m led) (h2:c = false→Lx w F b (execs rest env) φ m led) :
  Lx w F b (execs (.If test body [] pos::rest) env) φ m led:=sx_if h h1 fun e=>ae (h2 e)
theorem aZ {e:Expr} {rest:List Stmt} (h:Px w F b (eval e env) P m led) (hp:∀ v,P v→φ (.ret v) m led):Lx w F b (execs (.Return (some e) pos::rest) env) φ m led:=aj (dB (h.lx hp))
theorem aO {e:Expr} {rest:List Stmt} (h:Lx w F b (eval e env) (fun O m' led'=>Lx w F b (execs rest env) φ m' led') m led) (hi:interactive env = false) (hs:swapsWith e none pos.line env = pure false):Lx w F b (execs (.Expr e pos::rest) env) φ m led :=
 aj (lx_expr h hi hs)
theorem dQ {o value:Expr} {pos':Pos} {k2:Nat} {r C dx:Addr} {name:Str} {es:List DictEntry} {n:Nat} {es':Value→List DictEntry} {n':Nat} {led':Value→Led} (ok:Okx w D b) (h:Px w F b (eval value env) P m led) (ho:Rx w F b (eval o env) (fun O=>.ref r) k2 m led)
  (m1:(r,instObj C dx)∈led) (m2:(dx,dictOf es n)∈led)
  (hs':findIn (Mine.hd.heap_39 w.params) (.ref C) "__setattr__" = some (some (.builtin "object.__setattr__"))) (hp:plainOver (Mine.hd.heap_39 w.params) C = true) (ht:takerIn (Mine.hd.heap_39 w.params) C name = some none) (hh:hasDictIn (Mine.hd.heap_39 w.params) C = true)
  (hl:(getL name es).isSome = true) (e:∀ v t',(putL name (PyData.keyHash w.params name) (.str name t') v es,putN name es n) = (es' v,n')) (U:∀ v,Upd dx (dictOf es n) (dictOf (es' v) n') led (led' v)) (hz:∀ v,(es' v).length≤1000)
  (hs:swapsWith value (some (.Attribute o name pos')) pos.line env = pure false) (hq:∀ v,P v→φ .next m (led' v)):Lx w F b (exec (.Assign [.Attribute o name pos'] value pos) env) φ m led :=
 fun s Q E f N q=>plainObj_wpAny_Assign_Attribute (h s _ E f N fun a h' tk' pa F' N'=>ho _ _ E F' N' (set_dict F' ok.X N' (InstAt.of_news N' m1 m2) rfl hs' hp ht hh hl (e _ _) (U _) (hz _) fun h2' F2' N2'=>q _ _ _ h2' _ (hq _ pa) F2' N2')) hs
theorem sx_ifj {test:Expr} {body orelse rest:List Stmt} (ψ:FP) (h:Px w F b (isTrue test env (eval test env)) (fun a=>a = c) m led) (h1:c = true→Lx w F b (execs body env) ψ m led) (h2:c = false→Lx w F b (execs orelse env) ψ m led)
  (hn:∀ m' led',ψ .next m' led'→Lx w F b (execs rest env) φ m' led') (ho:∀ f m' led',f≠.next→ψ f m' led'→φ f m' led'):Lx w F b (execs (.If test body orelse pos::rest) env) φ m led :=
 lx_cons (ψ:=ψ) (fun s Q E f N q=>wpAny_If (h s _ E f N fun a h' tk' pa F' N'=>by
   subst pa
   cases a with
   | true=>exact h1 rfl _ _ _ F' N' q
   | false=>exact h2 rfl _ _ _ F' N' q)) hn ho
theorem lx_whileP {test:Expr} {body:List Stmt} (J:Nat→MM→Led→Prop) (n₀:Nat) (hJ:J n₀ m led)
  (turn:∀ n m₁ led₁,J n m₁ led₁→∃ c,Px w F b (isTrue test env (eval test env)) (fun a=>a = c) m₁ led₁∧(c = true→Lx w F b (execs body env) (turnφ φ J n) m₁ led₁)∧(c = false→φ .next m₁ led₁)) :
  Lx w F b (exec (.While test body [] pos) env) φ m led:=lx_while J n₀ hJ fun n m₁ led₁ j=>by
 obtain ⟨c,h,h1,h2⟩:=turn n m₁ led₁ j
 refine h.lx fun a ha=>?_
 subst ha
 cases a with
 | true=>rw [if_pos rfl];exact h1 rfl
 | false=>rw [if_neg (by decide)];exact h2 rfl
theorem lx_whileG {test:Expr} {body:List Stmt} (J:Nat→MM→Led→Prop) (n₀:Nat) (hJ:J n₀ m led)
  (turn:∀ n m₁ led₁,J n m₁ led₁→∀ Φ:FP,(∀ n' m' led',n' < n→J n' m' led'→Φ .next m' led')→(∀ n' m' led',n' < n→J n' m' led'→Φ .cont m' led')→(∀ m' led',φ .next m' led'→Φ .brk m' led')→(∀ v m' led',φ (.ret v) m' led'→Φ (.ret v) m' led') →
   ∃ c,Px w F b (isTrue test env (eval test env)) (fun a=>a = c) m₁ led₁∧(c = true→Lx w F b (execs body env) Φ m₁ led₁)∧(c = false→φ .next m₁ led₁)) :
  Lx w F b (exec (.While test body [] pos) env) φ m led :=
 lx_whileP J n₀ hJ fun n m₁ led₁ j=>turn n m₁ led₁ j (turnφ φ J n) (fun n' O O h j=>⟨n',h,j⟩) (fun n' O O h j=>⟨n',h,j⟩) (fun O O h=>h) fun O O O h=>h
theorem sx_while {test:Expr} {body rest:List Stmt} (J:Nat→MM→Led→Prop) (X:MM→Led→Prop) (n₀:Nat) (hJ:J n₀ m led)
  (turn:∀ n m₁ led₁,J n m₁ led₁→∀ Φ:FP,(∀ n' m' led',n' < n→J n' m' led'→Φ .next m' led')→(∀ n' m' led',n' < n→J n' m' led'→Φ .cont m' led')→(∀ m' led',X m' led'→Φ .brk m' led')→(∀ v m' led',φ (.ret v) m' led'→Φ (.ret v) m' led') →
   ∃ c,Px w F b (isTrue test env (eval test env)) (fun a=>a = c) m₁ led₁∧(c = true→Lx w F b (execs body env) Φ m₁ led₁)∧(c = false→X m₁ led₁))
  (hX:∀ m' led',X m' led'→Lx w F b (execs rest env) φ m' led'):Lx w F b (execs (.While test body [] pos::rest) env) φ m led :=
 aj (lx_whileG J n₀ hJ fun n m₁ led₁ j Φ h1 h2 h3 h4=>by
  obtain ⟨c,a,b,d⟩:=turn n m₁ led₁ j Φ h1 h2 (fun m' led' h=>h3 m' led' (hX _ _ h)) (fun v m' led' h=>h4 v m' led' h)
  exact ⟨c,a,b,fun e=>hX _ _ (d e)⟩)
theorem dh {test:Expr} {body orelse rest:List Stmt} (ψ:FP) (h:Px w F b (isTrue test env (eval test env)) (fun a=>a = c) m led)
  (h1:c = true→∀ ψ0:FP,(∀ f m' led',ψ f m' led'→ψ0 f m' led')→Lx w F b (execs body env) ψ0 m led) (h2:c = false→∀ ψ0:FP,(∀ f m' led',ψ f m' led'→ψ0 f m' led')→Lx w F b (execs orelse env) ψ0 m led)
  (hn:∀ m' led',ψ .next m' led'→Lx w F b (execs rest env) φ m' led') (ho:∀ f m' led',f≠.next→ψ f m' led'→φ f m' led'):Lx w F b (execs (.If test body orelse pos::rest) env) φ m led :=
 sx_ifj ψ h (fun e=>h1 e ψ fun O O O h=>h) (fun e=>h2 e ψ fun O O O h=>h) hn ho
end
section
variable {w:World} {D:Nat} {f:Addr} {args:List Value} {fp rest:Led} {post:Value→Led→Prop} {name qual:Str} {params:Arguments} {body:List Stmt} {scope:Scope} {dV kV doc pm cdv ct oc:Value} {an od:Option Addr} {osl:Array (Option Value)} {binds:List (Str × Value)}
theorem ai (ho:(Mine.hd.heap_39 w.params).lookup f = some ⟨oc,od,.func (fnOf name qual params body scope dV kV doc pm an cdv ct),osl⟩) (hcd:codeIn (Mine.hd.heap_39 w.params) cdv qual = true)
  (hbind:∀ s,BindsTo s (fnOf name qual params body scope dV kV doc pm an cdv ct) ⟨args,[]⟩ binds) (hloc:∀ y∈binds,scope.names.lookup y.1 = some .local)
  (hco:scope.isCoroutine = false) (hgen:scope.isGenerator = false) (hk:scope.kind = .function) (hcell:∀ x∈scope.names,x.2≠.cell)
  (h:∀ b:Bx,Okx w D b→∀ φ:FP,(∀ fl m' fp',post (retv fl) fp'→φ fl m' (fp'++rest))→Lx w ⟨qual,scope,f,cdv⟩ b (execs body (evx ⟨qual,scope,f,cdv⟩ b)) φ (fun y=>binds.reverse.lookup y) (fp++rest)) :
  am w (D + 1) f args fp rest post:=calls_of ho hcd hbind hloc hco hgen hk hcell fun b ok=>h b ok _ fun O O fp' hp=>⟨fp',rfl,hp⟩
end
end
section
open PySem PySem.W PyProof.Rows
set_option maxHeartbeats 8000000
set_option maxRecDepth 100000
set_option tactic.hygienic false
section
variable {w:World} {D D':Nat} {F:FnC} {b:Bx} {m:MM} {led:Led} {env:Env} {pos p:Pos} {x:Str} {v fv:Value} {l a:Addr} {items:Array Value} {n:Nat} {i j k:Int} {value slice e l' r:Expr} {c c2:Bool}
theorem ah (ok:Okx w D b) (e:nsIn (Mine.hd.heap_39 w.params) mainGlobals x = some none) (hv:bootBuiltins x = some v) (hn:x≠"__name__") (hk:F.cs.kind = .function) (hx:(evx F b).kindOf x = some .globalImplicit) (hd:(x == ("__debug__":Str)) = false) :
  Px w F b (eval (.Name x p) (evx F b)) (fun a=>a = v) m led:=fun s Q E f N q=>nameX_B f ok.X (topRead_of ok.T) e hv hn (q _ s.heap s.toks rfl f N) hk hx hd
theorem aK (h1:Px w F b (eval value env) (fun a=>a = .ref l) m led) (h2:Px w F b (eval slice env) (IsI k) m led) (hm:(l,listOf items n)∈led) (h0:0≤k) (hf:k < 2 ^ 63) (hx:items[k.toNat]? = some v)
  (hs:∀ u,subscripted slice false (.ref l) (.int k u) = operate [.ref l,.int k u] (getItem (.ref l) (.int k u))):Px w F b (eval (.Subscript value slice pos) env) (fun a=>a = v) m led:=fun s Q E f N q =>
 Subscript_ (h1 s _ E f N fun a1 h' tk' pa F' N'=>by subst pa;exact h2 _ _ E F' N' fun a2 h2' tk2' pa2 F2' N2'=>by obtain ⟨t,rfl⟩:=pa2;exact item_list N2' hm h0 hf hx (q _ _ _ rfl F2' N2') (hs t))
theorem bh {vs:List Value} (h1:Px w F b (eval value env) (fun a=>a = .ref l) m led) (h2:Px w F b (eval slice env) (IsI k) m led) (hm:(l,aS vs n)∈led) (h0:0≤k) (hf:k < 2 ^ 63) (hx:vs[k.toNat]? = some v)
  (hs:∀ u,subscripted slice false (.ref l) (.int k u) = operate [.ref l,.int k u] (getItem (.ref l) (.int k u))):Px w F b (eval (.Subscript value slice pos) env) (fun a=>a = v) m led:=fun s Q E f N q =>
 Subscript_ (h1 s _ E f N fun a1 h' tk' pa F' N'=>by subst pa;exact h2 _ _ E F' N' fun a2 h2' tk2' pa2 F2' N2'=>by obtain ⟨t,rfl⟩:=pa2;exact item_tup N2' hm h0 hf hx (q _ _ _ rfl F2' N2') (hs t))
theorem px_itemB {X:Array UInt8} {ks:List Int} (h1:Px w F b (eval value env) (IsB X) m led) (h2:Px w F b (eval slice env) (IsI k) m led) (hks:KBw.bInts X = ks) (hz:ks.length≤1099511627776) (h0:0≤k) (h3:k < (ks.length:Int))
  (hs:∀ t u,subscripted slice false (.bytes X t) (.int k u) = operate [.bytes X t,.int k u] (getItem (.bytes X t) (.int k u))) (ht:∀ t r,letTemporaryGo value (.bytes X t) r = pure ()):Px w F b (eval (.Subscript value slice pos) env) (IsI (ks.getD k.toNat 0)) m led:=fun s Q E f N q =>
 Subscript_ (h1 s _ E f N fun a1 h' tk' pa F' N'=>by obtain ⟨t1,rfl⟩:=pa;exact h2 _ _ E F' N' fun a2 h2' tk2' pa2 F2' N2'=>by obtain ⟨t,rfl⟩:=pa2;exact KBw.item_K hks hz h0 h3 (fun t' k' O O=>q _ _ _ ⟨_,rfl⟩ F2' N2') (hs _ _) (ht _))
theorem pb1 {id:String} {o:Expr} {es:List Expr} {A:List Value→Prop} {P:Value→Prop} (h1:Px w F b (eval o env) (fun a=>a = .builtin id) m led) (h3:Px w F b (spliced (backTo pos (starEach (e::es) env))) A m led) (h4:∀ vs,A vs→Px w F b (call (.builtin id) ([]++vs)) P m led)
  (ha:starEach (e::es) env = (false,eval e env)::starEach es env) (hp:(backTo pos (starEach es env)).any (·.1) = false)
  (he:eval (.Call o (e::es) [] pos) env = (do callWith pos (← eval o env) [] (backTo pos (starEach (e::es) env)) (backToKw pos (keywordEach [] env)))):Px w F b (eval (.Call o (e::es) [] pos) env) P m led :=
 fun s Q E f N q=>Call_ (h1 s _ E f N fun a h' tk' pa F' N'=>by
  subst pa
  exact callWith_method1 (h3 _ _ E F' N' fun vs h3' tk3' pa F3' N3'=>h4 vs pa _ _ _ F3' N3' q) ha hp) he
theorem pt1 {T:String} {o:Expr} {es:List Expr} {A:List Value→Prop} {P:Value→Prop} (h1:Px w F b (eval o env) (fun a=>a = .type T) m led) (h3:Px w F b (spliced (backTo pos (starEach (e::es) env))) A m led) (h4:∀ vs,A vs→Px w F b (call (.type T) vs) P m led)
  (ha:starEach (e::es) env = (false,eval e env)::starEach es env) (hp:(backTo pos (starEach es env)).any (·.1) = false)
  (he:eval (.Call o (e::es) [] pos) env = (do callWith pos (← eval o env) [] (backTo pos (starEach (e::es) env)) (backToKw pos (keywordEach [] env)))):Px w F b (eval (.Call o (e::es) [] pos) env) P m led :=
 fun s Q E f N q=>Call_ (h1 s _ E f N fun a h' tk' pa F' N'=>by
  subst pa
  exact Pv.callWith_type1 (h3 _ _ E F' N' fun vs h3' tk3' pa F3' N3'=>h4 vs pa _ _ _ F3' N3' q) ha hp) he
theorem dm (ok:Okx w D b) (h1:Px w F b (eval e env) (fun a=>a = .ref l) m led) (hn:Px w F b (eval l' env) (fun a=>a = .builtin "len") m led) (hm:(l,listOf items n)∈led) (hf:(items.size:Int) < 2 ^ 63)
  (ha:starEach [e] env = (false,eval e env)::starEach [] env)
  (he:eval (.Call l' [e] [] pos) env = (do callWith pos (← eval l' env) [] (backTo pos (starEach [e] env)) (backToKw pos (keywordEach [] env)))):Px w F b (eval (.Call l' [e] [] pos) env) (IsI items.size) m led :=
 pb1 hn (az h1 ha) (fun vs hvs s Q E f N q=>by
  obtain ⟨_,rfl,rfl⟩:=hvs
  exact PySem.Calls.call_len_list (News.isList N hm) hf (q _ s.heap _ ⟨_,rfl⟩ f N)) ha rfl he
theorem px_lenB {X:Array UInt8} {ks:List Int} (ok:Okx w D b) (h1:Px w F b (eval e env) (IsB X) m led) (hn:Px w F b (eval l' env) (fun a=>a = .builtin "len") m led) (hks:KBw.bInts X = ks) (hz:ks.length≤1099511627776)
  (ha:starEach [e] env = (false,eval e env)::starEach [] env)
  (he:eval (.Call l' [e] [] pos) env = (do callWith pos (← eval l' env) [] (backTo pos (starEach [e] env)) (backToKw pos (keywordEach [] env)))):Px w F b (eval (.Call l' [e] [] pos) env) (IsI (ks.length:Nat)) m led :=
 pb1 hn (az h1 ha) (fun vs hvs s Q E f N q=>by
  obtain ⟨_,rfl,t,rfl⟩:=hvs
  exact KBw.len_K hks hz (q _ s.heap _ ⟨_,rfl⟩ f N)) ha rfl he
theorem eL {op:CmpOp} {P P2:Value→Prop} (h1:Px w F b (eval l' env) P m led) (h2:Px w F b (eval r env) P2 m led) (h3:∀ u v,P u→P2 v→Px w F b (compareOp op u v) (fun a=>a = .bool c) m led) (hm:behindInMarks op r = false) :
  Px w F b (eval (.Compare l' [op] [r] pos) env) (fun a=>a = .bool c) m led:=fun s Q E f N q =>
 wpAny_Compare1 (h1 s _ E f N fun a h' tk' pa F' N'=>h2 _ _ E F' N' fun a2 h2' tk2' pa2 F2' N2'=>h3 a a2 pa pa2 _ _ _ F2' N2' q) hm
theorem op_ltI:∀ u v,IsI i u→IsI j v→Px w F b (compareOp .Lt u v) (fun a=>a = .bool (decide (i < j))) m led:=fun u v hu hv s Q E f N q=>by obtain ⟨t,rfl⟩:=hu;obtain ⟨t',rfl⟩:=hv;exact lt_int (q _ s.heap _ rfl f N)
theorem op_leI:∀ u v,IsI i u→IsI j v→Px w F b (compareOp .LtE u v) (fun a=>a = .bool (decide (i≤j))) m led:=fun u v hu hv s Q E f N q=>by obtain ⟨t,rfl⟩:=hu;obtain ⟨t',rfl⟩:=hv;exact le_int (q _ s.heap _ rfl f N)
theorem op_geI:∀ u v,IsI i u→IsI j v→Px w F b (compareOp .GtE u v) (fun a=>a = .bool (decide (j≤i))) m led:=fun u v hu hv s Q E f N q=>by obtain ⟨t,rfl⟩:=hu;obtain ⟨t',rfl⟩:=hv;exact ge_int (q _ s.heap _ rfl f N)
theorem pv_and {e1 e2:Expr} (h1:Px w F b (eval e1 env) (fun a=>a = .bool c) m led) (h2:c = true→Px w F b (eval e2 env) (fun a=>a = .bool c2) m led):Px w F b (eval (.BoolOp .And [e1,e2] pos) env) (fun a=>a = .bool (c && c2)) m led:=fun s Q E f N q =>
 BoolOp_and (h1 s _ E f N fun a h' tk' pa F' N'=>by
  subst pa
  refine wpAny_truthy_bool ?_
  cases c with
  | true=>exact BoolOp_one (h2 rfl _ _ _ F' N' q)
  | false=>exact q _ _ _ rfl F' N')
theorem px_fdiv (h1:Px w F b (eval l' env) (IsI i) m led) (h2:Px w F b (eval r env) (IsI j) m led) (hj:¬ (j == 0) = true) (hp:¬ Builtin.divisionGoesByPylong i j = true):Px w F b (eval (.BinOp l' .FloorDiv r pos) env) (IsI (i.fdiv j)) m led :=
 aG h1 h2 fun u v hu hv s Q E f N q=>by obtain ⟨t,rfl⟩:=hu;obtain ⟨t',rfl⟩:=hv;exact PySem.AutoIntOps.floordiv_1 hj hp (q _ s.heap _ ⟨_,rfl⟩ f N)
end
section
variable {w:World} {D D':Nat} {F:FnC} {b:Bx} {m:MM} {led:Led} {env:Env} {pos:Pos} {φ:FP} {x:Str}
theorem lx_augattr {value:Expr} {xp pos':Pos} {op:Operator} {r C dx:Addr} {name:Str} {es:List DictEntry} {n:Nat} {es':Value→List DictEntry} {n':Nat} {led':Value→Led} {P P':Value→Prop} {old:Value} {at':Option Value} (ok:Okx w D b) (hv:m x = some (.ref r)) (h:Px w F b (eval value (evx F b)) P m led)
  (hop:∀ u,P u→Px w F b (inplaceOp op old u) P' m led) (m1:(r,instObj C dx)∈led) (m2:(dx,dictOf es n)∈led) (hlo:getL name es = some (some old)) (hw:handedIn old = true) (hg:plainGet (Mine.hd.heap_39 w.params) C name = true) (ha:findIn (Mine.hd.heap_39 w.params) (.ref C) name = some at') (hn:noGet (Mine.hd.heap_39 w.params) at' = true)
  (hs':findIn (Mine.hd.heap_39 w.params) (.ref C) "__setattr__" = some (some (.builtin "object.__setattr__"))) (hp:plainOver (Mine.hd.heap_39 w.params) C = true) (ht:takerIn (Mine.hd.heap_39 w.params) C name = some none) (hh:hasDictIn (Mine.hd.heap_39 w.params) C = true)
  (e:∀ v t',(putL name (PyData.keyHash w.params name) (.str name t') v es,putN name es n) = (es' v,n')) (U:∀ v,Upd dx (dictOf es n) (dictOf (es' v) n') led (led' v)) (hz:∀ v,(es' v).length≤1000)
  (hq:∀ v,P' v→φ .next m (led' v)) (hk:F.cs.kind = .function) (hx:(evx F b).kindOf x = some .local) (hd:(x == ("__debug__":Str)) = false):Lx w F b (exec (.AugAssign (.Attribute (.Name x xp) name pos') op value pos) (evx F b)) φ m led :=
 fun s Q E f N q=>wpAny_AugAssign_AttributeAny (nameX_L f hv (get_own f ok.X (InstAt.of_news N m1 m2) hg hh ha hn hlo hw (h _ _ E f N fun a h' tk' pa F' N'=>hop a pa _ _ E F' N' fun a2 h2' tk2' pa2 F2' N2' =>
  set_dict F2' ok.X N2' (InstAt.of_news N2' m1 m2) rfl hs' hp ht hh (by rw [hlo];rfl) (e _ _) (U _) (hz _) fun h3' F3' N3'=>q _ _ _ h3' _ (hq _ pa2) F3' N3')) hk hx hd)
theorem op_iadd {i j:Int} {v:Value} (hv:IsI i v):∀ u,IsI j u→Px w F b (inplaceOp .Add v u) (IsI (i + j)) m led:=fun u hu s Q E f N q=>by obtain ⟨t,rfl⟩:=hv;obtain ⟨t',rfl⟩:=hu;exact iadd_int (q _ s.heap _ ⟨_,rfl⟩ f N)
theorem op_isub {i j:Int} {v:Value} (hv:IsI i v):∀ u,IsI j u→Px w F b (inplaceOp .Sub v u) (IsI (i - j)) m led:=fun u hu s Q E f N q=>by obtain ⟨t,rfl⟩:=hv;obtain ⟨t',rfl⟩:=hu;exact isub_int (q _ s.heap _ ⟨_,rfl⟩ f N)
theorem lx_setitem {o i value:Expr} {pos':Pos} {l:Addr} {items:Array Value} {n:Nat} {k:Int} {P:Value→Prop} {led':Value→Led} (h:Px w F b (eval value env) P m led) (h1:Px w F b (eval o env) (fun a=>a = .ref l) m led) (h2:Px w F b (eval i env) (IsI k) m led)
  (U:∀ v,Upd l (listOf items n) (listOf (items.setIfInBounds k.toNat v) n) led (led' v)) (h0:0≤k) (h3:k < items.size) (hf:k < 2 ^ 63) (hq:∀ v,P v→φ .next m (led' v)) (hs:swapsWith value (some (.Subscript o i pos')) pos.line env = pure false):Lx w F b (exec (.Assign [.Subscript o i pos'] value pos) env) φ m led :=
 fun s Q E f N q=>wpAny_Assign_Subscript (h s _ E f N fun v h' tk' pa F' N'=>h1 _ _ E F' N' fun a h2' tk2' pa2 F2' N2'=>by
  subst pa2
  exact h2 _ _ E F2' N2' fun a h3' tk3' pa3 F3' N3'=>by
   obtain ⟨t,rfl⟩:=pa3
   exact set_list F3' N3' (U v) h0 h3 hf fun h4' F4' N4'=>q _ _ _ h4' _ (hq v pa) F4' N4') hs
theorem sx_forUp {px:Pos} {body rest:List Stmt} {g e:Expr} {cp:Pos} {n:Nat} (ok:Okx w D b) (hr:Px w F b (eval g (evx F b)) (fun a=>a = .type "range") m led) (he:Px w F b (eval e (evx F b)) (IsI (n:Int)) m led) (hn:n≤1000000)
  (J:Nat→MM→Led→Prop) (hj:J 0 m led)
  (turn:∀ i m₁ led₁ I o t,i < n→J i m₁ led₁→(∀ p∈led₁,p.1≠I)→∀ Φ:FP,
   (∀ fl m' led' led2,fl = .next ∨ fl = .cont→J (i + 1) m' led'→(∀ p∈led',p∈led2)→(I,o)∈led2→(∀ p∈led',p.1≠I)→Φ fl m' led2)→(∀ v m' led',φ (.ret v) m' led'→Φ (.ret v) m' led') →
   Lx w F b (execs body (evx F b)) Φ (ms m₁ x (.int (i:Int) t)) ((I,o)::led₁))
  (hX:∀ m' led',J n m' led'→Lx w F b (execs rest (evx F b)) φ m' led') (hk:F.cs.kind = .function) (hx:(evx F b).kindOf x = some .local)
  (ha:starEach [e] (evx F b) = (false,eval e (evx F b))::starEach [] (evx F b))
  (hc:eval (.Call g [e] [] cp) (evx F b) = (do callWith cp (← eval g (evx F b)) [] (backTo cp (starEach [e] (evx F b))) (backToKw cp (keywordEach [] (evx F b)))))
  (hf:∀ x,foldedSetIterable (.Call g [e] [] cp) (evx F b) x = pure x) :
  Lx w F b (execs (.For (.Name x px) (.Call g [e] [] cp) body [] pos::rest) (evx F b)) φ m led:=aj fun s Q E f N q=>by
 refine wpAny_mono (E:=fun O O=>False) (For_invV b.g (Q:=Q) hx (by show (F.cs.kind == .class || (F.cs.kind == .module && b.L != mainGlobals)) = false;rw [hk];rfl) ?_ hf ?_) (fun O O x=>x) fun O O x=>x.elim
 ·have hh:(tpx F b).handled = none:=rfl
  refine Call_ (hr s _ _ f N fun a h' tk' pa F' N'=>?_) hc
  subst pa
  refine Pv.callWith_type1 (az he ha _ _ _ F' N' fun vs h2' tk2' pa2 F2' N2'=>?_) ha rfl
  obtain ⟨_,rfl,t0,rfl⟩:=pa2
  refine range1_rows F2' N2' fun h3' tk3 t₁ u₁ v₁ R F3' N3' O=>?_
  refine iter_up (n:=n) J hh R hn F3' N3' hj (fun i t m₁ news₁ h tk I o hi hJ hne F₁ N₁=>?_) fun m₁ news₁ h tk hJ F₁ N₁=>q _ _ _ _ _ (hX _ _ hJ) F₁ N₁
  refine turn i m₁ news₁ I o t hi hJ hne (fun fl m' led'=>∀ (h':Heap) (tk':Nat),Fr b.g b.L h' m'→News b.g b.L h' led'→TurnJ b.g b.L (J (i + 1)) I o { s with heap:=h,toks:=tk } Q fl { s with heap:=h',toks:=tk' }) ?_ ?_ _ _ _ F₁ N₁ fun fl m' led' h' tk' hp F' N'=>hp h' tk' F' N'
  ·intro fl m' led' led2 hfl hJ' hsub hI hne' h' tk' F' N'
   rcases hfl with rfl | rfl <;> exact ⟨h',tk',m',led',led2,rfl,F',N',hI,hsub,hne',hJ'⟩
  ·intro v m' led' hp h' tk' F' N'
   exact q _ _ _ h' tk' hp F' N'
 ·passes_own
end
section
variable {w:World} {D D':Nat} {F:FnC} {b:Bx} {m:MM} {led:Led} {env:Env} {pos:Pos} {l r:Expr} {i j:Int} {k kp}
theorem px_I {t:Sem Value} (h:Px w F b t (IsI i) m led) (e:i = j):Px w F b t (IsI j) m led:=e ▸ h
theorem cQ {e:Expr} (h:Px w F b (eval e env) (IsI i) m led):Px w F b (eval (.UnaryOp .USub e pos) env) (IsI (-i)) m led:=fun s Q E f N q =>
 wpAny_UnaryOp (h s _ E f N fun a h' tk' pa F' N'=>by obtain ⟨t,rfl⟩:=pa;exact neg_int (q _ _ _ ⟨_,rfl⟩ F' N'))
theorem op_shl8 (h0:0≤i) (h1:i < 4294967296):∀ u v,IsI i u→IsI 8 v→Px w F b (binaryOp .LShift u v) (IsI (i * 256)) m led:=fun u v hu hv s Q E f N q=>by obtain ⟨t,rfl⟩:=hu;obtain ⟨t',rfl⟩:=hv;exact shl8 h0 h1 (q _ s.heap _ ⟨_,rfl⟩ f N)
theorem op_shl8b (h0:0≤i) (h1:i < 72057594037927936):∀ u v,IsI i u→IsI 8 v→Px w F b (binaryOp .LShift u v) (IsI (i * 256)) m led:=fun u v hu hv s Q E f N q=>by obtain ⟨t,rfl⟩:=hu;obtain ⟨t',rfl⟩:=hv;exact shl8b h0 h1 (q _ s.heap _ ⟨_,rfl⟩ f N)
theorem op_shl16 (h0:0≤i) (h1:i < 4294967296):∀ u v,IsI i u→IsI 16 v→Px w F b (binaryOp .LShift u v) (IsI (i * 65536)) m led:=fun u v hu hv s Q E f N q=>by obtain ⟨t,rfl⟩:=hu;obtain ⟨t',rfl⟩:=hv;exact shl16 h0 h1 (q _ s.heap _ ⟨_,rfl⟩ f N)
theorem op_shl24 (h0:0≤i) (h1:i < 4294967296):∀ u v,IsI i u→IsI 24 v→Px w F b (binaryOp .LShift u v) (IsI (i * 16777216)) m led:=fun u v hu hv s Q E f N q=>by obtain ⟨t,rfl⟩:=hu;obtain ⟨t',rfl⟩:=hv;exact shl24 h0 h1 (q _ s.heap _ ⟨_,rfl⟩ f N)
theorem op_shl32 (h0:0≤i) (h1:i < 4294967296):∀ u v,IsI i u→IsI 32 v→Px w F b (binaryOp .LShift u v) (IsI (i * 4294967296)) m led:=fun u v hu hv s Q E f N q=>by obtain ⟨t,rfl⟩:=hu;obtain ⟨t',rfl⟩:=hv;exact shl32 h0 h1 (q _ s.heap _ ⟨_,rfl⟩ f N)
theorem op_or8 (h0:0≤i) (h1:i < 256) (h2:0≤j):∀ u v,IsI i u→IsI (j * 256) v→Px w F b (binaryOp .BitOr u v) (IsI (i + j * 256)) m led:=fun u v hu hv s Q E f N q=>by obtain ⟨t,rfl⟩:=hu;obtain ⟨t',rfl⟩:=hv;exact or8 h0 h1 h2 (q _ s.heap _ ⟨_,rfl⟩ f N)
theorem op_or8r (h0:0≤i) (h1:i < 256) (h2:0≤j):∀ u v,IsI (j * 256) u→IsI i v→Px w F b (binaryOp .BitOr u v) (IsI (i + j * 256)) m led:=fun u v hu hv s Q E f N q=>by obtain ⟨t,rfl⟩:=hu;obtain ⟨t',rfl⟩:=hv;exact or8r h0 h1 h2 (q _ s.heap _ ⟨_,rfl⟩ f N)
theorem op_or16 (h0:0≤i) (h1:i < 65536) (h2:0≤j):∀ u v,IsI i u→IsI (j * 65536) v→Px w F b (binaryOp .BitOr u v) (IsI (i + j * 65536)) m led:=fun u v hu hv s Q E f N q=>by obtain ⟨t,rfl⟩:=hu;obtain ⟨t',rfl⟩:=hv;exact or16 h0 h1 h2 (q _ s.heap _ ⟨_,rfl⟩ f N)
theorem op_or24 (h0:0≤i) (h1:i < 16777216) (h2:0≤j):∀ u v,IsI i u→IsI (j * 16777216) v→Px w F b (binaryOp .BitOr u v) (IsI (i + j * 16777216)) m led:=fun u v hu hv s Q E f N q=>by obtain ⟨t,rfl⟩:=hu;obtain ⟨t',rfl⟩:=hv;exact or24 h0 h1 h2 (q _ s.heap _ ⟨_,rfl⟩ f N)
theorem op_or32 (h0:0≤i) (h1:i < 4294967296) (h2:0≤j):∀ u v,IsI i u→IsI (j * 4294967296) v→Px w F b (binaryOp .BitOr u v) (IsI (i + j * 4294967296)) m led:=fun u v hu hv s Q E f N q=>by obtain ⟨t,rfl⟩:=hu;obtain ⟨t',rfl⟩:=hv;exact or32 h0 h1 h2 (q _ s.heap _ ⟨_,rfl⟩ f N)
theorem op_and255 (h0:0≤i):∀ u v,IsI i u→IsI 255 v→Px w F b (binaryOp .BitAnd u v) (IsI (i % 256)) m led:=fun u v hu hv s Q E f N q=>by obtain ⟨t,rfl⟩:=hu;obtain ⟨t',rfl⟩:=hv;exact and255 h0 (q _ s.heap _ ⟨_,rfl⟩ f N)
theorem op_andM (h0:0≤i):∀ u v,IsI i u→IsI 4294967295 v→Px w F b (binaryOp .BitAnd u v) (IsI (i % 4294967296)) m led:=fun u v hu hv s Q E f N q=>by obtain ⟨t,rfl⟩:=hu;obtain ⟨t',rfl⟩:=hv;exact andM32 h0 (q _ s.heap _ ⟨_,rfl⟩ f N)
theorem op_shr8:∀ u v,IsI i u→IsI 8 v→Px w F b (binaryOp .RShift u v) (IsI (i / 256)) m led:=fun u v hu hv s Q E f N q=>by obtain ⟨t,rfl⟩:=hu;obtain ⟨t',rfl⟩:=hv;exact shr8 (q _ s.heap _ ⟨_,rfl⟩ f N)
theorem op_shr16:∀ u v,IsI i u→IsI 16 v→Px w F b (binaryOp .RShift u v) (IsI (i / 65536)) m led:=fun u v hu hv s Q E f N q=>by obtain ⟨t,rfl⟩:=hu;obtain ⟨t',rfl⟩:=hv;exact shr16 (q _ s.heap _ ⟨_,rfl⟩ f N)
theorem op_shr24:∀ u v,IsI i u→IsI 24 v→Px w F b (binaryOp .RShift u v) (IsI (i / 16777216)) m led:=fun u v hu hv s Q E f N q=>by obtain ⟨t,rfl⟩:=hu;obtain ⟨t',rfl⟩:=hv;exact shr24 (q _ s.heap _ ⟨_,rfl⟩ f N)
theorem op_shr32:∀ u v,IsI i u→IsI 32 v→Px w F b (binaryOp .RShift u v) (IsI (i / 4294967296)) m led:=fun u v hu hv s Q E f N q=>by obtain ⟨t,rfl⟩:=hu;obtain ⟨t',rfl⟩:=hv;exact shr32 (q _ s.heap _ ⟨_,rfl⟩ f N)
theorem op_addB {x y:Array UInt8} (hz:x.size + y.size≤16777216):∀ u v,IsB x u→IsB y v→Px w F b (binaryOp .Add u v) (IsB (x++y)) m led:=fun u v hu hv s Q E f N q=>by obtain ⟨t,rfl⟩:=hu;obtain ⟨t',rfl⟩:=hv;exact add_bb hz fun t'' k''=>q _ s.heap _ ⟨_,rfl⟩ f N
end
section
variable {w:World} {D:Nat} {rest:Led}
theorem am.post {f:Addr} {args:List Value} {fp rest:Led} {post post':Value→Led→Prop} (h:am w D f args fp rest post) (hp:∀ r fp',post r fp'→post' r fp'):am w D f args fp rest post':=fun dp un gd cn cs a ccd cl outer A₀ base h₀ L m mg mb mean s Q E B F X N T hk hd hu k =>
 h dp un gd cn cs a ccd cl outer A₀ base h₀ L m mg mb mean s Q E B F X N T hk hd hu fun r fp' h' tk' F' N' p=>k r fp' h' tk' F' N' (hp r fp' p)
theorem am.deep {D':Nat} {f:Addr} {args:List Value} {fp rest:Led} {post:Value→Led→Prop} (h:am w D f args fp rest post) (hd:D≤D'):am w D' f args fp rest post:=fun dp un gd cn cs a ccd cl outer A₀ base h₀ L m mg mb mean s Q E B F X N T hk hd hu k =>
 h dp un gd cn cs a ccd cl outer A₀ base h₀ L m mg mb mean s Q E B F X N T hk (by omega) (by omega) k
noncomputable def rd32 (ks:List Int) (i:Int):Int:=ks.getD i.toNat 0 + ks.getD (i + 1).toNat 0 * 256 + ks.getD (i + 2).toNat 0 * 65536 + ks.getD (i + 3).toNat 0 * 16777216
theorem rd32_in {ks:List Int} (hr:∀ k∈ks,0≤k∧k < 256) (i:Int):0≤rd32 ks i∧rd32 ks i < 4294967296:=by
 have h0:=KBw.getD_in (j:=i.toNat) hr
 have h1:=KBw.getD_in (j:=(i + 1).toNat) hr
 have h2:=KBw.getD_in (j:=(i + 2).toNat) hr
 have h3:=KBw.getD_in (j:=(i + 3).toNat) hr
 unfold rd32
 omega
theorem rd32_c {B:Array UInt8} {t0 t1:Tok} {i:Int} {ks:List Int} (hks:KBw.bInts B = ks) (h0:0≤i) (hz:ks.length≤2000) (h4:i + 4≤ks.length):am w (D + 1) 115 [.bytes B t0,.int i t1] [] rest (fun r O=>IsI (rd32 ks i) r):=by
 have hr:∀ k∈ks,0≤k∧k < 256:=fun k hk=>KBw.ints_in (hks ▸ hk)
 have g0:=KBw.getD_in (j:=i.toNat) hr
 have g1:=KBw.getD_in (j:=(i + 1).toNat) hr
 have g2:=KBw.getD_in (j:=(i + 2).toNat) hr
 have g3:=KBw.getD_in (j:=(i + 3).toNat) hr
 have hz2:ks.length≤1099511627776:=by omega
 refine' ai (binds:=[("data",.bytes B t0),("at",.int i t1)]) ?ho ?hcd ?hb ?hl ?c1 ?c2 ?c3 ?c4 ?_
 fail "e"
 intro bb ok φ kφ
 refine aH (cZ (bE (Px.mono decl_name% fun v h=>⟨t1,h⟩) ab rfl) fun O=>cS (cJ (Px.mono decl_name% fun v h=>⟨t1,h⟩) ab) (px_lenB ok (Px.mono decl_name% fun v h=>⟨t0,h⟩) (ah ok nofun nofun (by decide) rfl rfl rfl) hks hz2 rfl rfl) rfl) (fun h=>?_) fun O=>?_
 ·rw [Bool.or_eq_true,decide_eq_true_eq,decide_eq_true_eq] at h
  omega
 ·refine aZ (aG (aG (aG (px_itemB (Px.mono decl_name% fun v h=>⟨t0,h⟩) (Px.mono decl_name% fun v h=>⟨t1,h⟩) hks hz2 h0 (by omega) (fun O O=>nofun) fun O O=>nofun)
   (aG (px_itemB (Px.mono decl_name% fun v h=>⟨t0,h⟩) (cJ (Px.mono decl_name% fun v h=>⟨t1,h⟩) ab) hks hz2 (by omega) (by omega) (fun O O=>nofun) fun O O=>nofun) ab (op_shl8 g1.1 (by omega))) (op_or8 g0.1 g0.2 g1.1))
   (aG (px_itemB (Px.mono decl_name% fun v h=>⟨t0,h⟩) (cJ (Px.mono decl_name% fun v h=>⟨t1,h⟩) ab) hks hz2 (by omega) (by omega) (fun O O=>nofun) fun O O=>nofun) ab (op_shl16 g2.1 (by omega))) (op_or16 (by omega) (by omega) g2.1))
   (aG (px_itemB (Px.mono decl_name% fun v h=>⟨t0,h⟩) (cJ (Px.mono decl_name% fun v h=>⟨t1,h⟩) ab) hks hz2 (by omega) (by omega) (fun O O=>nofun) fun O O=>nofun) ab (op_shl24 g3.1 (by omega))) (op_or24 (by omega) (by omega) g3.1)) fun v hv=>kφ (.ret v) _ [] hv
noncomputable def rd64 (ks:List Int) (i:Int):Int:=rd32 ks i + rd32 ks (i + 4) * 4294967296
theorem rd64_c {B:Array UInt8} {t0 t1:Tok} {i:Int} {ks:List Int} (hks:KBw.bInts B = ks) (h0:0≤i) (hz:ks.length≤2000) (h4:i + 8≤ks.length):am w (D + 1 + 1) 122 [.bytes B t0,.int i t1] [] rest (fun r O=>IsI (rd64 ks i) r):=by
 revert w D rest B t0 t1 i ks
 refine no_implicit_lambda% (e8 ?n fun T0=>(?_:bp T0) _ _ _ _ _ _ _ _)
 case n=>fail "n"
 intro w D rest B t0 t1 i ks
 intros
 clear T0
 have hr:∀ k∈ks,0≤k∧k < 256:=fun k hk=>KBw.ints_in (hks ▸ hk)
 have g0:=rd32_in hr i
 have g1:=rd32_in hr (i + 4)
 have hz2:ks.length≤1099511627776:=by omega
 refine' ai (binds:=[("data",.bytes B t0),("at",.int i t1)]) ?ho ?hcd ?hb ?hl ?c1 ?c2 ?c3 ?c4 ?_
 fail "e"
 intro bb ok φ kφ
 refine aH (cZ (bE (Px.mono decl_name% fun v h=>⟨t1,h⟩) ab rfl) fun O=>cS (cJ (Px.mono decl_name% fun v h=>⟨t1,h⟩) ab) (px_lenB ok (Px.mono decl_name% fun v h=>⟨t0,h⟩) (ah ok nofun nofun (by decide) rfl rfl rfl) hks hz2 rfl rfl) rfl) (fun h=>?_) fun O=>?_
 ·rw [Bool.or_eq_true,decide_eq_true_eq,decide_eq_true_eq] at h
  omega
 ·refine aZ (aG (P:=IsI (rd32 ks i)) (pf1 ok (ao ok nofun rfl rfl rfl) (aU decl_name% decl_name% rfl rfl) (fun vs hvs=>?_) nofun rfl rfl rfl)
   (aG (P:=IsI (rd32 ks (i + 4))) (pf1 ok (ao ok nofun rfl rfl rfl) (aU decl_name% (cJ (Px.mono decl_name% fun v h=>⟨t1,h⟩) ab) rfl rfl) (fun vs hvs=>?_) nofun rfl rfl rfl) ab (op_shl32 g1.1 g1.2)) (op_or32 g0.1 g0.2 g1.1)) fun v hv=>kφ (.ret v) _ [] hv
  ·obtain ⟨_,_,rfl,rfl,rfl⟩:=hvs
   exact ar ok (rd32_c (D:=D) hks h0 hz (by omega)) (fun r fp' h=>h) (fun O h=>nomatch h) rfl (by omega)
  ·obtain ⟨_,_,rfl,rfl,t,rfl⟩:=hvs
   exact ar ok (rd32_c (D:=D) hks (by omega) hz (by omega)) (fun r fp' h=>h) (fun O h=>nomatch h) rfl (by omega)
theorem rd64_tag {e:IK} (he:e.Ok) {i:Int} (hi:i = (e.ints.length:Int) - 8):rd64 e.ints i = e.tag:=by
 have hl:=ints_len e
 have hi2:i = (e.u.size:Int):=by omega
 subst hi2
 unfold rd64 rd32
 have e0:((e.u.size:Int)).toNat = e.u.size + 0:=rfl
 have e1:((e.u.size:Int) + 1).toNat = e.u.size + 1:=rfl
 have e2:((e.u.size:Int) + 2).toNat = e.u.size + 2:=rfl
 have e3:((e.u.size:Int) + 3).toNat = e.u.size + 3:=rfl
 have e4:((e.u.size:Int) + 4).toNat = e.u.size + 4:=rfl
 have e5:((e.u.size:Int) + 4 + 1).toNat = e.u.size + 5:=rfl
 have e6:((e.u.size:Int) + 4 + 2).toNat = e.u.size + 6:=rfl
 have e7:((e.u.size:Int) + 4 + 3).toNat = e.u.size + 7:=rfl
 rw [e0,e1,e2,e3,e4,e5,e6,e7,d7,d7,d7,d7,d7,d7,d7,d7]
 exact tag_sum e he
theorem tag_of_p {e:IK} {t0:Tok} (he:e.Ok):am w 3 157 [.bytes (ikb e) t0] [] rest (fun r O=>IsI e.tag r):=by
 have hks:=bInts_ikb e he
 have hl:=ints_len e
 have hl2:=he.u
 have fin:=rd64_tag he rfl
 generalize ikb e = B at *
 generalize e.ints = ks at *
 have hz2:ks.length≤1099511627776:=by omega
 refine' ai (binds:=[("ik",.bytes B t0)]) ?ho ?hcd ?hb ?hl ?c1 ?c2 ?c3 ?c4 ?_
 fail "e"
 intro bb ok φ kφ
 refine aH (bE (px_lenB ok (Px.mono decl_name% fun v h=>⟨t0,h⟩) (ah ok nofun nofun (by decide) rfl rfl rfl) hks hz2 rfl rfl) (au ok nofun rfl rfl rfl) rfl) (fun h=>?_) fun O=>?_
 ·have:=of_decide_eq_true h
  omega
 ·refine aZ (P:=IsI e.tag) (pf1 ok (ao ok nofun rfl rfl rfl) (aU decl_name% (bq (px_lenB ok (Px.mono decl_name% fun v h=>⟨t0,h⟩) (ah ok nofun nofun (by decide) rfl rfl rfl) hks hz2 rfl rfl) (au ok nofun rfl rfl rfl)) rfl rfl) (fun vs hvs=>?_) nofun rfl rfl rfl) fun v hv=>kφ (.ret v) _ [] hv
  obtain ⟨_,_,rfl,rfl,t,rfl⟩:=hvs
  exact ar ok (rd64_c (D:=0) hks (by omega) (by omega) (by omega)) (fun r fp' h=>fin ▸ h) (fun O h=>nomatch h) rfl (by omega)
theorem user_cut {e:IK} (he:e.Ok) {c:Array UInt8} (hc:KBw.bInts c = (e.ints.drop ((none:Option Int).elim 0 (clipAt e.ints.length))).take ((some ((e.ints.length:Int) - 8)).elim e.ints.length (clipAt e.ints.length) - (none:Option Int).elim 0 (clipAt e.ints.length))):c = e.u:=by
 have hl:=ints_len e
 apply bInts_inj
 rw [hc]
 have h3:clipAt e.ints.length ((e.ints.length:Int) - 8) = e.u.size:=by
  rw [hl]
  show clipAt (e.u.size + 8) (((e.u.size + 8:Nat):Int) - 8) = _
  have:(((e.u.size + 8:Nat):Int) - 8) = ((e.u.size:Nat):Int):=by omega
  rw [this,clipAt_nat];omega
 show ((e.ints.drop 0).take (clipAt e.ints.length ((e.ints.length:Int) - 8) - 0)) = _
 rw [h3,List.drop_zero,Nat.sub_zero]
 unfold IK.ints
 rw [List.take_append_of_le_length (by simp [KBw.bInts]),List.take_of_length_le (by simp [KBw.bInts])]
theorem px_cutB {F:FnC} {b:Bx} {m:MM} {led:Led} {env:Env} {pos sp:Pos} {value hi:Expr} {B:Array UInt8} {ks:List Int} {k:Int} {P:Value→Prop} (h1:Px w F b (eval value env) (IsB B) m led) (h2:Px w F b (eval hi env) (IsI k) m led) (hks:KBw.bInts B = ks) (hz:ks.length≤16777216)
  (hP:∀ t c,KBw.bInts c = (ks.drop ((none:Option Int).elim 0 (clipAt ks.length))).take ((some k).elim ks.length (clipAt ks.length) - (none:Option Int).elim 0 (clipAt ks.length))→P (.bytes c t))
  (hs:∀ t n,subscripted (.Slice none (some hi) none sp) false (.bytes B t) (.ref n) = operate [.ref n,.bytes B t] (getItem (.bytes B t) (.ref n))) (ht:∀ t r,letTemporaryGo value (.bytes B t) r = pure ()) :
  Px w F b (eval (.Subscript value (.Slice none (some hi) none sp) pos) env) P m led:=fun s Q E f N q =>
 Subscript_ (h1 s _ E f N fun a1 h' tk' pa F' N'=>by
  obtain ⟨t1,rfl⟩:=pa
  refine wpAny_Slice (wpAny_pure (h2 _ _ E F' N' fun a2 h2' tk2' pa2 F2' N2'=>?_))
  obtain ⟨t,rfl⟩:=pa2
  refine wpAny_pure ?_
  exact KBc.slice_K (s:=⟨_,_,_,_,_⟩) F2' N2' hks (by constructor) (by constructor) hz (fun h3' t' k' F3' N3' hc=>q _ _ _ (hP _ _ hc) F3' N3') (hs _ _) (ht _))
theorem en {e:IK} {t0:Tok} (he:e.Ok):am w 1 150 [.bytes (ikb e) t0] [] rest (fun r O=>IsB e.u r):=by
 have hks:=bInts_ikb e he
 have hl:=ints_len e
 have hl2:=he.u
 have fin:=fun c=>@user_cut e he c
 generalize ikb e = B at *
 generalize e.ints = ks at *
 have hz2:ks.length≤1099511627776:=by omega
 refine' ai (binds:=[("ik",.bytes B t0)]) ?ho ?hcd ?hb ?hl ?c1 ?c2 ?c3 ?c4 ?_
 fail "e"
 intro bb ok φ kφ
 refine aH (bE (px_lenB ok (Px.mono decl_name% fun v h=>⟨t0,h⟩) (ah ok nofun nofun (by decide) rfl rfl rfl) hks hz2 rfl rfl) (au ok nofun rfl rfl rfl) rfl) (fun h=>?_) fun O=>?_
 ·have:=of_decide_eq_true h
  omega
 ·refine aZ (P:=IsB e.u) (pt1 (ah ok nofun nofun (by decide) rfl rfl rfl) (az (px_cutB (P:=IsB e.u) (Px.mono decl_name% fun v h=>⟨t0,h⟩) (bq (px_lenB ok (Px.mono decl_name% fun v h=>⟨t0,h⟩) (ah ok nofun nofun (by decide) rfl rfl rfl) hks hz2 rfl rfl) (au ok nofun rfl rfl rfl)) hks (by omega) (fun t c hc=>⟨t,by rw [fin c hc]⟩) (fun O O=>nofun) fun O O=>nofun) rfl) (fun vs hvs=>?_) rfl rfl rfl) fun v hv=>kφ (.ret v) _ [] hv
  obtain ⟨_,rfl,t,rfl⟩:=hvs
  exact fun s Q E f N q=>eD (q _ s.heap s.toks ⟨t,rfl⟩ f N)
theorem ocmp_c {o:Addr} {x y:Array UInt8} {t0 t1:Tok}:am w 1 171 [.ref o,.bytes x t0,.bytes y t1] [] rest (fun r O=>IsI (if ltB x y then -1 else if ltB y x then 1 else 0) r):=by
 refine' ai (binds:=[("self",.ref o),("a",.bytes x t0),("b",.bytes y t1)]) ?ho ?hcd ?hb ?hl ?c1 ?c2 ?c3 ?c4 ?_
 fail "e"
 intro bb ok φ kφ
 refine aH (pc_ltB (Px.mono decl_name% fun v h=>⟨t0,h⟩) (Px.mono decl_name% fun v h=>⟨t1,h⟩) rfl) (fun h=>aZ (cQ ab) fun v hv=>kφ (.ret v) _ [] ?_) fun h=>?_
 ·rw [if_pos h];exact hv
 ·refine aH (pc_gtB (Px.mono decl_name% fun v h=>⟨t0,h⟩) (Px.mono decl_name% fun v h=>⟨t1,h⟩) rfl) (fun h2=>aZ ab fun v hv=>kφ (.ret v) _ [] ?_) fun h2=>aZ ab fun v hv=>kφ (.ret v) _ [] ?_
  ·rw [h,if_neg (by decide),if_pos h2];exact hv
  ·rw [h,if_neg (by decide),h2,if_neg (by decide)];exact hv
theorem icmp_c {o:Addr} {e f:IK} {t0 t1:Tok} (he:e.Ok) (hf:f.Ok) (ho:cA rest o):am w 4 253 [.ref o,.bytes (ikb e) t0,.bytes (ikb f) t1] [] rest (fun r O=>IsI (aV e f) r):=by
 revert w rest o e f t0 t1
 refine no_implicit_lambda% (aW ?_)
 refine no_implicit_lambda% (e8 ?n fun T0=>(?_:bp T0) () _ _ _ _ _ _ _)
 case n=>fail "n"
 intro O w rest o e f t0 t1
 intros
 clear T0
 obtain ⟨duo,uo,dd,hh,tt,n,m1,m2,m3,m4⟩:=ho
 refine' ai (binds:=[("self",.ref o),("a",.bytes (ikb e) t0),("b",.bytes (ikb f) t1)]) ?ho ?hcd ?hb ?hl ?c1 ?c2 ?c3 ?c4 ?_
 fail "e"
 intro bb ok φ kφ
 refine aD (P:=IsI (if ltB e.u f.u then -1 else if ltB f.u e.u then 1 else 0)) (pm1 ok (ag ok rfl m1 m2 rfl rfl (by fail "p") nofun (by fail "q") nofun rfl rfl rfl rfl) (aw ok m3 m4 rfl nofun nofun nofun) (aU (P:=IsB e.u) (P2:=IsB f.u) (pf1 ok (ao ok nofun rfl rfl rfl) (az decl_name% rfl) (ar1 ?_) nofun rfl rfl rfl) (pf1 ok (ao ok nofun rfl rfl rfl) (az decl_name% rfl) (ar1 ?_) nofun rfl rfl rfl) rfl rfl) (ar2b fun t t'=>?_) nofun rfl rfl rfl) (fun v hv=>?_) rfl rfl rfl
 ·exact ar ok (en he) (fun r fp' h=>h) (fun O h=>nomatch h) rfl (by omega)
 ·exact ar ok (en hf) (fun r fp' h=>h) (fun O h=>nomatch h) rfl (by omega)
 ·exact ar ok ocmp_c (fun r fp' h=>h) (fun O h=>nomatch h) rfl (by omega)
 obtain ⟨tc,rfl⟩:=hv
 generalize hc:(if ltB e.u f.u = true then (-1:Int) else if ltB f.u e.u = true then 1 else 0) = c
 have hcmp:aV e f = if c≠0 then c else if f.tag < e.tag then -1 else if e.tag < f.tag then 1 else 0:=by
  rw [← hc];unfold aV
  cases ltB e.u f.u <;> cases ltB f.u e.u <;> rfl
 refine aH (pc_neI (i:=c) (Px.mono decl_name% fun v h=>⟨tc,h⟩) ab rfl) (fun h=>aZ (P:=IsI c) (Px.mono decl_name% fun v h=>⟨tc,h⟩) fun v hv=>kφ (.ret v) _ [] ?_) fun h=>?_
 ·rw [hcmp,if_pos (by simpa using h)];exact hv
 ·have h0:c = 0:=by simpa using h
  rw [h0,if_neg (by simp)] at hcmp
  refine aD (P:=IsI e.tag) (pf1 ok (ao ok nofun rfl rfl rfl) (az decl_name% rfl) (ar1 ?_) nofun rfl rfl rfl) (fun v hv=>?_) rfl rfl rfl
  ·exact ar ok (tag_of_p he) (fun r fp' h=>h) (fun O h=>nomatch h) rfl (by omega)
  refine aD (P:=IsI f.tag) (pf1 ok (ao ok nofun rfl rfl rfl) (az decl_name% rfl) (ar1 ?_) nofun rfl rfl rfl) (fun v2 hv2=>?_) rfl rfl rfl
  ·exact ar ok (tag_of_p hf) (fun r fp' h=>h) (fun O h=>nomatch h) rfl (by omega)
  refine aH (cS (i:=e.tag) (j:=f.tag) (Px.mono decl_name% fun O h=>h.symm ▸ hv) (Px.mono decl_name% fun O h=>h.symm ▸ hv2) rfl) (fun h=>aZ (cQ ab) fun v hv=>kφ (.ret v) _ [] ?_) fun h=>?_
  ·rw [hcmp,if_pos (of_decide_eq_true h)];exact hv
  ·refine aH (bE (i:=e.tag) (j:=f.tag) (Px.mono decl_name% fun O h=>h.symm ▸ hv) (Px.mono decl_name% fun O h=>h.symm ▸ hv2) rfl) (fun h2=>aZ ab fun v hv=>kφ (.ret v) _ [] ?_) fun h2=>aZ ab fun v hv=>kφ (.ret v) _ [] ?_
   ·rw [hcmp,if_neg (of_decide_eq_false h),if_pos (of_decide_eq_true h2)];exact hv
   ·rw [hcmp,if_neg (of_decide_eq_false h),if_neg (of_decide_eq_false h2)];exact hv
end
theorem byteArr_app (a b:List Int):byteArr (a++b) = byteArr a++byteArr b:=by simp [byteArr]
theorem byteArr_bInts (u:Array UInt8):byteArr (KBw.bInts u) = u:=by
 apply bInts_inj
 exact KBa.ints_make (fun n hn=>KBw.ints_in hn)
noncomputable def l32 (b:Int):List Int:=[b % 256,b / 256 % 256,b / 65536 % 256,b / 16777216]
theorem l32_in {b:Int} (h0:0≤b) (h1:b < 4294967296):KBa.In (l32 b) :=
 have m (x:Int):0≤x % 256∧x % 256 < 256:=⟨Int.emod_nonneg _ (by decide),Int.emod_lt_of_pos _ (by decide)⟩
 bA (m _) (bA (m _) (bA (m _) (bA ⟨Int.ediv_nonneg h0 (by decide),Int.ediv_lt_of_lt_mul (by decide) h1⟩ fun O h=>nomatch h)))
theorem l64_l {q k:Nat} (hq:q < 72057594037927936) (hk:k < 256):l32 (((k:Int) + (q:Int) * 256) % 4294967296)++l32 (((k:Int) + (q:Int) * 256) / 4294967296) = tagL q k:=by
 have d (c:Nat):(k + q * 256) / (256 * c) = q / c:=by rw [← Nat.div_div_eq_div_mul,Nat.add_mul_div_right _ _ (by decide),Nat.div_eq_of_lt hk,Nat.zero_add]
 have e (m c r:Nat) (h:256 ∣ r) (hm:256 * c * r = m):(k + q * 256) % m / (256 * c) % 256 = q / c % 256:=by rw [← hm,Nat.mod_mul_right_div_self,Nat.mod_mod_of_dvd _ h,d]
 show [((((k + q * 256) % 4294967296 % 256:Nat)):Int),(((k + q * 256) % 4294967296 / 256 % 256:Nat):Int),(((k + q * 256) % 4294967296 / 65536 % 256:Nat):Int),(((k + q * 256) % 4294967296 / 16777216:Nat):Int),(((k + q * 256) / 4294967296 % 256:Nat):Int),(((k + q * 256) / 4294967296 / 256 % 256:Nat):Int),(((k + q * 256) / 4294967296 / 65536 % 256:Nat):Int),(((k + q * 256) / 4294967296 / 16777216:Nat):Int)] = _
 rw [Nat.mod_mod_of_dvd _ (by decide:256 ∣ 4294967296),Nat.add_mul_mod_self_right,Nat.mod_eq_of_lt hk,e 4294967296 1 16777216 (by decide) rfl,e 4294967296 256 65536 (by decide) rfl,Nat.mod_mul_right_div_self _ 16777216 256,d 65536,d 16777216,Nat.div_div_eq_div_mul q,Nat.div_div_eq_div_mul q,Nat.div_div_eq_div_mul q,Nat.div_one,
  ← Nat.mod_eq_of_lt (Nat.div_lt_of_lt_mul hq:q / 281474976710656 < 256)]
 rfl
theorem l64_tag (u:Array UInt8) (q k:Nat) (hq:q < 72057594037927936) (hk:k < 256):u++(byteArr (l32 (((k:Int) + (q:Int) * 256) % 4294967296))++byteArr (l32 (((k:Int) + (q:Int) * 256) / 4294967296))) = ikb ⟨u,q,k⟩:=by
 unfold ikb IK.ints
 rw [byteArr_app,byteArr_bInts,← byteArr_app,l64_l hq hk]
section
variable {w:World} {D:Nat} {rest:Led}
theorem px_args4 {F:FnC} {b:Bx} {m:MM} {led:Led} {env:Env} {pos:Pos} {e e2 e3 e4:Expr} {P P2 P3 P4:Value→Prop} (h1:Px w F b (eval e env) P m led) (h2:Px w F b (eval e2 env) P2 m led) (h3:Px w F b (eval e3 env) P3 m led) (h4:Px w F b (eval e4 env) P4 m led) (he:starEach [e,e2,e3,e4] env = (false,eval e env)::starEach [e2,e3,e4] env) (he2:starEach [e2,e3,e4] env = (false,eval e2 env)::starEach [e3,e4] env) (he3:starEach [e3,e4] env = (false,eval e3 env)::starEach [e4] env) (he4:starEach [e4] env = (false,eval e4 env)::starEach [] env) :
  Px w F b (spliced (backTo pos (starEach [e,e2,e3,e4] env))) (fun vs=>∃ v v2 v3 v4,vs = [v,v2,v3,v4]∧P v∧P2 v2∧P3 v3∧P4 v4) m led:=fun s Q E f N q =>
 args_cons (h1 s _ E f N fun a h' tk' pa F' N'=>args_cons (h2 _ _ E F' N' fun a2 h2' tk2' pa2 F2' N2'=>args_cons (h3 _ _ E F2' N2' fun a3 h3' tk3' pa3 F3' N3'=>args_cons (h4 _ _ E F3' N3' fun a4 h4' tk4' pa4 F4' N4'=>args_nil (q _ _ _ ⟨a,a2,a3,a4,rfl,pa,pa2,pa3,pa4⟩ F4' N4')) he4) he3) he2) he
theorem px_make {F:FnC} {b:Bx} {m:MM} {led:Led} {env:Env} {pos lp:Pos} {o:Expr} {elts:List Expr} {ns:List Int} (h1:Px w F b (eval o env) (fun a=>a = .type "bytes") m led) (h2:Px w F b (spliced (backTo lp (starEach elts env))) (fun vs=>IntsAre vs ns) m led) (hr:KBa.In ns) (hn:ns.length≤1000)
  (ha:starEach [.List elts lp] env = (false,eval (.List elts lp) env)::starEach [] env)
  (he:eval (.Call o [.List elts lp] [] pos) env = (do callWith pos (← eval o env) [] (backTo pos (starEach [.List elts lp] env)) (backToKw pos (keywordEach [] env)))):Px w F b (eval (.Call o [.List elts lp] [] pos) env) (IsB (byteArr ns)) m led:=fun s Q E f N q =>
 Call_ (h1 s _ E f N fun a h' tk' pa F' N'=>by
  subst pa
  refine Pv.callWith_type1 (args_cons (List_ (h2 _ _ E F' N' fun vs h2' tk2' pa2 F2' N2'=>?_)) ha) ha rfl
  have hl:=pa2.length
  refine newList_K F2' N2' (fun l h3' F3' N3' O=>args_nil ?_) (by rw [hl];exact Nat.le_trans hn (by decide))
  exact KBa.make_K F3' (bJ N3' fun O h=>.tail _ h) rfl (News.isList N3' (.head _)) pa2 hr (by omega) fun h4' t' k F4' N4' O=>q _ _ _ ⟨_,rfl⟩ F4' N4') he
theorem p32_c {B:Int} {t0:Tok} (h0:0≤B) (h1:B < 4294967296):am w 1 101 [.int B t0] [] rest (fun r O=>IsB (byteArr (l32 B)) r):=by
 revert w rest B t0
 refine no_implicit_lambda% (e4 ?n fun T0=>(?_:bp T0) _ _ _ _)
 case n=>fail "n"
 intro w rest B t0
 intros
 clear T0
 have hin:=l32_in h0 h1
 refine' ai (binds:=[("n",.int B t0)]) ?ho ?hcd ?hb ?hl ?c1 ?c2 ?c3 ?c4 ?_
 fail "e"
 intro bb ok φ kφ
 refine aH (cZ (bE (Px.mono decl_name% fun v h=>⟨t0,h⟩) ab rfl) fun O=>cS (Px.mono decl_name% fun v h=>⟨t0,h⟩) (au ok nofun rfl rfl rfl) rfl) (fun h=>?_) fun O=>?_
 ·rw [Bool.or_eq_true,decide_eq_true_eq,decide_eq_true_eq] at h
  omega
 ·refine aZ (px_make (ns:=l32 B) (ah ok nofun nofun (by decide) rfl rfl rfl) (Px.mono (px_args4 (aG (Px.mono decl_name% fun v h=>⟨t0,h⟩) ab (op_and255 h0)) (aG (aG (Px.mono decl_name% fun v h=>⟨t0,h⟩) ab op_shr8) ab (op_and255 (by omega))) (aG (aG (Px.mono decl_name% fun v h=>⟨t0,h⟩) ab op_shr16) ab (op_and255 (by omega))) (aG (Px.mono decl_name% fun v h=>⟨t0,h⟩) ab op_shr24) rfl rfl rfl rfl) fun vs hvs=>?_) hin (by show 4≤1000;decide) rfl rfl) fun v hv=>kφ (.ret v) _ [] hv
  obtain ⟨_,_,_,_,rfl,⟨_,rfl⟩,⟨_,rfl⟩,⟨_,rfl⟩,⟨_,rfl⟩⟩:=hvs
  exact .cons _ _ (.cons _ _ (.cons _ _ (.cons _ _ .nil)))
theorem p64_c {B:Int} {t0:Tok} (h0:0≤B) (h1:B < 18446744073709551616):am w 2 108 [.int B t0] [] rest (fun r O=>IsB (byteArr (l32 (B % 4294967296))++byteArr (l32 (B / 4294967296))) r):=by
 refine' ai (binds:=[("n",.int B t0)]) ?ho ?hcd ?hb ?hl ?c1 ?c2 ?c3 ?c4 ?_
 fail "e"
 intro bb ok φ kφ
 refine aH (cZ (bE (Px.mono decl_name% fun v h=>⟨t0,h⟩) ab rfl) fun O=>cS (Px.mono decl_name% fun v h=>⟨t0,h⟩) (au ok nofun rfl rfl rfl) rfl) (fun h=>?_) fun O=>?_
 ·rw [Bool.or_eq_true,decide_eq_true_eq,decide_eq_true_eq] at h
  omega
 ·refine aZ (aG (P:=IsB (byteArr (l32 (B % 4294967296)))) (P2:=IsB (byteArr (l32 (B / 4294967296)))) (pf1 ok (ao ok nofun rfl rfl rfl) (az (aG (Px.mono decl_name% fun v h=>⟨t0,h⟩) (au ok nofun rfl rfl rfl) (op_andM h0)) rfl) (fun vs hvs=>?_) nofun rfl rfl rfl) (pf1 ok (ao ok nofun rfl rfl rfl) (az (aG (Px.mono decl_name% fun v h=>⟨t0,h⟩) ab op_shr32) rfl) (fun vs hvs=>?_) nofun rfl rfl rfl) (op_addB (by rw [PySem.byteArr_size,PySem.byteArr_size];show 8≤16777216;decide))) fun v hv=>kφ (.ret v) _ [] hv
  ·obtain ⟨_,rfl,t,rfl⟩:=hvs
   exact ar ok (p32_c (by omega) (by omega)) (fun r fp' h=>h) (fun O h=>nomatch h) rfl (by omega)
  ·obtain ⟨_,rfl,t,rfl⟩:=hvs
   exact ar ok (p32_c (by omega) (by omega)) (fun r fp' h=>h) (fun O h=>nomatch h) rfl (by omega)
theorem tag_c {q:Int} {t1 t2:Tok} (h0:0≤q) (h1:q < 72057594037927936):am w 1 129 [.int q t1,.int 1 t2] [] rest (fun r O=>IsI (1 + q * 256) r):=by
 refine' ai (binds:=[("seq",.int q t1),("kind",.int 1 t2)]) ?ho ?hcd ?hb ?hl ?c1 ?c2 ?c3 ?c4 ?_
 fail "e"
 intro bb ok φ kφ
 refine aH (cZ (bE (Px.mono decl_name% fun v h=>⟨t1,h⟩) ab rfl) fun O=>cS (Px.mono decl_name% fun v h=>⟨t1,h⟩) (au ok nofun rfl rfl rfl) rfl) (fun h=>?_) fun O=>?_
 ·rw [Bool.or_eq_true,decide_eq_true_eq,decide_eq_true_eq] at h
  omega
 refine aH (ck (pc_neI (i:=1) (Px.mono decl_name% fun v h=>⟨t2,h⟩) (au ok nofun rfl rfl rfl) rfl) fun O=>pc_neI (i:=1) (Px.mono decl_name% fun v h=>⟨t2,h⟩) (au ok nofun rfl rfl rfl) rfl) (fun h=>by cases h) fun O=>?_
 exact aZ (aG (aG (Px.mono decl_name% fun v h=>⟨t1,h⟩) ab (op_shl8b h0 h1)) (Px.mono decl_name% fun v h=>⟨t2,h⟩) (op_or8r (by decide) (by decide) h0)) fun v hv=>kφ (.ret v) _ [] hv
theorem mkik_c {u:Array UInt8} {q:Int} {t0 t1 t2:Tok} (h0:0≤q) (h1:q < 72057594037927936) (hu:u.size≤1000):am w 3 136 [.bytes u t0,.int q t1,.int 1 t2] [] rest (fun r O=>IsB (ikb ⟨u,q.toNat,1⟩) r):=by
 obtain ⟨n,rfl⟩:∃ n:Nat,q = (n:Int):=⟨q.toNat,by omega⟩
 rw [Int.toNat_natCast,← l64_tag u n 1 (by omega) (by decide)]
 refine' ai (binds:=[("user",.bytes u t0),("seq",.int (n:Int) t1),("kind",.int 1 t2)]) ?ho ?hcd ?hb ?hl ?c1 ?c2 ?c3 ?c4 ?_
 fail "e"
 intro bb ok φ kφ
 refine aZ (aG (P:=IsB u) (P2:=IsB (byteArr (l32 ((1 + (n:Int) * 256) % 4294967296))++byteArr (l32 ((1 + (n:Int) * 256) / 4294967296)))) (pt1 (ah ok nofun nofun (by decide) rfl rfl rfl) (az decl_name% rfl) (fun vs hvs=>?_) rfl rfl rfl) (pf1 ok (ao ok nofun rfl rfl rfl) (az (P:=IsI (1 + (n:Int) * 256)) (pf1 ok (ao ok nofun rfl rfl rfl) (aU decl_name% decl_name% rfl rfl) (fun vs hvs=>?_) nofun rfl rfl rfl) rfl) (fun vs hvs=>?_) nofun rfl rfl rfl) (op_addB (by rw [Array.size_append,PySem.byteArr_size,PySem.byteArr_size];show u.size + 8≤16777216;omega))) fun v hv=>kφ (.ret v) _ [] hv
 ·obtain ⟨_,rfl,rfl⟩:=hvs
  exact fun s Q E f N q=>eD (q _ s.heap s.toks ⟨t0,rfl⟩ f N)
 ·obtain ⟨_,_,rfl,rfl,rfl⟩:=hvs
  exact ar ok (tag_c h0 h1) (fun r fp' h=>h) (fun O h=>nomatch h) rfl (by omega)
 ·obtain ⟨_,rfl,t,rfl⟩:=hvs
  exact ar ok (p64_c (by omega) (by omega)) (fun r fp' h=>h) (fun O h=>nomatch h) rfl (by omega)
end
theorem bG.mono {rest rest':Led} {c dx o r:Addr} {vs:Array Value} {n2:Nat} {R:List Row} (h:bG rest c dx o r vs n2 R) (hs:∀ p∈rest,p∈rest'):bG rest' c dx o r vs n2 R :=
 ⟨hs _ h.inst,hs _ h.lst,h.len,fun i k v hx=>by obtain ⟨a,t1,t2,n,e1,e2⟩:=h.row i k v hx;exact ⟨a,t1,t2,n,e1,hs _ e2⟩,h.ok,h.small,h.ord.mono hs⟩
theorem isI {i:Int} {t:Tok}:∀ v,v = .int i t→IsI i v:=fun v h=>⟨t,h⟩
theorem isB {x:Array UInt8} {t:Tok}:∀ v,v = .bytes x t→IsB x v:=fun v h=>⟨t,h⟩
section
variable {w:World} {D:Nat} {rest:Led} {c dx o r:Addr} {vs:Array Value} {n2:Nat} {R:List Row} {q:LP} {p:Int} {t:Tok}
theorem lx_place {F:FnC} {b:Bx} {m:MM} {φ:FP} {g:Int} {xp pos pos':Pos} {value:Expr} {x:Str} (ok:Okx w D b) (m1:(c,instObj 380 dx)∈rest) (off:∀ p∈rest,p.1≠dx) (hv:m x = some (.ref c))
  (h:Px w F b (eval value (evx F b)) (IsI g) m ((dx,LD q r o p t)::rest)) (hq:∀ t:Tok,φ .next m ((dx,LD q r o g t)::rest)) (hk:F.cs.kind = .function) (hx:(evx F b).kindOf x = some .local) (hd:(x == ("__debug__":Str)) = false) (hs:swapsWith value (some (.Attribute (.Name x xp) "place" pos')) pos.line (evx F b) = pure false) :
  Lx w F b (exec (.Assign [.Attribute (.Name x xp) "place" pos'] value pos) (evx F b)) φ m ((dx,LD q r o p t)::rest) :=
 dQ (C:=380) (dx:=dx) (r:=c) (es':=fun v=>[⟨q.h1,.str "rows" q.t1,.ref r⟩,⟨q.h2,.str "order" q.t2,.ref o⟩,⟨q.h3,.str "place" q.t3,v⟩]) (n':=3) (led':=fun v=>(dx,dictOf [⟨q.h1,.str "rows" q.t1,.ref r⟩,⟨q.h2,.str "order" q.t2,.ref o⟩,⟨q.h3,.str "place" q.t3,v⟩] 3)::rest) ok h (di hv hk hx hd) (.tail _ m1) (.head _) nofun nofun nofun nofun
  rfl (fun O O=>rfl) (fun O=>.head off) (fun O=>by show 3≤1000;decide) hs (fun v hv=>by obtain ⟨t,rfl⟩:=hv;exact hq t)
theorem lx_placeAug {F:FnC} {b:Bx} {m:MM} {φ:FP} {op:Operator} {g:Int} {P:Value→Prop} {xp pos pos':Pos} {value:Expr} {x:Str} (ok:Okx w D b) (m1:(c,instObj 380 dx)∈rest) (off:∀ p∈rest,p.1≠dx) (hv:m x = some (.ref c))
  (h:Px w F b (eval value (evx F b)) P m ((dx,LD q r o p t)::rest)) (hop:∀ u,P u→Px w F b (inplaceOp op (.int p t) u) (IsI g) m ((dx,LD q r o p t)::rest)) (hq:∀ t:Tok,φ .next m ((dx,LD q r o g t)::rest)) (hk:F.cs.kind = .function) (hx:(evx F b).kindOf x = some .local) (hd:(x == ("__debug__":Str)) = false) :
  Lx w F b (exec (.AugAssign (.Attribute (.Name x xp) "place" pos') op value pos) (evx F b)) φ m ((dx,LD q r o p t)::rest) :=
 lx_augattr (C:=380) (dx:=dx) (r:=c) (es':=fun v=>[⟨q.h1,.str "rows" q.t1,.ref r⟩,⟨q.h2,.str "order" q.t2,.ref o⟩,⟨q.h3,.str "place" q.t3,v⟩]) (n':=3) (led':=fun v=>(dx,dictOf [⟨q.h1,.str "rows" q.t1,.ref r⟩,⟨q.h2,.str "order" q.t2,.ref o⟩,⟨q.h3,.str "place" q.t3,v⟩] 3)::rest) ok hv h hop (.tail _ m1) (.head _) rfl rfl nofun nofun nofun nofun nofun nofun nofun
  (fun O O=>rfl) (fun O=>.head off) (fun O=>by show 3≤1000;decide) (fun v hv=>by obtain ⟨t,rfl⟩:=hv;exact hq t) hk hx hd
theorem lvalid_c (hl:bG rest c dx o r vs n2 R):am w (D + 1) 321 [.ref c] [(dx,LD q r o p t)] rest (fun v fp'=>v = .bool (decide (0≤p∧p < R.length))∧fp' = [(dx,LD q r o p t)]):=by
 have m1:=hl.inst
 have m2:=hl.lst
 have l1:=hl.len
 have l2:=hl.small
 refine' ai (binds:=[("self",.ref c)]) ?ho ?hcd ?hb ?hl ?c1 ?c2 ?c3 ?c4 ?_
 fail "e"
 intro bb ok φ kφ
 refine aZ (pv_and (eL ab (Px.mono (ag ok rfl (.tail _ m1) (.head _) rfl rfl (by fail "p") nofun (by fail "q") nofun rfl rfl rfl rfl) isI) op_leI rfl) fun O=>eL (Px.mono (ag ok rfl (.tail _ m1) (.head _) rfl rfl (by fail "p") nofun (by fail "q") nofun rfl rfl rfl rfl) isI) (dm ok (ag ok rfl (.tail _ m1) (.head _) rfl rfl (by fail "p") nofun (by fail "q") nofun rfl rfl rfl rfl) (ah ok nofun nofun (by decide) rfl rfl rfl) (.tail _ m2) (by omega) rfl rfl) op_ltI rfl) fun v hv=>kφ (.ret v) _ [_] ⟨hv.trans ?_,rfl⟩
 rw [l1,← Bool.decide_and]
theorem lneed_c (hl:bG rest c dx o r vs n2 R) (h0:0≤p) (h1:p < R.length):am w (D + 1 + 1) 328 [.ref c] [(dx,LD q r o p t)] rest (fun v fp'=>fp' = [(dx,LD q r o p t)]):=by
 have m1:=hl.inst
 refine' ai (binds:=[("self",.ref c)]) ?ho ?hcd ?hb ?hl ?c1 ?c2 ?c3 ?c4 ?_
 fail "e"
 intro bb ok φ kφ
 refine aH (c:=!true) (dJ (bt (pm0 ok decl_name% (aw ok (.tail _ m1) (.head _) rfl nofun nofun nofun) (ar ok (lvalid_c (D:=D) (hl.mono fun p hp=>.tail _ hp)) (fun r fp' h=>h.1.trans (by rw [decide_eq_true ⟨h0,h1⟩])) (fun p hp=>by rw [List.mem_singleton.mp hp];exact .head _) rfl (Nat.le_refl _)) nofun rfl) rfl)) (fun h=>by cases h) fun O=>ae (kφ .next _ [_] rfl)
theorem sx_lneed {F:FnC} {b:Bx} {m:MM} {φ:FP} {pl:Sem Bool} {xp ap pos:Pos} {stmts:List Stmt} (ok:Okx w D b) (hl:bG rest c dx o r vs n2 R) (h0:0≤p) (h1:p < R.length) (e1:m "self" = some (.ref c)) (hq:Lx w F b (execs stmts (evx F b)) φ m ((dx,LD q r o p t)::rest)) (hk:F.cs.kind = .function) (hx:(evx F b).kindOf "self" = some .local) (hD:2≤D) (hia:interactive (evx F b) = false)
  (hs:swapsWith (.Call (.Attribute (.Name "self" xp) "need" ap) [] [] pos) none pos.line (evx F b) = pure false) (he:eval (.Call (.Attribute (.Name "self" xp) "need" ap) [] [] pos) (evx F b) = (do
   let ov ← eval (.Name "self" xp) (evx F b)
   standAt ap.atName
   let (f,first) ← holding [ov] (getMethod ov "need" pl)
   callWith pos f first (backTo pos (starEach [] (evx F b))) [])):Lx w F b (execs (.Expr (.Call (.Attribute (.Name "self" xp) "need" ap) [] [] pos) pos::stmts) (evx F b)) φ m ((dx,LD q r o p t)::rest):=by
 have m1:=hl.inst
 refine aO (lm0 ok (af e1 hk hx rfl) (aw ok (.tail _ m1) (.head _) rfl nofun nofun nofun) (aX ok hk hD (lneed_c (D:=0) hl h0 h1) (fun O h=>h) fun r fp' hp=>?_) nofun he) hia hs
 subst hp
 exact hq
theorem lat_c {i:Nat} {x:Row} {ti:Tok} (hl:bG rest c dx o r vs n2 R) (hx:R[i]? = some x):am w (D + 1) 307 [.ref c,.int (i:Int) ti] [(dx,LD q r o p t)] rest (fun v fp'=>IsB (ikb x.1) v∧fp' = [(dx,LD q r o p t)]):=by
 have m1:=hl.inst
 have l2:=hl.small
 obtain ⟨a,t1,t2,n,e1,e2⟩:=hl.row _ _ _ hx
 have h1:=(List.getElem?_eq_some_iff.mp hx).1
 refine' ai (binds:=[("self",.ref c),("i",.int (i:Int) ti)]) ?ho ?hcd ?hb ?hl ?c1 ?c2 ?c3 ?c4 ?_
 fail "e"
 intro bb ok φ kφ
 exact aZ (bh (aK (ag ok rfl (.tail _ m1) (.head _) rfl rfl (by fail "p") nofun (by fail "q") nofun rfl rfl rfl rfl) (Px.mono decl_name% isI) (.tail _ hl.lst) (by omega) (by omega) e1 (fun O=>nofun)) ab (.tail _ e2) (by decide) (by decide) rfl (fun O=>nofun)) fun v hv=>kφ (.ret v) _ [_] ⟨⟨t1,hv⟩,rfl⟩
theorem lvat_c {i:Nat} {x:Row} {ti:Tok} (hl:bG rest c dx o r vs n2 R) (hx:R[i]? = some x):am w (D + 1) 314 [.ref c,.int (i:Int) ti] [(dx,LD q r o p t)] rest (fun v fp'=>IsB x.2 v∧fp' = [(dx,LD q r o p t)]):=by
 have m1:=hl.inst
 have l2:=hl.small
 obtain ⟨a,t1,t2,n,e1,e2⟩:=hl.row _ _ _ hx
 have h1:=(List.getElem?_eq_some_iff.mp hx).1
 refine' ai (binds:=[("self",.ref c),("i",.int (i:Int) ti)]) ?ho ?hcd ?hb ?hl ?c1 ?c2 ?c3 ?c4 ?_
 fail "e"
 intro bb ok φ kφ
 exact aZ (bh (aK (ag ok rfl (.tail _ m1) (.head _) rfl rfl (by fail "p") nofun (by fail "q") nofun rfl rfl rfl rfl) (Px.mono decl_name% isI) (.tail _ hl.lst) (by omega) (by omega) e1 (fun O=>nofun)) ab (.tail _ e2) (by decide) (by decide) rfl (fun O=>nofun)) fun v hv=>kφ (.ret v) _ [_] ⟨⟨t2,hv⟩,rfl⟩
theorem lkey_c {i:Nat} {x:Row} (hl:bG rest c dx o r vs n2 R) (hp:p = (i:Int)) (hx:R[i]? = some x):am w (D + 2 + 1) 370 [.ref c] [(dx,LD q r o p t)] rest (fun v fp'=>IsB (ikb x.1) v∧fp' = [(dx,LD q r o p t)]):=by
 have m1:=hl.inst
 have h1:=(List.getElem?_eq_some_iff.mp hx).1
 subst hp
 refine' ai (binds:=[("self",.ref c)]) ?ho ?hcd ?hb ?hl ?c1 ?c2 ?c3 ?c4 ?_
 fail "e"
 intro bb ok φ kφ
 refine sx_lneed ok hl (by omega) (by omega) rfl ?_ rfl rfl (by omega) rfl rfl rfl
 refine aZ (P:=IsB (ikb x.1)) (pm1 ok decl_name% (aw ok (.tail _ m1) (.head _) rfl nofun nofun nofun) (az (ag ok rfl (.tail _ m1) (.head _) rfl rfl (by fail "p") nofun (by fail "q") nofun rfl rfl rfl rfl) rfl) (ar1 ?_) nofun rfl rfl rfl) fun v hv=>kφ (.ret v) _ [_] ⟨hv,rfl⟩
 exact ar ok (lat_c (D:=0) (hl.mono fun p hp=>.tail _ hp) hx) (fun r fp' h=>h.1) (fun p hp=>by rw [List.mem_singleton.mp hp];exact .head _) rfl (by omega)
theorem lvalue_c {i:Nat} {x:Row} (hl:bG rest c dx o r vs n2 R) (hp:p = (i:Int)) (hx:R[i]? = some x):am w (D + 2 + 1) 377 [.ref c] [(dx,LD q r o p t)] rest (fun v fp'=>IsB x.2 v∧fp' = [(dx,LD q r o p t)]):=by
 have m1:=hl.inst
 have h1:=(List.getElem?_eq_some_iff.mp hx).1
 subst hp
 refine' ai (binds:=[("self",.ref c)]) ?ho ?hcd ?hb ?hl ?c1 ?c2 ?c3 ?c4 ?_
 fail "e"
 intro bb ok φ kφ
 refine sx_lneed ok hl (by omega) (by omega) rfl ?_ rfl rfl (by omega) rfl rfl rfl
 refine aZ (P:=IsB x.2) (pm1 ok decl_name% (aw ok (.tail _ m1) (.head _) rfl nofun nofun nofun) (az (ag ok rfl (.tail _ m1) (.head _) rfl rfl (by fail "p") nofun (by fail "q") nofun rfl rfl rfl rfl) rfl) (ar1 ?_) nofun rfl rfl rfl) fun v hv=>kφ (.ret v) _ [_] ⟨hv,rfl⟩
 exact ar ok (lvat_c (D:=0) (hl.mono fun p hp=>.tail _ hp) hx) (fun r fp' h=>h.1) (fun p hp=>by rw [List.mem_singleton.mp hp];exact .head _) rfl (by omega)
inductive LpP (q:LP) (r o dx:Addr) (g:Int):Value→Led→Prop
 | mk (t:Tok):LpP q r o dx g .none [(dx,LD q r o g t)]
theorem lfirst_c (hl:bG rest c dx o r vs n2 R) (off:∀ p∈rest,p.1≠dx):am w (D + 1) 335 [.ref c] [(dx,LD q r o p t)] rest (LpP q r o dx 0):=by
 refine' ai (binds:=[("self",.ref c)]) ?ho ?hcd ?hb ?hl ?c1 ?c2 ?c3 ?c4 ?_
 fail "e"
 intro bb ok φ kφ
 exact aj (lx_place ok hl.inst off rfl ab (fun t=>ae (kφ .next _ [_] (.mk t))) rfl rfl rfl rfl)
theorem llast_c (hl:bG rest c dx o r vs n2 R) (off:∀ p∈rest,p.1≠dx):am w (D + 1) 342 [.ref c] [(dx,LD q r o p t)] rest (LpP q r o dx ((R.length:Int) - 1)):=by
 have m1:=hl.inst
 have l1:=hl.len
 have l2:=hl.small
 refine' ai (binds:=[("self",.ref c)]) ?ho ?hcd ?hb ?hl ?c1 ?c2 ?c3 ?c4 ?_
 fail "e"
 intro bb ok φ kφ
 exact aj (lx_place ok hl.inst off rfl (bq (dm ok (ag ok rfl (.tail _ m1) (.head _) rfl rfl (by fail "p") nofun (by fail "q") nofun rfl rfl rfl rfl) (ah ok nofun nofun (by decide) rfl rfl rfl) (.tail _ hl.lst) (by omega) rfl rfl) ab) (fun t=>ae (kφ .next _ [_] (by rw [← l1];exact .mk t))) rfl rfl rfl rfl)
theorem lstep_c (hl:bG rest c dx o r vs n2 R) (off:∀ p∈rest,p.1≠dx) (h0:0≤p) (h1:p < R.length):am w (D + 2 + 1) 356 [.ref c] [(dx,LD q r o p t)] rest (LpP q r o dx (p + 1)):=by
 refine' ai (binds:=[("self",.ref c)]) ?ho ?hcd ?hb ?hl ?c1 ?c2 ?c3 ?c4 ?_
 fail "e"
 intro bb ok φ kφ
 exact sx_lneed ok hl h0 h1 rfl (aj (lx_placeAug ok hl.inst off rfl ab (op_iadd ⟨t,rfl⟩) (fun t=>ae (kφ .next _ [_] (.mk t))) rfl rfl rfl)) rfl rfl (by omega) rfl rfl rfl
theorem lback_c (hl:bG rest c dx o r vs n2 R) (off:∀ p∈rest,p.1≠dx) (h0:0≤p) (h1:p < R.length):am w (D + 2 + 1) 363 [.ref c] [(dx,LD q r o p t)] rest (LpP q r o dx (p - 1)):=by
 refine' ai (binds:=[("self",.ref c)]) ?ho ?hcd ?hb ?hl ?c1 ?c2 ?c3 ?c4 ?_
 fail "e"
 intro bb ok φ kφ
 exact sx_lneed ok hl h0 h1 rfl (aj (lx_placeAug ok hl.inst off rfl ab (op_isub ⟨t,rfl⟩) (fun t=>ae (kφ .next _ [_] (.mk t))) rfl rfl rfl)) rfl rfl (by omega) rfl rfl rfl
structure LsJ (led:Led) (c:Addr) (e:IK) (te:Tok) (i:Nat) (len:Nat) (n:Nat) (m:MM) (led':Led):Prop where
 hl:led' = led
 es:m "self" = some (.ref c)
 et:m "target" = some (.bytes (ikb e) te)
 lh:∃ lo hi:Int,(∃ v,m "low" = some v∧IsI lo v)∧(∃ v,m "high" = some v∧IsI hi v)∧0≤lo∧lo≤i∧(i:Int)≤hi∧hi≤len∧(n:Int) = hi - lo
theorem lseek_c {e:IK} {te:Tok} {i:Nat} (hl:bG rest c dx o r vs n2 R) (off:∀ p∈rest,p.1≠dx) (he:e.Ok) (hi:i≤R.length) (hcut:∀ (j:Nat) (x:Row),R[j]? = some x→(aV x.1 e < 0 ↔ j < i)) :
  am w (D + 5 + 1) 349 [.ref c,.bytes (ikb e) te] [(dx,LD q r o p t)] rest (LpP q r o dx (i:Int)):=by
 revert w D rest c dx o r vs n2 R q p t e te i
 refine no_implicit_lambda% (e16 ?n fun T0=>(?_:bp T0) _ _ _ _ _ _ _ _ _ _ _ _ _ _ _ _)
 case n=>fail "n"
 intro w D rest c dx o r vs n2 R q p t e te i
 intros
 clear T0
 have m1:=hl.inst
 have l1:=hl.len
 have l2:=hl.small
 have ord:=hl.ord
 obtain ⟨duo,uo,dd,hh,tt,nn,o1,o2,o3,o4⟩:=id hl.ord
 refine' ai (binds:=[("self",.ref c),("target",.bytes (ikb e) te)]) ?ho ?hcd ?hb ?hl ?c1 ?c2 ?c3 ?c4 ?_
 fail "e"
 intro bb ok φ kφ
 refine aD ab (fun v hv=>?_) rfl rfl rfl
 refine aD (dm ok (ag ok rfl (.tail _ m1) (.head _) rfl rfl (by fail "p") nofun (by fail "q") nofun rfl rfl rfl rfl) (ah ok nofun nofun (by decide) rfl rfl rfl) (.tail _ hl.lst) (by omega (splitNatSub:=true)) rfl rfl) (fun v2 hv2=>?_) rfl rfl rfl
 refine sx_while (LsJ ((dx,LD q r o p t)::rest) c e te i R.length) (fun m led=>led = (dx,LD q r o p t)::rest∧m "self" = some (.ref c)∧∃ v,m "low" = some v∧IsI (i:Int) v) R.length ⟨rfl,rfl,rfl,0,R.length,⟨v,rfl,hv⟩,⟨v2,rfl,l1 ▸ hv2⟩,by omega (splitNatSub:=true),by omega (splitNatSub:=true),by omega (splitNatSub:=true),by omega (splitNatSub:=true),by omega (splitNatSub:=true)⟩ ?_ fun m' led' h=>?_
 ·clear hv hv2
  intro n m₁ led₁ hx Φ kn kc kb kr
  obtain ⟨rfl,es,et,lo,hi2,el,eh,b1,b2,b3,b4,b5⟩:=hx
  refine ⟨decide (lo < hi2),bE (ac el rfl rfl rfl) (ac eh rfl rfl rfl) rfl,fun hc=>?_,fun hc=>?_⟩
  ·have hlt:=of_decide_eq_true hc
   have c1:lo≤(lo + hi2).fdiv 2∧(lo + hi2).fdiv 2 < hi2:=by
    rw [Int.fdiv_eq_ediv_of_nonneg _ (by decide)];omega (splitNatSub:=true)
   refine aD (px_fdiv (cJ (ac el rfl rfl rfl) (ac eh rfl rfl rfl)) ab (by decide) (by rw [PyProof.noPylong_small (by omega (splitNatSub:=true))];decide)) (fun v hv=>?_) rfl rfl rfl
   obtain ⟨mid,hmid⟩:∃ mid:Nat,(lo + hi2).fdiv 2 = (mid:Int):=⟨((lo + hi2).fdiv 2).toNat,by omega (splitNatSub:=true)⟩
   rw [hmid] at c1 hv
   obtain ⟨tm,rfl⟩:=hv
   obtain ⟨y,hy⟩:∃ y,R[mid]? = some y:=⟨_,List.getElem?_eq_getElem (by omega (splitNatSub:=true))⟩
   have hok:y.1.Ok:=hl.ok _ (List.mem_of_getElem? hy)
   have hd:=hcut _ _ hy
   refine sx_if (bE (i:=aV y.1 e) (pm1 ok (ag ok es (.tail _ m1) (.head _) rfl rfl (by fail "p") nofun (by fail "q") nofun rfl rfl rfl rfl) (aw ok (.tail _ o1) (.tail _ o2) rfl nofun nofun nofun) (aU (P:=IsB (ikb y.1)) (pm1 ok (af es rfl rfl rfl) (aw ok (.tail _ m1) (.head _) rfl nofun nofun nofun) (az decl_name% rfl) (fun vs hvs=>?_) nofun rfl rfl rfl) (af et rfl rfl rfl) rfl rfl) (fun vs hvs=>?_) nofun rfl rfl rfl) ab rfl) (fun h=>?_) fun h=>?_
   ·obtain ⟨_,rfl,rfl⟩:=hvs
    exact ar ok (lat_c (D:=0) (hl.mono fun p hp=>.tail _ hp) hy) (fun r fp' h=>h.1) (fun p hp=>by rw [List.mem_singleton.mp hp];exact .head _) rfl (by omega (splitNatSub:=true))
   ·obtain ⟨_,_,rfl,⟨t',rfl⟩,rfl⟩:=hvs
    exact ar ok (icmp_c hok he (ord.mono fun p hp=>.tail _ hp)) (fun r fp' h=>h) (fun O h=>nomatch h) rfl (by omega (splitNatSub:=true))
   ·have hd2:=hd.mp (of_decide_eq_true h)
    refine aD (cJ (Px.mono decl_name% isI) ab) (fun v hv=>?_) rfl rfl rfl
    exact ae (ae (kn (hi2 - (mid + 1)).toNat _ _ (by omega (splitNatSub:=true)) ⟨rfl,es,et,mid + 1,hi2,⟨v,rfl,hv⟩,eh,by omega (splitNatSub:=true),by omega (splitNatSub:=true),by omega (splitNatSub:=true),by omega (splitNatSub:=true),by omega (splitNatSub:=true)⟩))
   ·have hd2:=mt hd.mpr (of_decide_eq_false h)
    refine aD decl_name% (fun v hv=>?_) rfl rfl rfl
    exact ae (ae (kn (mid - lo).toNat _ _ (by omega (splitNatSub:=true)) ⟨rfl,es,et,lo,mid,el,⟨v,rfl,tm,hv⟩,by omega (splitNatSub:=true),by omega (splitNatSub:=true),by omega (splitNatSub:=true),by omega (splitNatSub:=true),by omega (splitNatSub:=true)⟩))
  ·have hlt:=of_decide_eq_false hc
   have e0:lo = (i:Int):=by omega (splitNatSub:=true)
   exact ⟨rfl,es,e0 ▸ el⟩
 ·obtain ⟨rfl,es,el⟩:=h
  exact aj (lx_place ok hl.inst off es (ac el rfl rfl rfl) (fun t=>ae (kφ .next _ [_] (.mk t))) rfl rfl rfl rfl)
end
end
section
open PySem PySem.W PyProof.Rows
set_option tactic.hygienic false
structure MP where
 h1:Int
 h2:Int
 h3:Int
 h4:Int
 h5:Int
 t1:Tok
 t2:Tok
 t3:Tok
 t4:Tok
 t5:Tok
noncomputable abbrev MD (q:MP) (ch tp o:Addr) (cur:Int) (tc:Tok) (going:Int) (tg:Tok):Obj :=
 dictOf [⟨q.h1,.str "children" q.t1,.ref ch⟩,⟨q.h2,.str "tops" q.t2,.ref tp⟩,⟨q.h3,.str "order" q.t3,.ref o⟩,⟨q.h4,.str "current" q.t4,.int cur tc⟩,⟨q.h5,.str "going" q.t5,.int going tg⟩] 5
noncomputable def TopV (k:Option IK) (v:Value):Prop:=match k with
 | none=>v = .none
 | some e=>∃ t,v = .bytes (ikb e) t
noncomputable def bk (tops:Array Value) (keys:List (Option IK)):Prop:=tops.size = keys.length∧∀ (i:Nat) k,keys[i]? = some k→∃ v,tops[i]? = some v∧TopV k v
noncomputable def bl (keys:List (Option IK)) (b:Int):Option IK:=(keys[b.toNat]?).join
noncomputable def aA (keys:List (Option IK)):Nat→Int
 | 0=>-1
 | n + 1=>match bl keys n with
  | none=>aA keys n
  | some e=>if aA keys n < 0 then n else match bl keys (aA keys n) with
   | none=>aA keys n
   | some f=>if aV e f < 0 then n else aA keys n
noncomputable def aB (keys:List (Option IK)):Nat→Int
 | 0=>-1
 | c + 1=>match bl keys ((keys.length - (c + 1):Nat):Int) with
  | none=>aB keys c
  | some e=>if aB keys c < 0 then ((keys.length - (c + 1):Nat):Int) else match bl keys (aB keys c) with
   | none=>aB keys c
   | some f=>if 0 < aV e f then ((keys.length - (c + 1):Nat):Int) else aB keys c
theorem keyAt_nat (keys:List (Option IK)) (n:Nat):bl keys (n:Int) = (keys[n]?).join:=rfl
theorem eQ (keys:List (Option IK)):∀ n,aA keys n < 0 ∨ (0≤aA keys n∧aA keys n < n∧∃ f,bl keys (aA keys n) = some f)
 | 0=>.inl (by unfold aA;decide)
 | n + 1=>by
  have ih:=eQ keys n
  have up:aA keys n < 0 ∨ (0≤aA keys n∧aA keys n < ((n + 1:Nat):Int)∧∃ f,bl keys (aA keys n) = some f):=by
   rcases ih with h | ⟨a,b,c⟩
   ·exact .inl h
   ·exact .inr ⟨a,by omega,c⟩
  unfold aA
  cases he:bl keys n with
  | none=>exact up
  | some e =>
   have here:(n:Int) < 0 ∨ (0≤(n:Int)∧(n:Int) < ((n + 1:Nat):Int)∧∃ f,bl keys (n:Int) = some f):=.inr ⟨by omega,by omega,e,he⟩
   simp only
   split
   ·exact here
   ·split
    ·exact up
    ·split
     ·exact here
     ·exact up
theorem keyAt_top {tops:Array Value} {keys:List (Option IK)} (ht:bk tops keys) {b:Int} {f:IK} (h:bl keys b = some f):∃ t,tops[b.toNat]? = some (.bytes (ikb f) t):=by
 unfold bl at h
 cases hk:keys[b.toNat]? with
 | none=>rw [hk] at h;cases h
 | some k =>
  rw [hk] at h
  have:k = some f:=h
  obtain ⟨v,h1,h2⟩:=ht.2 _ _ hk
  rw [this] at h2
  obtain ⟨t,rfl⟩:=h2
  exact ⟨t,h1⟩
theorem keyAt_mem {keys:List (Option IK)} {b:Int} {f:IK} (h:bl keys b = some f):some f∈keys:=by
 unfold bl at h
 cases hk:keys[b.toNat]? with
 | none=>rw [hk] at h;cases h
 | some k =>
  rw [hk] at h
  have:k = some f:=h
  rw [← this]
  exact List.mem_of_getElem? hk
theorem keyAt_lt {keys:List (Option IK)} {i:Nat} {e:IK} (h:bl keys (i:Int) = some e):i < keys.length:=by
 rw [keyAt_nat] at h
 cases hk:keys[i]? with
 | none=>rw [hk] at h;cases h
 | some k=>exact (List.getElem?_eq_some_iff.mp hk).1
theorem greatOf_spec (keys:List (Option IK)):∀ c,aB keys c < 0 ∨ (0≤aB keys c∧aB keys c < keys.length∧∃ f,bl keys (aB keys c) = some f)
 | 0=>.inl (by unfold aB;decide)
 | c + 1=>by
  have ih:=greatOf_spec keys c
  unfold aB
  cases he:bl keys ((keys.length - (c + 1):Nat):Int) with
  | none=>exact ih
  | some e =>
   have hl:=keyAt_lt he
   have here:((keys.length - (c + 1):Nat):Int) < 0 ∨ (0≤((keys.length - (c + 1):Nat):Int)∧((keys.length - (c + 1):Nat):Int) < keys.length∧∃ f,bl keys ((keys.length - (c + 1):Nat):Int) = some f):=.inr ⟨by omega,by omega,e,he⟩
   simp only
   split
   ·exact here
   ·split
    ·exact ih
    ·split
     ·exact here
     ·exact ih
structure ci (f:Nat→KS→Option Nat) (ks ks':List KS):Prop where
 len:ks'.length = ks.length
 at_:∀ (i:Nat) k,ks[i]? = some k→∃ fp',ks'[i]? = some { k with fp:=fp',st:=f i k }∧ak fp' k.fp
structure aT (f:Nat→KS→Option Nat) (ks ks':List KS) (tops0 tops:Array Value) (n:Nat):Prop where
 len:ks'.length = ks.length
 sz:tops.size = ks.length
 done:∀ (i:Nat) k,i < n→ks[i]? = some k→∃ fp',ks'[i]? = some { k with fp:=fp',st:=f i k }∧ak fp' k.fp∧∃ v,tops[i]? = some v∧TopV (KS.key { k with fp:=fp',st:=f i k }) v
 todo:∀ (i:Nat),n≤i→ks'[i]? = ks[i]?
 todoT:∀ (i:Nat),n≤i→tops[i]? = tops0[i]?
theorem aT.step {f:Nat→KS→Option Nat} {ks ks':List KS} {tops0 tops:Array Value} {n:Nat} {k:KS} {fp':Led} {v:Value} (P:aT f ks ks' tops0 tops n) (hk:ks[n]? = some k) (ha:ak fp' k.fp) (hv:TopV (KS.key { k with fp:=fp',st:=f n k }) v) :
  aT f ks (ks'.set n { k with fp:=fp',st:=f n k }) tops0 (tops.setIfInBounds n v) (n + 1):=by
 have hn:=(List.getElem?_eq_some_iff.mp hk).1
 have hn':n < ks'.length:=by rw [P.len];exact hn
 refine ⟨by rw [List.length_set];exact P.len,by rw [Array.size_setIfInBounds];exact P.sz,fun i k2 hi h2=>?_,fun i hi=>?_,fun i hi=>?_⟩
 ·by_cases e:n = i
  ·subst e
   rw [hk] at h2;cases h2
   refine ⟨fp',by rw [List.getElem?_set_self hn'],ha,v,?_,hv⟩
   rw [Array.getElem?_setIfInBounds_self_of_lt (by rw [P.sz];exact hn)]
  ·obtain ⟨fp2,a,b,v2,c,d⟩:=P.done i k2 (by omega) h2
   exact ⟨fp2,by rw [List.getElem?_set_ne e];exact a,b,v2,by rw [Array.getElem?_setIfInBounds_ne e];exact c,d⟩
 ·rw [List.getElem?_set_ne (by omega)]
  exact P.todo i (by omega)
 ·rw [Array.getElem?_setIfInBounds_ne (by omega)]
  exact P.todoT i (by omega)
theorem aT.skip {f:Nat→KS→Option Nat} {ks ks':List KS} {tops0 tops:Array Value} {n:Nat} {k:KS} {v:Value} (P:aT f ks ks' tops0 tops n) (hk:ks[n]? = some k) (hf:f n k = k.st) (ht:tops0[n]? = some v) (hv:TopV k.key v) :
  aT f ks ks' tops0 tops (n + 1):=by
 refine ⟨P.len,P.sz,fun i k2 hi h2=>?_,fun i hi=>P.todo i (by omega),fun i hi=>P.todoT i (by omega)⟩
 by_cases e:n = i
 ·subst e
  rw [hk] at h2;cases h2
  refine ⟨k.fp,?_,rfl,v,?_,?_⟩
  ·rw [P.todo n (Nat.le_refl _),hk,hf]
  ·rw [P.todoT n (Nat.le_refl _),ht]
  ·rw [hf];exact hv
 ·exact P.done i k2 (by omega) h2
theorem aT.all {f:Nat→KS→Option Nat} {ks ks':List KS} {tops0 tops:Array Value} (P:aT f ks ks' tops0 tops ks.length):ci f ks ks'∧bk tops (ks'.map KS.key):=by
 refine ⟨⟨P.len,fun i k hk=>?_⟩,by rw [List.length_map,P.len,P.sz],fun i k hk=>?_⟩
 ·obtain ⟨fp',a,b,_⟩:=P.done i k (List.getElem?_eq_some_iff.mp hk).1 hk
  exact ⟨fp',a,b⟩
 ·rw [List.getElem?_map] at hk
  obtain ⟨k',hk',rfl⟩:=Option.map_eq_some_iff.mp hk
  have hi:i < ks.length:=by rw [← P.len];exact (List.getElem?_eq_some_iff.mp hk').1
  obtain ⟨fp',a,b,v,c,d⟩:=P.done i _ hi (List.getElem?_eq_getElem hi)
  rw [hk'] at a
  cases a
  exact ⟨v,c,d⟩
theorem aT.zero {f:Nat→KS→Option Nat} {ks:List KS} {tops:Array Value} (h:tops.size = ks.length):aT f ks ks tops tops 0 :=
 ⟨rfl,h,fun O O h=>absurd h (Nat.not_lt_zero _),fun O O=>rfl,fun O O=>rfl⟩
theorem off_cons {x:Addr × Obj} {fp T:Led} (h1:∀ p∈fp,x.1≠p.1) (h2:Off fp T):Off fp (x::T):=fun p hp q hq=>by
 rcases List.mem_cons.mp hq with rfl | h
 ·exact h1 p hp
 ·exact h2 p hp q h
theorem adr_set {ks:List KS} {i:Nat} {k k':KS} (hk:ks[i]? = some k) (ha:ak k'.fp k.fp):∀ p∈aC (ks.set i k'),∃ p'∈aC ks,p'.1 = p.1:=fun p hp=>by
 rcases mem_kfps_set hp with h | h
 ·have:p.1∈k.fp.map (·.1):=ha ▸ List.mem_map_of_mem h
  obtain ⟨p',hp',e⟩:=List.mem_map.mp this
  exact ⟨p',bS (List.mem_of_getElem? hk) p' hp',e⟩
 ·exact ⟨p,mem_erase_of h,rfl⟩
structure LoopIn (C:aN) (rest:Led) (f:Nat→KS→Option Nat) (ks ks₁:List KS) (tops0 tops₁:Array Value) (dx tp:Addr) (n:Nat):Prop where
 kids:dW C rest ks₁
 part:aT f ks ks₁ tops0 tops₁ n
 off:∀ p∈aC ks₁++rest,p.1≠dx∧p.1≠tp
section
variable {w:World} {dp un:Nat} {gd:Option (List Code)} {cn:Str} {cs:Scope} {a:Addr} {ccd:Value} {cl:List (Str × Addr)} {outer:List Env} {A₀:Around} {base h₀:Heap} {L:Addr} {m mg mb:MM} {mean:ExcName→Option Value} {s:Shared} {rest:Led}
 {Q E:VS} {D:Nat} {C:aN} {x dx ch tp o:Addr} {q:MP} {cur going:Int} {tc tg:Tok} {tops:Array Value} {nt:Nat} {ks:List KS} {kc:KS}
end
noncomputable def bi (R:List Row) (n:Nat):Option Nat:=if n < R.length then some n else none
noncomputable def ltLen (R:List Row) (e:IK):Nat:=(R.takeWhile fun x=>decide (aV x.1 e < 0)).length
noncomputable def eB (R:List Row) (e:IK) (i:Nat):Nat:=((R.drop i).takeWhile fun x=>decide (aV x.1 e = 0)).length
theorem cV (R:List Row) (e:IK):bM R e = bi R (ltLen R e):=rfl
noncomputable def cH (R:List Row) (e:IK):Option Nat:=bi R (ltLen R e + eB R e (ltLen R e))
theorem tw_at {p:Row→Bool}:∀ {l:List Row} {j:Nat} {x:Row},l[j]? = some x→j≤(l.takeWhile p).length→(j < (l.takeWhile p).length ↔ p x = true)
 | [],_,_,h,_=>by simp at h
 | a::l,0,x,h,_=>by
  simp only [List.getElem?_cons_zero,Option.some.injEq] at h
  subst h
  cases ha:p a <;> simp [List.takeWhile_cons,ha]
 | a::l,j + 1,x,h,hj=>by
  simp only [List.getElem?_cons_succ] at h
  cases ha:p a with
  | false=>simp [List.takeWhile_cons,ha] at hj
  | true =>
   simp only [List.takeWhile_cons,ha,if_true,List.length_cons] at hj ⊢
   have:=tw_at (p:=p) h (by omega)
   rw [← this];omega
theorem tw_le (p:Row→Bool):∀ l:List Row,(l.takeWhile p).length≤l.length
 | []=>Nat.le_refl _
 | a::l=>by
  cases ha:p a with
  | false=>simp [List.takeWhile_cons,ha]
  | true=>simp only [List.takeWhile_cons,ha,if_true,List.length_cons];have:=tw_le p l;omega
theorem eqLen_at {R:List Row} {e:IK} {i j:Nat} {x:Row} (h:R[j]? = some x) (hij:i≤j) (hj:j≤i + eB R e i):(j < i + eB R e i ↔ aV x.1 e = 0):=by
 have h2:(R.drop i)[j - i]? = some x:=by rw [List.getElem?_drop,show i + (j - i) = j by omega (splitNatSub:=true)];exact h
 have:=tw_at (p:=fun x=>decide (aV x.1 e = 0)) h2 (by unfold eB at hj;omega (splitNatSub:=true))
 simp only [decide_eq_true_eq] at this
 rw [← this];unfold eB;omega (splitNatSub:=true)
theorem ltLen_le (R:List Row) (e:IK):ltLen R e≤R.length:=tw_le _ _
theorem eqLen_le (R:List Row) (e:IK) (i:Nat) (hi:i≤R.length):i + eB R e i≤R.length:=by
 have:=tw_le (fun x=>decide (aV x.1 e = 0)) (R.drop i)
 rw [List.length_drop] at this
 unfold eB;omega
theorem cR {R:List Row} {n:Nat} (h:n < R.length):bi R n = some n:=if_pos h
theorem dI {R:List Row} {n:Nat} (h:¬ n < R.length):bi R n = none:=if_neg h
theorem dE (R:List Row) (i:Nat):dn R i = bi R (i + 1):=rfl
section
variable {w:World} {dp un D:Nat} {gd:Option (List Code)} {cn:Str} {cs:Scope} {a f c:Addr} {ccd:Value} {cl:List (Str × Addr)} {outer:List Env} {A₀ A:Around} {base h₀:Heap} {L:Addr} {m mg mb:MM} {mean:ExcName→Option Value} {s:Shared} {news fp rest:Led}
 {E Q:VS} {C:aN} {kd:Bool} {R:List Row} {i:Nat}
end
section
variable {w:World} {dp un:Nat} {gd:Option (List Code)} {cn:Str} {cs:Scope} {a:Addr} {ccd:Value} {cl:List (Str × Addr)} {outer:List Env} {A₀:Around} {base h₀:Heap} {L:Addr} {m mg mb:MM} {mean:ExcName→Option Value} {s:Shared} {rest:Led}
 {Q E:VS} {D:Nat} {C:aN} {x dx ch tp o:Addr} {q:MP} {cur going:Int} {tc tg:Tok} {tops:Array Value} {nt:Nat} {ks:List KS} {kc:KS}
end
end
section
open PySem PySem.W PyProof.Rows
set_option maxHeartbeats 8000000
set_option maxRecDepth 100000
set_option tactic.hygienic false
noncomputable def FixC (C:aN) (r0:Led):aN:=fun fp rest c kd R st=>C fp r0 c kd R st∧∀ p∈r0,p∈rest
theorem al.fix {w:World} {D:Nat} {C:aN} (S:al w D C) (r0:Led):al w D (FixC C r0) where
 mono:=fun h hs=>⟨h.1,fun p hp=>hs p (h.2 p hp)⟩
 obj:=fun h=>by obtain ⟨dx,es,n,a,b,c⟩:=S.obj h.1;exact ⟨dx,es,n,h.2 _ a,b,c⟩
 ok:=fun h=>S.ok h.1
 size:=fun h=>S.size h.1
 valid:=fun h hs=>S.valid h.1 fun p hp=>hs p (h.2 p hp)
 key:=fun h hx hs=>S.key h.1 hx fun p hp=>hs p (h.2 p hp)
 value:=fun h hx hs=>S.value h.1 hx fun p hp=>hs p (h.2 p hp)
 first:=fun h hs ho=>(S.first h.1 (fun p hp=>hs p (h.2 p hp)) ho).post fun r fp' g=>⟨g.1,g.2.1,g.2.2,h.2⟩
 last:=fun h hs ho=>(S.last h.1 (fun p hp=>hs p (h.2 p hp)) ho).post fun r fp' g=>⟨g.1,g.2.1,g.2.2,h.2⟩
 seek:=fun h hs ho he=>(S.seek h.1 (fun p hp=>hs p (h.2 p hp)) ho he).post fun r fp' g=>⟨g.1,g.2.1,g.2.2,h.2⟩
 step:=fun h hs ho=>(S.step h.1 (fun p hp=>hs p (h.2 p hp)) ho).post fun r fp' g=>⟨g.1,g.2.1,g.2.2,h.2⟩
 back:=fun h hs ho=>(S.back h.1 (fun p hp=>hs p (h.2 p hp)) ho).post fun r fp' g=>⟨g.1,g.2.1,g.2.2,h.2⟩
section
variable {w:World} {D:Nat} {T:Led} {x dx ch tp o:Addr} {q:MP} {cur going:Int} {tc tg:Tok} {tops:Array Value} {nt:Nat}
theorem lx_cur {F:FnC} {b:Bx} {m:MM} {φ:FP} {g:Int} {xp pos pos':Pos} {value:Expr} (ok:Okx w D b) (m1:(x,instObj 506 dx)∈T) (off:∀ p∈T,p.1≠dx) (hv:m "self" = some (.ref x))
  (h:Px w F b (eval value (evx F b)) (IsI g) m ((dx,MD q ch tp o cur tc going tg)::T)) (hq:∀ t:Tok,φ .next m ((dx,MD q ch tp o g t going tg)::T)) (hk:F.cs.kind = .function) (hx:(evx F b).kindOf "self" = some .local) (hs:swapsWith value (some (.Attribute (.Name "self" xp) "current" pos')) pos.line (evx F b) = pure false) :
  Lx w F b (exec (.Assign [.Attribute (.Name "self" xp) "current" pos'] value pos) (evx F b)) φ m ((dx,MD q ch tp o cur tc going tg)::T) :=
 dQ (C:=506) (dx:=dx) (r:=x) (es':=fun v=>[⟨q.h1,.str "children" q.t1,.ref ch⟩,⟨q.h2,.str "tops" q.t2,.ref tp⟩,⟨q.h3,.str "order" q.t3,.ref o⟩,⟨q.h4,.str "current" q.t4,v⟩,⟨q.h5,.str "going" q.t5,.int going tg⟩]) (n':=5) (led':=fun v=>(dx,dictOf [⟨q.h1,.str "children" q.t1,.ref ch⟩,⟨q.h2,.str "tops" q.t2,.ref tp⟩,⟨q.h3,.str "order" q.t3,.ref o⟩,⟨q.h4,.str "current" q.t4,v⟩,⟨q.h5,.str "going" q.t5,.int going tg⟩] 5)::T) ok h (di hv hk hx rfl) (.tail _ m1) (.head _) nofun nofun nofun nofun
  rfl (fun O O=>rfl) (fun O=>.head off) (fun O=>by show 5≤1000;decide) hs (fun v hv=>by obtain ⟨t,rfl⟩:=hv;exact hq t)
theorem lx_mgoing {F:FnC} {b:Bx} {m:MM} {φ:FP} {g:Int} {xp pos pos':Pos} {value:Expr} (ok:Okx w D b) (m1:(x,instObj 506 dx)∈T) (off:∀ p∈T,p.1≠dx) (hv:m "self" = some (.ref x))
  (h:Px w F b (eval value (evx F b)) (IsI g) m ((dx,MD q ch tp o cur tc going tg)::T)) (hq:∀ t:Tok,φ .next m ((dx,MD q ch tp o cur tc g t)::T)) (hk:F.cs.kind = .function) (hx:(evx F b).kindOf "self" = some .local) (hs:swapsWith value (some (.Attribute (.Name "self" xp) "going" pos')) pos.line (evx F b) = pure false) :
  Lx w F b (exec (.Assign [.Attribute (.Name "self" xp) "going" pos'] value pos) (evx F b)) φ m ((dx,MD q ch tp o cur tc going tg)::T) :=
 dQ (C:=506) (dx:=dx) (r:=x) (es':=fun v=>[⟨q.h1,.str "children" q.t1,.ref ch⟩,⟨q.h2,.str "tops" q.t2,.ref tp⟩,⟨q.h3,.str "order" q.t3,.ref o⟩,⟨q.h4,.str "current" q.t4,.int cur tc⟩,⟨q.h5,.str "going" q.t5,v⟩]) (n':=5) (led':=fun v=>(dx,dictOf [⟨q.h1,.str "children" q.t1,.ref ch⟩,⟨q.h2,.str "tops" q.t2,.ref tp⟩,⟨q.h3,.str "order" q.t3,.ref o⟩,⟨q.h4,.str "current" q.t4,.int cur tc⟩,⟨q.h5,.str "going" q.t5,v⟩] 5)::T) ok h (di hv hk hx rfl) (.tail _ m1) (.head _) nofun nofun nofun nofun
  rfl (fun O O=>rfl) (fun O=>.head off) (fun O=>by show 5≤1000;decide) hs (fun v hv=>by obtain ⟨t,rfl⟩:=hv;exact hq t)
theorem TopV.isO {k:Option IK} {v:Value} (h:TopV k v):IsO (k.map ikb) v:=by
 cases k with
 | none=>exact h
 | some e=>exact h
inductive MdP (q:MP) (ch tp o dx:Addr) (g going:Int) (tg:Tok):Value→Led→Prop
 | mk (t:Tok):MdP q ch tp o dx g going tg .none [(dx,MD q ch tp o g t going tg)]
structure LeJ (x:Addr) (led:Led) (keys:List (Option IK)) (f:Nat→Int) (i:Nat) (m:MM) (led':Led):Prop where
 hl:led' = led
 e1:m "self" = some (.ref x)
 e2:∃ v,m "best" = some v∧IsI (f i) v
theorem least_c {keys:List (Option IK)} (m1:(x,instObj 506 dx)∈T) (mt:(tp,listOf tops nt)∈T) (ord:cA T o) (ht:bk tops keys) (hok:∀ e,some e∈keys→e.Ok) (hn:keys.length≤1000) (off:∀ p∈T,p.1≠dx) :
  am w (D + 5 + 1) 412 [.ref x] [(dx,MD q ch tp o cur tc going tg)] T (MdP q ch tp o dx (aA keys keys.length) going tg):=by
 revert w D T x dx ch tp o q cur going tc tg tops nt keys
 refine no_implicit_lambda% (e16 ?n fun T0=>(?_:bp T0) _ _ _ _ _ _ _ _ _ _ _ _ _ _ _ _)
 case n=>fail "n"
 intro w D T x dx ch tp o q cur going tc tg tops nt keys
 intros
 clear T0
 obtain ⟨duo,uo,dd,hh,tt,nn,o1,o2,o3,o4⟩:=id ord
 have hsz:=ht.1
 refine' ai (binds:=[("self",.ref x)]) ?ho ?hcd ?hb ?hl ?c1 ?c2 ?c3 ?c4 ?_
 fail "e"
 intro bb ok φ kφ
 refine aD (cQ ab) (fun v hv=>?_) rfl rfl rfl
 refine sx_forUp (n:=keys.length) ok (ah ok nofun nofun (by decide) rfl rfl rfl) (px_I (dm ok (ag ok rfl (.tail _ m1) (.head _) rfl rfl (by fail "p") nofun (by fail "q") nofun rfl rfl rfl rfl) (ah ok nofun nofun (by decide) rfl rfl rfl) (.tail _ mt) (by omega) rfl rfl) (by rw [hsz])) (by omega) (LeJ x ((dx,MD q ch tp o cur tc going tg)::T) keys (aA keys)) ⟨rfl,rfl,v,rfl,hv⟩ ?_ ?_ rfl rfl rfl rfl (fun O=>rfl)
 ·intro i m₁ led₁ I oI t hi hJ hne Φ kn kr
  obtain ⟨rfl,e1,e2⟩:=hJ
  obtain ⟨k0,hk0⟩:∃ k0,keys[i]? = some k0:=⟨_,List.getElem?_eq_getElem hi⟩
  obtain ⟨v,hv,hv2⟩:=ht.2 _ _ hk0
  have hat:bl keys (i:Int) = k0:=by rw [keyAt_nat,hk0];rfl
  refine aD (aK (v:=v) (k:=(i:Int)) (ag ok e1 (.tail _ (.tail _ m1)) (.tail _ (.head _)) rfl rfl (by fail "p") nofun (by fail "q") nofun rfl rfl rfl rfl) (Px.mono decl_name% isI) (.tail _ (.tail _ mt)) (by omega) (by omega) hv (fun O=>nofun)) (fun v' hv'=>?_) rfl rfl rfl
  subst hv'
  refine aH (pc_is (Px.mono decl_name% fun a ha=>by rw [ha];exact hv2.isO) bQ rfl) (fun hc=>?_) fun hc=>?_
  ·have hk:k0 = none:=by cases k0 with | none=>rfl | some e=>cases hc
   have hL:aA keys (i + 1) = aA keys i:=by rw [aA,hat,hk]
   exact aj (lx_continue (kn .cont _ _ _ (.inr rfl) ⟨rfl,e1,hL ▸ e2⟩ (fun p hp=>.tail _ hp) (.head _) hne))
  ·obtain ⟨e,rfl⟩:∃ e,k0 = some e:=by cases k0 with | none=>cases hc | some e=>exact ⟨e,rfl⟩
   obtain ⟨te,rfl⟩:=hv2
   have heo:e.Ok:=hok e (List.mem_of_getElem? hk0)
   have fin:∀ g,g = aA keys (i + 1)→∀ m',m' "self" = some (.ref x)→(∃ v,m' "best" = some v∧IsI g v)→Φ .next m' ((I,oI)::(dx,MD q ch tp o cur tc going tg)::T):=fun g hg m' e1 e2 =>
    kn .next _ _ _ (.inl rfl) ⟨rfl,e1,hg ▸ e2⟩ (fun p hp=>.tail _ hp) (.head _) hne
   rcases eQ keys i with hb | ⟨b0,b1,f,hf⟩
   ·have hL:(i:Int) = aA keys (i + 1):=by rw [aA,hat];simp only;rw [if_pos hb]
    refine aH (pc_or (c2:=true) (bE (ac e2 rfl rfl rfl) ab rfl) (fun h=>absurd hb (of_decide_eq_false h))) (fun O=>?_) (fun h=>by rw [decide_eq_true hb] at h;cases h)
    refine aD decl_name% (fun v' hv'=>?_) rfl rfl rfl
    exact ae (ae (fin _ hL _ e1 ⟨v',rfl,t,hv'⟩))
   ·obtain ⟨tf,hft⟩:=keyAt_top ht hf
    have hfo:f.Ok:=hok f (keyAt_mem hf)
    have hb:¬ aA keys i < 0:=by omega
    refine aH (cZ (bE (ac e2 rfl rfl rfl) ab rfl) (fun O=>bE (i:=aV e f) (pm1 ok (ag ok e1 (.tail _ (.tail _ m1)) (.tail _ (.head _)) rfl rfl (by fail "p") nofun (by fail "q") nofun rfl rfl rfl rfl) (aw ok (.tail _ (.tail _ o1)) (.tail _ (.tail _ o2)) rfl nofun nofun nofun) (aU decl_name% (aK (k:=aA keys i) (ag ok e1 (.tail _ (.tail _ m1)) (.tail _ (.head _)) rfl rfl (by fail "p") nofun (by fail "q") nofun rfl rfl rfl rfl) (ac e2 rfl rfl rfl) (.tail _ (.tail _ mt)) b0 (by omega) hft (fun O=>nofun)) rfl rfl) (ar2 ?_) nofun rfl rfl rfl) ab rfl)) (fun h=>?_) fun h=>?_
    ·exact ar ok (icmp_c heo hfo (ord.mono fun p hp=>.tail _ (.tail _ hp))) (fun r fp' h=>h) (fun O h=>nomatch h) rfl (by omega)
    ·have hc:aV e f < 0:=by simpa [hb] using h
     have hL:(i:Int) = aA keys (i + 1):=by rw [aA,hat];simp only;rw [if_neg hb,hf];simp only;rw [if_pos hc]
     refine aD decl_name% (fun v' hv'=>?_) rfl rfl rfl
     exact ae (ae (fin _ hL _ e1 ⟨v',rfl,t,hv'⟩))
    ·have hc:¬ aV e f < 0:=by simpa [hb] using h
     have hL:aA keys i = aA keys (i + 1):=by rw [aA,hat];simp only;rw [if_neg hb,hf];simp only;rw [if_neg hc]
     exact ae (fin _ hL _ e1 e2)
 ·intro m' led' h
  obtain ⟨rfl,e1,e2⟩:=h
  exact aj (lx_cur ok m1 off e1 (ac e2 rfl rfl rfl) (fun t=>ae (kφ .next _ [_] (.mk t))) rfl rfl rfl)
end
end
section
open PySem PySem.W PyProof.Rows
set_option tactic.hygienic false
section
variable {w:World} {dp un D:Nat} {gd:Option (List Code)} {cn:Str} {cs:Scope} {a f:Addr} {ccd:Value} {cl:List (Str × Addr)} {outer:List Env} {A₀:Around} {base h₀:Heap} {L:Addr} {m mg mb:MM} {mean:ExcName→Option Value} {s:Shared} {news ext rest:Led}
 {Q E:VS} {args:List Value} {C:aN} {ks:List KS} {i:Nat} {k:KS} {st':Option Nat}
theorem kid_call2 (K:dW C rest ks) (hk:ks[i]? = some k)
  (H:∀ {E0:Led},(∀ p∈rest,p∈E0)→(∀ p∈ext,p∈E0)→Off k.fp E0→am w D f args k.fp E0 fun r fp'=>r = .none∧ak fp' k.fp∧C fp' rest k.c k.kd k.R st')
  (B:Below A₀ base outer h₀) (F:Fr h₀ L s.heap m) (X:(Mine.hd.heap_39 w.params).In h₀) (N:News h₀ L s.heap news) (T:Top VW (looseW VW []) mean mg mb h₀) (hkd:cs.kind = .function) (hd:dp + D < recursionLimit) (hu:un + 8 * D < cLine)
  (hs:∀ p∈ext++(aC ks++rest),p∈news) (hext:Off k.fp ext)
  (kk:∀ fp' h' tk',Fr h₀ L h' m→News h₀ L h' (ext++(aC (ks.set i { k with fp:=fp',st:=st' })++rest))→ak fp' k.fp→dW C rest (ks.set i { k with fp:=fp',st:=st' })→Q .none { s with heap:=h',toks:=tk' }) :
  wpAny (model Challenge.rw_no0415_02.row.prog w) (ktrTop dp un gd cn cs L a ccd cl outer) (call (.ref f) args) Q E s:=by
 have hmem:=List.mem_of_getElem? hk
 refine (H (E0:=ext++(aC (ks.eraseIdx i)++rest)) (fun p hp=>aR (aR hp)) (fun p hp=>aL hp) ?_).use B F X N T hkd hd hu ?_ ?_
 ·intro p hp q hq
  rcases List.mem_append.mp hq with h | h
  ·exact hext p hp q h
  ·rcases List.mem_append.mp h with h | h
   ·exact off_erase K.apart hk p hp q h
   ·exact K.off k hmem p hp q h
 ·intro p hp
  rcases List.mem_append.mp hp with h | h
  ·exact hs p (aR (aL (bS hmem p h)))
  ·rcases List.mem_append.mp h with h | h
   ·exact hs p (aL h)
   ·rcases List.mem_append.mp h with h | h
    ·exact hs p (aR (aL (mem_erase_of h)))
    ·exact hs p (aR (aR h))
 ·intro r fp' h' tk' F' N' hx1
  obtain ⟨rfl,ha,hC⟩:=hx1
  refine kk fp' h' tk' F' (bJ N' fun p hp=>?_) ha (K.set hk ha hC)
  rcases List.mem_append.mp hp with h | h
  ·exact aR (aL h)
  ·rcases List.mem_append.mp h with h | h
   ·rcases mem_kfps_set h with h | h
    ·exact aL h
    ·exact aR (aR (aL h))
   ·exact aR (aR (aR h))
end
noncomputable def backOf (R:List Row) (st:Option Nat):Option Nat:=match st with | some j=>prevAt j | none=>eS R
section
variable {w:World} {dp un:Nat} {gd:Option (List Code)} {cn:Str} {cs:Scope} {a:Addr} {ccd:Value} {cl:List (Str × Addr)} {outer:List Env} {A₀:Around} {base h₀:Heap} {L:Addr} {m mg mb:MM} {mean:ExcName→Option Value} {s:Shared} {rest:Led}
 {Q E:VS} {D:Nat} {C:aN} {x dx ch tp o:Addr} {q:MP} {cur going:Int} {tc tg:Tok} {tops:Array Value} {nt:Nat} {ks:List KS} {kc:KS}
end
end
section
open PySem PySem.W PyProof.Rows
set_option maxHeartbeats 8000000
set_option maxRecDepth 100000
set_option tactic.hygienic false
section
variable {w:World} {D D':Nat} {F:FnC} {b:Bx} {m:MM} {led:Led} {pos:Pos} {φ:FP} {x:Str}
theorem sx_forDown {px:Pos} {body rest:List Stmt} {g e e2 e3:Expr} {cp:Pos} {n:Nat} (ok:Okx w D b) (hr:Px w F b (eval g (evx F b)) (fun a=>a = .type "range") m led) (he:Px w F b (eval e (evx F b)) (IsI ((n:Int) - 1)) m led) (he2:Px w F b (eval e2 (evx F b)) (IsI (-1)) m led) (he3:Px w F b (eval e3 (evx F b)) (IsI (-1)) m led) (hn:n≤1000000)
  (J:Nat→MM→Led→Prop) (hj:J n m led)
  (turn:∀ i m₁ led₁ I o t,i < n→J (i + 1) m₁ led₁→(∀ p∈led₁,p.1≠I)→∀ Φ:FP,
   (∀ fl m' led' led2,fl = .next ∨ fl = .cont→J i m' led'→(∀ p∈led',p∈led2)→(I,o)∈led2→(∀ p∈led',p.1≠I)→Φ fl m' led2)→(∀ v m' led',φ (.ret v) m' led'→Φ (.ret v) m' led') →
   Lx w F b (execs body (evx F b)) Φ (ms m₁ x (.int (i:Int) t)) ((I,o)::led₁))
  (hX:∀ m' led',J 0 m' led'→Lx w F b (execs rest (evx F b)) φ m' led') (hk:F.cs.kind = .function) (hx:(evx F b).kindOf x = some .local)
  (ha:starEach [e,e2,e3] (evx F b) = (false,eval e (evx F b))::starEach [e2,e3] (evx F b)) (ha2:starEach [e2,e3] (evx F b) = (false,eval e2 (evx F b))::starEach [e3] (evx F b)) (ha3:starEach [e3] (evx F b) = (false,eval e3 (evx F b))::starEach [] (evx F b))
  (hc:eval (.Call g [e,e2,e3] [] cp) (evx F b) = (do callWith cp (← eval g (evx F b)) [] (backTo cp (starEach [e,e2,e3] (evx F b))) (backToKw cp (keywordEach [] (evx F b)))))
  (hpl:(backTo cp (starEach [e2,e3] (evx F b))).any (·.1) = false)
  (hf:∀ x,foldedSetIterable (.Call g [e,e2,e3] [] cp) (evx F b) x = pure x) :
  Lx w F b (execs (.For (.Name x px) (.Call g [e,e2,e3] [] cp) body [] pos::rest) (evx F b)) φ m led:=aj fun s Q E f N q=>by
 refine wpAny_mono (E:=fun O O=>False) (For_invV b.g (Q:=Q) hx (by show (F.cs.kind == .class || (F.cs.kind == .module && b.L != mainGlobals)) = false;rw [hk];rfl) ?_ hf ?_) (fun O O x=>x) fun O O x=>x.elim
 ·have hh:(tpx F b).handled = none:=rfl
  refine Call_ (hr s _ _ f N fun a h' tk' pa F' N'=>?_) hc
  subst pa
  refine Pv.callWith_type1 (bY he he2 he3 ha ha2 ha3 _ _ _ F' N' fun vs h2' tk2' pa2 F2' N2'=>?_) ha hpl
  obtain ⟨_,_,_,rfl,⟨t0,rfl⟩,⟨t1,rfl⟩,⟨t2,rfl⟩⟩:=pa2
  refine range3_rows F2' N2' (by decide) (fun h3' tk3 t₁ u₁ v₁ R F3' N3' O=>?_) (.inl (PyProof.noPylong_small (by decide)))
  refine iter_down (n:=n) J hh R hn F3' N3' hj (fun i t m₁ news₁ h tk I o hi hJ hne F₁ N₁=>?_) fun m₁ news₁ h tk hJ F₁ N₁=>q _ _ _ _ _ (hX _ _ hJ) F₁ N₁
  refine turn i m₁ news₁ I o t hi hJ hne (fun fl m' led'=>∀ (h':Heap) (tk':Nat),Fr b.g b.L h' m'→News b.g b.L h' led'→TurnJ b.g b.L (J i) I o { s with heap:=h,toks:=tk } Q fl { s with heap:=h',toks:=tk' }) ?_ ?_ _ _ _ F₁ N₁ fun fl m' led' h' tk' hp F' N'=>hp h' tk' F' N'
  ·intro fl m' led' led2 hfl hJ' hsub hI hne' h' tk' F' N'
   rcases hfl with rfl | rfl <;> exact ⟨h',tk',m',led',led2,rfl,F',N',hI,hsub,hne',hJ'⟩
  ·intro v m' led' hp h' tk' F' N'
   exact q _ _ _ h' tk' hp F' N'
 ·passes_own
end
section
variable {w:World} {D:Nat} {T:Led} {x dx ch tp o:Addr} {q:MP} {cur going:Int} {tc tg:Tok} {tops:Array Value} {nt:Nat}
theorem great_c {keys:List (Option IK)} (m1:(x,instObj 506 dx)∈T) (mt:(tp,listOf tops nt)∈T) (ord:cA T o) (ht:bk tops keys) (hok:∀ e,some e∈keys→e.Ok) (hn:keys.length≤1000) (off:∀ p∈T,p.1≠dx) :
  am w (D + 5 + 1) 419 [.ref x] [(dx,MD q ch tp o cur tc going tg)] T (MdP q ch tp o dx (aB keys keys.length) going tg):=by
 revert w D T x dx ch tp o q cur going tc tg tops nt keys
 refine no_implicit_lambda% (e16 ?n fun T0=>(?_:bp T0) _ _ _ _ _ _ _ _ _ _ _ _ _ _ _ _)
 case n=>fail "n"
 intro w D T x dx ch tp o q cur going tc tg tops nt keys
 intros
 clear T0
 obtain ⟨duo,uo,dd,hh,tt,nn,o1,o2,o3,o4⟩:=id ord
 have hsz:=ht.1
 refine' ai (binds:=[("self",.ref x)]) ?ho ?hcd ?hb ?hl ?c1 ?c2 ?c3 ?c4 ?_
 fail "e"
 intro bb ok φ kφ
 refine aD (cQ ab) (fun v hv=>?_) rfl rfl rfl
 refine sx_forDown (n:=keys.length) ok (ah ok nofun nofun (by decide) rfl rfl rfl) (px_I (bq (dm ok (ag ok rfl (.tail _ m1) (.head _) rfl rfl (by fail "p") nofun (by fail "q") nofun rfl rfl rfl rfl) (ah ok nofun nofun (by decide) rfl rfl rfl) (.tail _ mt) (by omega) rfl rfl) ab) (by rw [hsz])) (cQ ab) (cQ ab) (by omega) (LeJ x ((dx,MD q ch tp o cur tc going tg)::T) keys (fun j=>aB keys (keys.length - j))) ⟨rfl,rfl,v,rfl,by simp only [Nat.sub_self];exact hv⟩ ?_ ?_ rfl rfl rfl rfl rfl rfl rfl (fun O=>rfl)
 ·intro i m₁ led₁ I oI t hi hJ hne Φ kn kr
  obtain ⟨rfl,e1,e2⟩:=hJ
  obtain ⟨k0,hk0⟩:∃ k0,keys[i]? = some k0:=⟨_,List.getElem?_eq_getElem hi⟩
  obtain ⟨v,hv,hv2⟩:=ht.2 _ _ hk0
  have hci:keys.length - i = keys.length - (i + 1) + 1:=(Nat.succ_pred_eq_of_pos (Nat.sub_pos_of_lt hi)).symm
  have hcx:keys.length - (keys.length - (i + 1) + 1) = i:=by rw [← hci];exact Nat.sub_sub_self (Nat.le_of_lt hi)
  have hg:aB keys (keys.length - i) = match bl keys (i:Int) with
   | none=>aB keys (keys.length - (i + 1))
   | some e=>if aB keys (keys.length - (i + 1)) < 0 then (i:Int) else match bl keys (aB keys (keys.length - (i + 1))) with
    | none=>aB keys (keys.length - (i + 1))
    | some f=>if 0 < aV e f then (i:Int) else aB keys (keys.length - (i + 1)):=by rw [hci,aB,hcx] <;> rfl
  have hat:bl keys (i:Int) = k0:=by rw [keyAt_nat,hk0];rfl
  refine aD (aK (v:=v) (k:=(i:Int)) (ag ok e1 (.tail _ (.tail _ m1)) (.tail _ (.head _)) rfl rfl (by fail "p") nofun (by fail "q") nofun rfl rfl rfl rfl) (Px.mono decl_name% isI) (.tail _ (.tail _ mt)) (by omega) (by omega) hv (fun O=>nofun)) (fun v' hv'=>?_) rfl rfl rfl
  subst hv'
  have fin:∀ g,g = aB keys (keys.length - i)→∀ fl m',fl = .next ∨ fl = .cont→m' "self" = some (.ref x)→(∃ v,m' "best" = some v∧IsI g v)→Φ fl m' ((I,oI)::(dx,MD q ch tp o cur tc going tg)::T):=fun g hg fl m' hfl e1 e2 =>
   kn fl _ _ _ hfl ⟨rfl,e1,hg ▸ e2⟩ (fun p hp=>.tail _ hp) (.head _) hne
  clear kn hne hci hcx
  rw [hat] at hg
  refine aH (pc_is (Px.mono decl_name% fun a ha=>by rw [ha];exact hv2.isO) bQ rfl) (fun hc=>?_) fun hc=>?_
  ·have hk:k0 = none:=by cases k0 with | none=>rfl | some e=>cases hc
   rw [hk] at hg
   exact aj (lx_continue (fin _ hg.symm .cont _ (.inr rfl) e1 e2))
  ·obtain ⟨e,rfl⟩:∃ e,k0 = some e:=by cases k0 with | none=>cases hc | some e=>exact ⟨e,rfl⟩
   simp only at hg
   obtain ⟨te,rfl⟩:=hv2
   have heo:e.Ok:=hok e (List.mem_of_getElem? hk0)
   rcases greatOf_spec keys (keys.length - (i + 1)) with hb | ⟨b0,b1,f,hf⟩
   ·rw [if_pos hb] at hg
    refine aH (pc_or (c2:=true) (bE (ac e2 rfl rfl rfl) ab rfl) (fun h=>absurd hb (of_decide_eq_false h))) (fun O=>?_) (fun h=>by rw [decide_eq_true hb] at h;cases h)
    refine aD decl_name% (fun v' hv'=>?_) rfl rfl rfl
    exact ae (ae (fin _ hg.symm .next _ (.inl rfl) e1 ⟨v',rfl,t,hv'⟩))
   ·obtain ⟨tf,hft⟩:=keyAt_top ht hf
    have hfo:f.Ok:=hok f (keyAt_mem hf)
    have hb:¬ aB keys (keys.length - (i + 1)) < 0:=by omega
    rw [if_neg hb,hf] at hg
    simp only at hg
    refine aH (cZ (bE (ac e2 rfl rfl rfl) ab rfl) (fun O=>cS (i:=aV e f) (pm1 ok (ag ok e1 (.tail _ (.tail _ m1)) (.tail _ (.head _)) rfl rfl (by fail "p") nofun (by fail "q") nofun rfl rfl rfl rfl) (aw ok (.tail _ (.tail _ o1)) (.tail _ (.tail _ o2)) rfl nofun nofun nofun) (aU decl_name% (aK (k:=aB keys (keys.length - (i + 1))) (ag ok e1 (.tail _ (.tail _ m1)) (.tail _ (.head _)) rfl rfl (by fail "p") nofun (by fail "q") nofun rfl rfl rfl rfl) (ac e2 rfl rfl rfl) (.tail _ (.tail _ mt)) b0 (by omega) hft (fun O=>nofun)) rfl rfl) (ar2 ?_) nofun rfl rfl rfl) ab rfl)) (fun h=>?_) fun h=>?_
    ·exact ar ok (icmp_c heo hfo (ord.mono fun p hp=>.tail _ (.tail _ hp))) (fun r fp' h=>h) (fun O h=>nomatch h) rfl (by omega)
    ·have hc:0 < aV e f:=by simpa [hb] using h
     rw [if_pos hc] at hg
     refine aD decl_name% (fun v' hv'=>?_) rfl rfl rfl
     exact ae (ae (fin _ hg.symm .next _ (.inl rfl) e1 ⟨v',rfl,t,hv'⟩))
    ·have hc:¬ 0 < aV e f:=by simpa [hb] using h
     rw [if_neg hc] at hg
     exact ae (fin _ hg.symm .next _ (.inl rfl) e1 e2)
 ·intro m' led' h
  obtain ⟨rfl,e1,e2⟩:=h
  rw [Nat.sub_zero] at e2
  exact aj (lx_cur ok m1 off e1 (ac e2 rfl rfl rfl) (fun t=>ae (kφ .next _ [_] (.mk t))) rfl rfl rfl)
inductive LkP (tp:Addr) (tops:Array Value) (nt i:Nat) (k:Option IK):Value→Led→Prop
 | mk (v:Value) (hv:TopV k v):LkP tp tops nt i k .none [(tp,listOf (tops.setIfInBounds i v) nt)]
theorem look_c {C:aN} {rest:Led} {kc:KS} {i:Nat} {ti:Tok} {cv:Array Value} {nc:Nat} (S:al w D C) (hC:C kc.fp rest kc.c kc.kd kc.R kc.st) (hT:∀ p∈kc.fp++rest,p∈T) (m1:(x,instObj 506 dx)∈T) (m0:(dx,MD q ch tp o cur tc going tg)∈T) (m2:(ch,listOf cv nc)∈T) (hcv:cv[i]? = some (.ref kc.c)) (hi:i < tops.size) (hn:tops.size≤1000) (off:∀ p∈T,p.1≠tp) :
  am w (D + 1) 405 [.ref x,.int (i:Int) ti] [(tp,listOf tops nt)] T (LkP tp tops nt i kc.key):=by
 refine' ai (binds:=[("self",.ref x),("i",.int (i:Int) ti)]) ?ho ?hcd ?hb ?hl ?c1 ?c2 ?c3 ?c4 ?_
 fail "e"
 intro bb ok φ kφ
 refine aD (aK (v:=.ref kc.c) (k:=(i:Int)) (ag ok rfl (.tail _ m1) (.tail _ m0) rfl rfl (by fail "p") nofun (by fail "q") nofun rfl rfl rfl rfl) (Px.mono decl_name% isI) (.tail _ m2) (by omega) (by omega) hcv (fun O=>nofun)) (fun v hv=>?_) rfl rfl rfl
 subst hv
 refine sx_if (bt (pm0 ok decl_name% (bD ok S hC (fun p hp=>.tail _ (hT p hp)) .valid) (ar ok (S.valid hC fun p hp=>.tail _ (hT p (aR hp))) (fun r fp' h=>h.1) (fun p hp=>.tail _ (hT p (aL hp))) rfl (Nat.le_refl _)) (aP _ _ _) rfl) rfl) (fun hc=>?_) fun hc=>?_
 ·obtain ⟨j,hj⟩:=Option.isSome_iff_exists.mp hc
  rw [hj] at hC
  obtain ⟨y,hy⟩:∃ y,kc.R[j]? = some y:=⟨_,List.getElem?_eq_getElem ((S.size hC).2 j rfl)⟩
  have hk:kc.key = some y.1:=by unfold KS.key;rw [hj,Option.bind_some,hy];rfl
  refine aj (lx_setitem (k:=(i:Int)) (P:=IsB (ikb y.1)) (led':=fun v=>(tp,listOf (tops.setIfInBounds i v) nt)::T) (pm0 ok decl_name% (bD ok S hC (fun p hp=>.tail _ (hT p hp)) .key) (ar ok (S.key hC hy fun p hp=>.tail _ (hT p (aR hp))) (fun r fp' h=>h.1) (fun p hp=>.tail _ (hT p (aL hp))) rfl (Nat.le_refl _)) (aP _ _ _) rfl) (ag ok rfl (.tail _ m1) (.tail _ m0) rfl rfl (by fail "p") nofun (by fail "q") nofun rfl rfl rfl rfl) (Px.mono decl_name% isI) (fun v=>.head off) (by omega) (by omega) (by omega) (fun v hv=>?_) rfl)
  exact ae (ae (kφ .next _ [_] (.mk v (hk ▸ hv))))
 ·have hj:kc.st = none:=by
   cases h:kc.st with
   | none=>rfl
   | some j=>rw [h] at hc;cases hc
  have hk:kc.key = none:=by unfold KS.key;rw [hj];rfl
  refine aj (lx_setitem (k:=(i:Int)) (P:=fun v=>v = .none) (led':=fun v=>(tp,listOf (tops.setIfInBounds i v) nt)::T) bQ (ag ok rfl (.tail _ m1) (.tail _ m0) rfl rfl (by fail "p") nofun (by fail "q") nofun rfl rfl rfl rfl) (Px.mono decl_name% isI) (fun v=>.head off) (by omega) (by omega) (by omega) (fun v hv=>?_) rfl)
  exact ae (ae (kφ .next _ [_] (.mk v (hk ▸ hv))))
theorem mvalid_c (m1:(x,instObj 506 dx)∈T):am w (D + 1) 426 [.ref x] [(dx,MD q ch tp o cur tc going tg)] T (fun r fp'=>r = .bool (decide (0≤cur))∧fp' = [(dx,MD q ch tp o cur tc going tg)]):=by
 refine' ai (binds:=[("self",.ref x)]) ?ho ?hcd ?hb ?hl ?c1 ?c2 ?c3 ?c4 ?_
 fail "e"
 intro bb ok φ kφ
 exact aZ (eL (Px.mono (ag ok rfl (.tail _ m1) (.head _) rfl rfl (by fail "p") nofun (by fail "q") nofun rfl rfl rfl rfl) isI) ab op_geI rfl) fun v hv=>kφ (.ret v) _ [_] ⟨hv,rfl⟩
theorem mneed_c (m1:(x,instObj 506 dx)∈T) (h0:0≤cur):am w (D + 1) 433 [.ref x] [(dx,MD q ch tp o cur tc going tg)] T (fun r fp'=>fp' = [(dx,MD q ch tp o cur tc going tg)]):=by
 refine' ai (binds:=[("self",.ref x)]) ?ho ?hcd ?hb ?hl ?c1 ?c2 ?c3 ?c4 ?_
 fail "e"
 intro bb ok φ kφ
 exact aH (bE (Px.mono (ag ok rfl (.tail _ m1) (.head _) rfl rfl (by fail "p") nofun (by fail "q") nofun rfl rfl rfl rfl) isI) ab rfl) (fun h=>by have:=of_decide_eq_true h;omega) fun O=>ae (kφ .next _ [_] rfl)
theorem sx_mneed {F:FnC} {b:Bx} {m:MM} {φ:FP} {pl:Sem Bool} {xp ap pos:Pos} {stmts:List Stmt} (ok:Okx w D b) (m1:(x,instObj 506 dx)∈T) (h0:0≤cur) (e1:m "self" = some (.ref x)) (hq:Lx w F b (execs stmts (evx F b)) φ m ((dx,MD q ch tp o cur tc going tg)::T)) (hk:F.cs.kind = .function) (hx:(evx F b).kindOf "self" = some .local) (hD:1≤D) (hia:interactive (evx F b) = false)
  (hs:swapsWith (.Call (.Attribute (.Name "self" xp) "need" ap) [] [] pos) none pos.line (evx F b) = pure false) (he:eval (.Call (.Attribute (.Name "self" xp) "need" ap) [] [] pos) (evx F b) = (do
   let ov ← eval (.Name "self" xp) (evx F b)
   standAt ap.atName
   let (f,first) ← holding [ov] (getMethod ov "need" pl)
   callWith pos f first (backTo pos (starEach [] (evx F b))) [])):Lx w F b (execs (.Expr (.Call (.Attribute (.Name "self" xp) "need" ap) [] [] pos) pos::stmts) (evx F b)) φ m ((dx,MD q ch tp o cur tc going tg)::T):=by
 refine aO (lm0 ok (af e1 hk hx rfl) (aw ok (.tail _ m1) (.head _) rfl nofun nofun nofun) (aX ok hk hD (mneed_c (D:=0) m1 h0) (fun O h=>h) fun r fp' hp=>?_) nofun he) hia hs
 subst hp
 exact hq
theorem mkey_c {v:Value} (m1:(x,instObj 506 dx)∈T) (mt:(tp,listOf tops nt)∈T) (h0:0≤cur) (h1:cur < 10000) (hv:tops[cur.toNat]? = some v):am w (D + 1 + 1) 496 [.ref x] [(dx,MD q ch tp o cur tc going tg)] T (fun r fp'=>r = v∧fp' = [(dx,MD q ch tp o cur tc going tg)]):=by
 refine' ai (binds:=[("self",.ref x)]) ?ho ?hcd ?hb ?hl ?c1 ?c2 ?c3 ?c4 ?_
 fail "e"
 intro bb ok φ kφ
 refine sx_mneed ok m1 h0 rfl ?_ rfl rfl (by omega) rfl rfl rfl
 exact aZ (aK (ag ok rfl (.tail _ m1) (.head _) rfl rfl (by fail "p") nofun (by fail "q") nofun rfl rfl rfl rfl) (Px.mono (ag ok rfl (.tail _ m1) (.head _) rfl rfl (by fail "p") nofun (by fail "q") nofun rfl rfl rfl rfl) isI) (.tail _ mt) h0 (by omega) hv (fun O=>nofun)) fun v hv=>kφ (.ret v) _ [_] ⟨hv,rfl⟩
theorem mvalue_c {C:aN} {rest:Led} {kc:KS} {i:Nat} {y:Row} {cv:Array Value} {nc:Nat} (S:al w D C) (hC:C kc.fp rest kc.c kc.kd kc.R (some i)) (hT:∀ p∈kc.fp++rest,p∈T) (hy:kc.R[i]? = some y) (m1:(x,instObj 506 dx)∈T) (m2:(ch,listOf cv nc)∈T) (h0:0≤cur) (h1:cur < 10000) (hcv:cv[cur.toNat]? = some (.ref kc.c)) :
  am w (D + 1 + 1) 503 [.ref x] [(dx,MD q ch tp o cur tc going tg)] T (fun r fp'=>IsB y.2 r∧fp' = [(dx,MD q ch tp o cur tc going tg)]):=by
 refine' ai (binds:=[("self",.ref x)]) ?ho ?hcd ?hb ?hl ?c1 ?c2 ?c3 ?c4 ?_
 fail "e"
 intro bb ok φ kφ
 refine sx_mneed ok m1 h0 rfl ?_ rfl rfl (by omega) rfl rfl rfl
 exact aZ (pm0 ok (aK (ag ok rfl (.tail _ m1) (.head _) rfl rfl (by fail "p") nofun (by fail "q") nofun rfl rfl rfl rfl) (Px.mono (ag ok rfl (.tail _ m1) (.head _) rfl rfl (by fail "p") nofun (by fail "q") nofun rfl rfl rfl rfl) isI) (.tail _ m2) h0 (by omega) hcv (fun O=>nofun)) (bD ok S hC (fun p hp=>.tail _ (hT p hp)) .value) (ar ok (S.value hC hy fun p hp=>.tail _ (hT p (aR hp))) (fun r fp' h=>h.1) (fun p hp=>.tail _ (hT p (aL hp))) rfl (by omega)) (aP _ _ _) rfl) fun v hv=>kφ (.ret v) _ [_] ⟨hv,rfl⟩
end
structure MK where
 q:MP
 x:Addr
 dx:Addr
 ch:Addr
 tp:Addr
 o:Addr
 cv:Array Value
 nc:Nat
 nt:Nat
noncomputable abbrev MK.obj (c:MK) (cur:Int) (tc:Tok) (going:Int) (tg:Tok):Obj:=MD c.q c.ch c.tp c.o cur tc going tg
noncomputable def ML (c:MK) (cur:Int) (tc:Tok) (going:Int) (tg:Tok) (tops:Array Value) (ks:List KS) (E:Led):Led:=(c.dx,c.obj cur tc going tg)::(c.tp,listOf tops c.nt)::(aC ks++E)
structure Me (c:MK) (r0 E:Led):Prop where
 inst:(c.x,instObj 506 c.dx)∈E
 lst:(c.ch,listOf c.cv c.nc)∈E
 ord:cA E c.o
 off3:@Ne Nat c.dx c.tp
 offE:∀ p∈E,p.1≠c.dx∧p.1≠c.tp
 sub:∀ p∈r0,p∈E
structure Kd (C:aN) (r0:Led) (c:MK) (E:Led) (ks:List KS):Prop where
 kids:dW (FixC C r0) E ks
 hcl:c.cv.size = ks.length
 hcv:∀ (i:Nat) k,ks[i]? = some k→c.cv[i]? = some (.ref k.c)
 offk:∀ p∈aC ks,p.1≠c.dx∧p.1≠c.tp
 hn:ks.length≤1000
theorem Me.cons {c:MK} {r0 E:Led} {I:Addr} {oI:Obj} (M:Me c r0 E) (h1:@Ne Nat c.dx I) (h2:@Ne Nat c.tp I):Me c r0 ((I,oI)::E) :=
 ⟨.tail _ M.inst,.tail _ M.lst,M.ord.mono fun O h=>.tail _ h,M.off3,fun p hp=>by
  rcases List.mem_cons.mp hp with rfl | h
  ·exact ⟨fun e=>h1 e.symm,fun e=>h2 e.symm⟩
  ·exact M.offE p h,fun p hp=>.tail _ (M.sub p hp)⟩
theorem Kd.chg {C:aN} {r0 E E':Led} {c:MK} {ks:List KS} (K:Kd C r0 c E ks) (hs:∀ p∈r0,p∈E') (ho:∀ k∈ks,Off k.fp E'):Kd C r0 c E' ks :=
 ⟨⟨fun k hk=>⟨(K.kids.cur k hk).1,hs⟩,ho,K.kids.apart⟩,K.hcl,K.hcv,K.offk,K.hn⟩
theorem Kd.cons {C:aN} {r0 E:Led} {c:MK} {ks:List KS} {I:Addr} {oI:Obj} (K:Kd C r0 c E ks) (M:Me c r0 E) (h:∀ p∈aC ks,p.1≠I):Kd C r0 c ((I,oI)::E) ks :=
 K.chg (fun p hp=>.tail _ (M.sub p hp)) fun k hk=>off_cons (fun p hp e=>h p (bS hk p hp) e.symm) (K.kids.off k hk)
theorem Kd.uncons {C:aN} {r0 E:Led} {c:MK} {ks:List KS} {x:Addr × Obj} (K:Kd C r0 c (x::E) ks) (M:Me c r0 E):Kd C r0 c E ks :=
 K.chg M.sub fun k hk p hp q hq=>K.kids.off k hk p hp q (.tail _ hq)
theorem Kd.set {C:aN} {r0 E:Led} {c:MK} {ks:List KS} {i:Nat} {k:KS} {fp':Led} {st':Option Nat} (K:Kd C r0 c E ks) (hk:ks[i]? = some k) (ha:ak fp' k.fp) (hK:dW (FixC C r0) E (ks.set i { k with fp:=fp',st:=st' })):Kd C r0 c E (ks.set i { k with fp:=fp',st:=st' }):=by
 refine ⟨hK,by rw [List.length_set];exact K.hcl,fun j k2 h=>?_,fun p hp=>?_,by rw [List.length_set];exact K.hn⟩
 ·by_cases e:i = j
  ·subst e
   rw [List.getElem?_set_self (List.getElem?_eq_some_iff.mp hk).1] at h
   cases h
   exact K.hcv i k hk
  ·rw [List.getElem?_set_ne e] at h
   exact K.hcv j k2 h
 ·obtain ⟨p',hp',e⟩:=adr_set (k':={ k with fp:=fp',st:=st' }) hk ha p hp
  rw [← e];exact K.offk p' hp'
inductive MlJ (C:aN) (r0:Led) (c:MK) (E:Led) (f:Nat→KS→Option Nat) (ks:List KS) (tops0:Array Value) (ex:MM→Prop) (cur:Int) (tc:Tok) (going:Int) (tg:Tok):Nat→MM→Led→Prop
 | mk {i m} (ks₁:List KS) (tops₁:Array Value) (e1:m "self" = some (.ref c.x)) (ex1:ex m) (K:Kd C r0 c E ks₁) (P:aT f ks ks₁ tops0 tops₁ i):MlJ C r0 c E f ks tops0 ex cur tc going tg i m (ML c cur tc going tg tops₁ ks₁ E)
section
variable {w:World} {D D':Nat} {C:aN} {r0 E:Led} {c:MK} {ks:List KS} {i:Nat} {k:KS} {st':Option Nat} {cur going:Int} {tc tg:Tok} {tops:Array Value} {F:FnC} {b:Bx} {m:MM} {φ:FP} {pl:Sem Bool} {xp ap pos np:Pos} {stmts:List Stmt} {y:Str}
theorem ML.in_E {p:Addr × Obj} (h:p∈E):p∈ML c cur tc going tg tops ks E:=.tail _ (.tail _ (aR h))
theorem ML.in_k {p:Addr × Obj} (h:p∈aC ks):p∈ML c cur tc going tg tops ks E:=.tail _ (.tail _ (aL h))
theorem ML.in_t:(c.tp,listOf tops c.nt)∈ML c cur tc going tg tops ks E:=.tail _ (.head _)
theorem ML.in_o:(c.dx,c.obj cur tc going tg)∈ML c cur tc going tg tops ks E:=.head _
theorem Kd.offd (K:Kd C r0 c E ks) (M:Me c r0 E):∀ p∈(c.tp,listOf tops c.nt)::(aC ks++E),p.1≠c.dx:=fun p hp=>by
 rcases List.mem_cons.mp hp with rfl | h
 ·exact fun e=>M.off3 e.symm
 ·rcases List.mem_append.mp h with h | h
  ·exact (K.offk p h).1
  ·exact (M.offE p h).1
theorem Kd.offt (K:Kd C r0 c E ks) (M:Me c r0 E):∀ p∈(c.dx,c.obj cur tc going tg)::(aC ks++E),p.1≠c.tp:=fun p hp=>by
 rcases List.mem_cons.mp hp with rfl | h
 ·exact M.off3
 ·rcases List.mem_append.mp h with h | h
  ·exact (K.offk p h).2
  ·exact (M.offE p h).2
theorem lx_kid {f:Addr} {args:List Value} {ψ:VP} (ok:Okx w D b) (K:Kd C r0 c E ks) (hk:ks[i]? = some k)
  (H:∀ {E0:Led},(∀ p∈E,p∈E0)→(∀ p∈[(c.dx,c.obj cur tc going tg),(c.tp,listOf tops c.nt)],p∈E0)→Off k.fp E0→am w D' f args k.fp E0 fun r fp'=>r = .none∧ak fp' k.fp∧FixC C r0 fp' E k.c k.kd k.R st')
  (hq:∀ fp',ak fp' k.fp→Kd C r0 c E (ks.set i { k with fp:=fp',st:=st' })→ψ .none m (ML c cur tc going tg tops (ks.set i { k with fp:=fp',st:=st' }) E)) (hf:F.cs.kind = .function) (hD:D'≤D) :
  Lx w F b (call (.ref f) args) ψ m (ML c cur tc going tg tops ks E):=fun s Q E' f' N q =>
 kid_call2 (ext:=[(c.dx,c.obj cur tc going tg),(c.tp,listOf tops c.nt)]) K.kids hk H ok.B f' ok.X N ok.T hf (by have:=ok.hd;omega) (by have:=ok.hu;omega) (fun p hp=>hp) (fun p hp p' hp'=>by
  have z:=K.offk p (bS (List.mem_of_getElem? hk) p hp)
  simp only [List.mem_cons,List.not_mem_nil,or_false] at hp'
  rcases hp' with rfl | rfl
  ·exact fun e=>z.1 e.symm
  ·exact fun e=>z.2 e.symm) fun fp' h' tk' F' N' ha K'=>q _ _ _ h' tk' (hq fp' ha (K.set hk ha K')) F' N'
theorem px_kid (ok:Okx w D b) (M:Me c r0 E) (K:Kd C r0 c E ks) (hk:ks[i]? = some k) (e1:m "self" = some (.ref c.x)) (ey:∃ v,m y = some v∧IsI (i:Int) v) (hf:F.cs.kind = .function) (hx:(evx F b).kindOf "self" = some .local) (hy:(evx F b).kindOf y = some .local) (hyd:(y == ("__debug__":Str)) = false)
  (hs:∀ u,subscripted (.Name y np) false (.ref c.ch) (.int (i:Int) u) = operate [.ref c.ch,.int (i:Int) u] (getItem (.ref c.ch) (.int (i:Int) u))) :
  Px w F b (eval (.Subscript (.Attribute (.Name "self" xp) "children" ap) (.Name y np) pos) (evx F b)) (fun a=>a = .ref k.c) m (ML c cur tc going tg tops ks E) :=
 aK (ag ok e1 (ML.in_E M.inst) ML.in_o rfl rfl nofun nofun nofun nofun hf hx rfl rfl) (ac ey hf hy hyd) (ML.in_E M.lst) (by omega) (by have:=(List.getElem?_eq_some_iff.mp hk).1;have:=K.hn;omega) (K.hcv i k hk) hs
theorem sx_look (ok:Okx w D b) (S:al w D' C) (M:Me c r0 E) (K:Kd C r0 c E ks) (hts:tops.size = ks.length) (hk:ks[i]? = some k) (e1:m "self" = some (.ref c.x)) (ey:∃ v,m y = some v∧IsI (i:Int) v)
  (hq:∀ v,TopV k.key v→Lx w F b (execs stmts (evx F b)) φ m (ML c cur tc going tg (tops.setIfInBounds i v) ks E)) (hf:F.cs.kind = .function) (hx:(evx F b).kindOf "self" = some .local) (hy:(evx F b).kindOf y = some .local) (hyd:(y == ("__debug__":Str)) = false) (hD:D' + 1≤D) (hia:interactive (evx F b) = false)
  (hs:swapsWith (.Call (.Attribute (.Name "self" xp) "look" ap) [.Name y np] [] pos) none pos.line (evx F b) = pure false)
  (ha:starEach [.Name y np] (evx F b) = (false,eval (.Name y np) (evx F b))::starEach [] (evx F b))
  (he:eval (.Call (.Attribute (.Name "self" xp) "look" ap) [.Name y np] [] pos) (evx F b) = (do
   let ov ← eval (.Name "self" xp) (evx F b)
   standAt ap.atName
   let (f,first) ← holding [ov] (getMethod ov "look" pl)
   callWith pos f first (backTo pos (starEach [.Name y np] (evx F b))) [])) :
  Lx w F b (execs (.Expr (.Call (.Attribute (.Name "self" xp) "look" ap) [.Name y np] [] pos) pos::stmts) (evx F b)) φ m (ML c cur tc going tg tops ks E):=by
 have hi:=(List.getElem?_eq_some_iff.mp hk).1
 have hn:=K.hn
 have hmem:=List.mem_of_getElem? hk
 refine aO (lm1 ok (af e1 hf hx rfl) (aw ok (ML.in_E M.inst) ML.in_o rfl nofun nofun nofun) (az (ac ey hf hy hyd) ha) (ar1i fun t=>?_) nofun ha rfl he) hia hs
 refine aX ok hf hD (look_c (tops:=tops) (nt:=c.nt) (T:=(c.dx,c.obj cur tc going tg)::(aC ks++E)) (i:=i) (ti:=t) S ((K.kids.cur k hmem).1) (fun p hp=>.tail _ ?_) (.tail _ (aR M.inst)) (.head _) (.tail _ (aR M.lst)) (K.hcv i k hk) (by omega) (by omega) (K.offt M)) (fun p hp=>?_) fun r fp' hp=>?_
 ·rcases List.mem_append.mp hp with h | h
  ·exact aL (bS hmem p h)
  ·exact aR (M.sub p h)
 ·rcases List.mem_cons.mp hp with rfl | h
  ·exact ML.in_t
  ·rcases List.mem_cons.mp h with rfl | h
   ·exact ML.in_o
   ·exact .tail _ (.tail _ h)
 ·obtain ⟨v,hv⟩:=hp
  refine Lx.sub (fun p hp=>?_) (hq v hv)
  rcases List.mem_cons.mp hp with rfl | h
  ·exact .tail _ (.head _)
  ·rcases List.mem_cons.mp h with rfl | h
   ·exact .head _
   ·exact .tail _ (.tail _ h)
theorem keys_ok (S:al w D C) (K:Kd C r0 c E ks):∀ e,some e∈ks.map KS.key→e.Ok:=fun e he=>by
 obtain ⟨kk,hkk,ek⟩:=List.mem_map.mp he
 unfold KS.key at ek
 obtain ⟨j,-,h2⟩:=Option.bind_eq_some_iff.mp ek
 obtain ⟨z,hz,rfl⟩:=Option.map_eq_some_iff.mp h2
 exact S.ok (K.kids.cur kk hkk).1 z (List.mem_of_getElem? hz)
theorem sx_least (ok:Okx w D b) (S:al w D' C) (M:Me c r0 E) (K:Kd C r0 c E ks) (ht:bk tops (ks.map KS.key)) (e1:m "self" = some (.ref c.x))
  (hq:∀ t,Lx w F b (execs stmts (evx F b)) φ m (ML c (aA (ks.map KS.key) (ks.map KS.key).length) t going tg tops ks E)) (hf:F.cs.kind = .function) (hx:(evx F b).kindOf "self" = some .local) (hD:6≤D) (hia:interactive (evx F b) = false)
  (hs:swapsWith (.Call (.Attribute (.Name "self" xp) "find_least" ap) [] [] pos) none pos.line (evx F b) = pure false)
  (he:eval (.Call (.Attribute (.Name "self" xp) "find_least" ap) [] [] pos) (evx F b) = (do
   let ov ← eval (.Name "self" xp) (evx F b)
   standAt ap.atName
   let (f,first) ← holding [ov] (getMethod ov "find_least" pl)
   callWith pos f first (backTo pos (starEach [] (evx F b))) [])) :
  Lx w F b (execs (.Expr (.Call (.Attribute (.Name "self" xp) "find_least" ap) [] [] pos) pos::stmts) (evx F b)) φ m (ML c cur tc going tg tops ks E):=by
 refine aO (lm0 ok (af e1 hf hx rfl) (aw ok (ML.in_E M.inst) ML.in_o rfl nofun nofun nofun) (aX ok hf hD (least_c (D:=0) (T:=(c.tp,listOf tops c.nt)::(aC ks++E)) (.tail _ (aR M.inst)) (.head _) (M.ord.mono fun p h=>.tail _ (aR h)) ht (keys_ok S K) (by rw [List.length_map];exact K.hn) (K.offd M)) (fun O h=>h) fun r fp' hp=>?_) nofun he) hia hs
 obtain ⟨t⟩:=hp
 exact hq t
theorem sx_great (ok:Okx w D b) (S:al w D' C) (M:Me c r0 E) (K:Kd C r0 c E ks) (ht:bk tops (ks.map KS.key)) (e1:m "self" = some (.ref c.x))
  (hq:∀ t,Lx w F b (execs stmts (evx F b)) φ m (ML c (aB (ks.map KS.key) (ks.map KS.key).length) t going tg tops ks E)) (hf:F.cs.kind = .function) (hx:(evx F b).kindOf "self" = some .local) (hD:6≤D) (hia:interactive (evx F b) = false)
  (hs:swapsWith (.Call (.Attribute (.Name "self" xp) "find_greatest" ap) [] [] pos) none pos.line (evx F b) = pure false)
  (he:eval (.Call (.Attribute (.Name "self" xp) "find_greatest" ap) [] [] pos) (evx F b) = (do
   let ov ← eval (.Name "self" xp) (evx F b)
   standAt ap.atName
   let (f,first) ← holding [ov] (getMethod ov "find_greatest" pl)
   callWith pos f first (backTo pos (starEach [] (evx F b))) [])) :
  Lx w F b (execs (.Expr (.Call (.Attribute (.Name "self" xp) "find_greatest" ap) [] [] pos) pos::stmts) (evx F b)) φ m (ML c cur tc going tg tops ks E):=by
 refine aO (lm0 ok (af e1 hf hx rfl) (aw ok (ML.in_E M.inst) ML.in_o rfl nofun nofun nofun) (aX ok hf hD (great_c (D:=0) (T:=(c.tp,listOf tops c.nt)::(aC ks++E)) (.tail _ (aR M.inst)) (.head _) (M.ord.mono fun p h=>.tail _ (aR h)) ht (keys_ok S K) (by rw [List.length_map];exact K.hn) (K.offd M)) (fun O h=>h) fun r fp' hp=>?_) nofun he) hia hs
 obtain ⟨t⟩:=hp
 exact hq t
theorem eH {g:Int} {value:Expr} {pos':Pos} (ok:Okx w D b) (M:Me c r0 E) (K:Kd C r0 c E ks) (e1:m "self" = some (.ref c.x)) (h:Px w F b (eval value (evx F b)) (IsI g) m (ML c cur tc going tg tops ks E)) (hq:∀ t:Tok,Lx w F b (execs stmts (evx F b)) φ m (ML c g t going tg tops ks E)) (hk:F.cs.kind = .function) (hx:(evx F b).kindOf "self" = some .local) (hs:swapsWith value (some (.Attribute (.Name "self" xp) "current" pos')) pos.line (evx F b) = pure false) :
  Lx w F b (execs (.Assign [.Attribute (.Name "self" xp) "current" pos'] value pos::stmts) (evx F b)) φ m (ML c cur tc going tg tops ks E) :=
 aj (lx_cur ok (.tail _ (aR M.inst)) (K.offd M) e1 h hq hk hx hs)
theorem sx_going {g:Int} {value:Expr} {pos':Pos} (ok:Okx w D b) (M:Me c r0 E) (K:Kd C r0 c E ks) (e1:m "self" = some (.ref c.x)) (h:Px w F b (eval value (evx F b)) (IsI g) m (ML c cur tc going tg tops ks E)) (hq:∀ t:Tok,Lx w F b (execs stmts (evx F b)) φ m (ML c cur tc g t tops ks E)) (hk:F.cs.kind = .function) (hx:(evx F b).kindOf "self" = some .local) (hs:swapsWith value (some (.Attribute (.Name "self" xp) "going" pos')) pos.line (evx F b) = pure false) :
  Lx w F b (execs (.Assign [.Attribute (.Name "self" xp) "going" pos'] value pos::stmts) (evx F b)) φ m (ML c cur tc going tg tops ks E) :=
 aj (lx_mgoing ok (.tail _ (aR M.inst)) (K.offd M) e1 h hq hk hx hs)
theorem sx_kids {px lp cp sp:Pos} {body rest:List Stmt} {f:Nat→KS→Option Nat} (ok:Okx w D b) (M:Me c r0 E) (K:Kd C r0 c E ks) (hts:tops.size = ks.length) (ex:MM→Prop) (e1:m "self" = some (.ref c.x)) (hex:ex m)
  (hr:Px w F b (eval (.Name "range" xp) (evx F b)) (fun a=>a = .type "range") m (ML c cur tc going tg tops ks E)) (hl:Px w F b (eval (.Name "len" lp) (evx F b)) (fun a=>a = .builtin "len") m (ML c cur tc going tg tops ks E))
  (turn:∀ i k ks₁ tops₁ I oI m₁ t,ks[i]? = some k→ks₁[i]? = some k→Me c r0 ((I,oI)::E)→Kd C r0 c ((I,oI)::E) ks₁→aT f ks ks₁ tops tops₁ i→m₁ "self" = some (.ref c.x)→ex m₁→∀ Φ:FP,
   (∀ m' ks₂ tops₂,m' "self" = some (.ref c.x)→ex m'→Kd C r0 c ((I,oI)::E) ks₂→aT f ks ks₂ tops tops₂ (i + 1)→Φ .next m' (ML c cur tc going tg tops₂ ks₂ ((I,oI)::E))) →
   Lx w F b (execs body (evx F b)) Φ (ms m₁ "i" (.int (i:Int) t)) (ML c cur tc going tg tops₁ ks₁ ((I,oI)::E)))
  (hX:∀ m' ks' tops',m' "self" = some (.ref c.x)→ex m'→Kd C r0 c E ks'→ci f ks ks'→bk tops' (ks'.map KS.key)→Lx w F b (execs rest (evx F b)) φ m' (ML c cur tc going tg tops' ks' E))
  (hf:F.cs.kind = .function) (hx:(evx F b).kindOf "self" = some .local) (hxi:(evx F b).kindOf "i" = some .local)
  (ha:starEach [.Call (.Name "len" lp) [.Attribute (.Name "self" sp) "children" ap] [] cp] (evx F b) = (false,eval (.Call (.Name "len" lp) [.Attribute (.Name "self" sp) "children" ap] [] cp) (evx F b))::starEach [] (evx F b))
  (ha2:starEach [.Attribute (.Name "self" sp) "children" ap] (evx F b) = (false,eval (.Attribute (.Name "self" sp) "children" ap) (evx F b))::starEach [] (evx F b))
  (hc:eval (.Call (.Name "range" xp) [.Call (.Name "len" lp) [.Attribute (.Name "self" sp) "children" ap] [] cp] [] pos) (evx F b) = (do callWith pos (← eval (.Name "range" xp) (evx F b)) [] (backTo pos (starEach [.Call (.Name "len" lp) [.Attribute (.Name "self" sp) "children" ap] [] cp] (evx F b))) (backToKw pos (keywordEach [] (evx F b)))))
  (hc2:eval (.Call (.Name "len" lp) [.Attribute (.Name "self" sp) "children" ap] [] cp) (evx F b) = (do callWith cp (← eval (.Name "len" lp) (evx F b)) [] (backTo cp (starEach [.Attribute (.Name "self" sp) "children" ap] (evx F b))) (backToKw cp (keywordEach [] (evx F b)))))
  (hfo:∀ x,foldedSetIterable (.Call (.Name "range" xp) [.Call (.Name "len" lp) [.Attribute (.Name "self" sp) "children" ap] [] cp] [] pos) (evx F b) x = pure x) :
  Lx w F b (execs (.For (.Name "i" px) (.Call (.Name "range" xp) [.Call (.Name "len" lp) [.Attribute (.Name "self" sp) "children" ap] [] cp] [] pos) body [] np::rest) (evx F b)) φ m (ML c cur tc going tg tops ks E):=by
 have hn:=K.hn
 have hcl:=K.hcl
 refine sx_forUp (n:=ks.length) ok hr (px_I (dm ok (ag ok e1 (ML.in_E M.inst) ML.in_o rfl rfl nofun nofun nofun nofun hf hx rfl rfl) hl (ML.in_E M.lst) (by omega) ha2 hc2) (by rw [hcl])) (by omega) (MlJ C r0 c E f ks tops ex cur tc going tg) (.mk ks tops e1 hex K (.zero hts)) ?_ ?_ hf hxi ha hc hfo
 ·intro i m₁ led₁ I oI t hi hJ hne Φ kn kr
  obtain ⟨ks₁,tops₁,n1,n2,K1,P⟩:=hJ
  obtain ⟨k,hk⟩:∃ k,ks[i]? = some k:=⟨_,List.getElem?_eq_getElem hi⟩
  have hk1:ks₁[i]? = some k:=by rw [P.todo i (Nat.le_refl _)];exact hk
  have hd:=hne _ ML.in_o
  have ht:=hne _ ML.in_t
  refine Lx.sub (led':=ML c cur tc going tg tops₁ ks₁ ((I,oI)::E)) (fun p hp=>?_) (turn i k ks₁ tops₁ I oI m₁ t hk hk1 (M.cons hd ht) (K1.cons M fun p hp=>hne p (ML.in_k hp)) P n1 n2 Φ fun m' ks₂ tops₂ o1 o2 K2 P2=>?_)
  ·rcases List.mem_cons.mp hp with rfl | h
   ·exact .tail _ (.head _)
   ·rcases List.mem_cons.mp h with rfl | h
    ·exact .tail _ (.tail _ (.head _))
    ·rcases List.mem_append.mp h with h | h
     ·exact .tail _ (ML.in_k h)
     ·rcases List.mem_cons.mp h with rfl | h
      ·exact .head _
      ·exact .tail _ (ML.in_E h)
  ·refine kn .next m' (ML c cur tc going tg tops₂ ks₂ E) _ (.inl rfl) (.mk ks₂ tops₂ o1 o2 (K2.uncons M) P2) (fun p hp=>?_) (ML.in_E (.head _)) fun p hp=>?_
   ·rcases List.mem_cons.mp hp with rfl | h
    ·exact .head _
    ·rcases List.mem_cons.mp h with rfl | h
     ·exact .tail _ (.head _)
     ·rcases List.mem_append.mp h with h | h
      ·exact ML.in_k h
      ·exact ML.in_E (.tail _ h)
   ·rcases List.mem_cons.mp hp with rfl | h
    ·exact hd
    ·rcases List.mem_cons.mp h with rfl | h
     ·exact ht
     ·rcases List.mem_append.mp h with h | h
      ·obtain ⟨kk,hkk,hp⟩:=List.mem_flatMap.mp h
       exact fun e=>K2.kids.off kk hkk p hp (I,oI) (.head _) e.symm
      ·exact hne p (ML.in_E h)
 ·intro m' led' h
  obtain ⟨ks₁,tops₁,n1,n2,K1,P⟩:=h
  obtain ⟨mv,ht⟩:=P.all
  exact hX m' ks₁ tops₁ n1 n2 K1 mv ht
end
inductive MmP (C:aN) (r0:Led) (c:MK) (E:Led) (f:Nat→KS→Option Nat) (ks:List KS) (cur:List KS→Int) (going:Int):Value→Led→Prop
 | mk (t t2:Tok) (tops':Array Value) (ks':List KS) (K:Kd C r0 c E ks') (mv:ci f ks ks') (ht:bk tops' (ks'.map KS.key)):MmP C r0 c E f ks cur going .none ((c.dx,c.obj (cur ks') t going t2)::(c.tp,listOf tops' c.nt)::aC ks')
section
variable {w:World} {D D':Nat} {C:aN} {r0 E:Led} {c:MK} {ks:List KS} {i:Nat} {k:KS} {st':Option Nat} {cur going:Int} {tc tg:Tok} {tops:Array Value} {F:FnC} {b:Bx} {m:MM} {φ:FP} {pl pl2:Sem Bool} {xp ap pos np xp2 ap2 pos2 np2 sp qp:Pos} {stmts:List Stmt} {y:Str}
theorem Kd.subk (K:Kd C r0 c E ks) (M:Me c r0 E) (hk:ks[i]? = some k):∀ p∈k.fp++r0,p∈ML c cur tc going tg tops ks E:=fun p hp=>by
 rcases List.mem_append.mp hp with h | h
 ·exact ML.in_k (bS (List.mem_of_getElem? hk) p h)
 ·exact ML.in_E (M.sub p h)
theorem aT.szk {f:Nat→KS→Option Nat} {ks ks₁:List KS} {tops0 tops:Array Value} {i:Nat} (P:aT f ks ks₁ tops0 tops i):tops.size = ks₁.length:=P.sz.trans P.len.symm
theorem sx_lookP {f:Nat→KS→Option Nat} {ks₁:List KS} {tops₁:Array Value} {fp':Led} (ok:Okx w D b) (S:al w D' C) (M:Me c r0 E) (hk:ks[i]? = some k) (P:aT f ks ks₁ tops tops₁ i) (ha:ak fp' k.fp) (K:Kd C r0 c E (ks₁.set i { k with fp:=fp',st:=f i k })) (e1:m "self" = some (.ref c.x)) (ey:∃ v,m y = some v∧IsI (i:Int) v)
  (hq:∀ tops₂,aT f ks (ks₁.set i { k with fp:=fp',st:=f i k }) tops tops₂ (i + 1)→Lx w F b (execs stmts (evx F b)) φ m (ML c cur tc going tg tops₂ (ks₁.set i { k with fp:=fp',st:=f i k }) E)) (hf:F.cs.kind = .function) (hx:(evx F b).kindOf "self" = some .local) (hy:(evx F b).kindOf y = some .local) (hyd:(y == ("__debug__":Str)) = false) (hD:D' + 1≤D) (hia:interactive (evx F b) = false)
  (hs:swapsWith (.Call (.Attribute (.Name "self" xp) "look" ap) [.Name y np] [] pos) none pos.line (evx F b) = pure false)
  (ha2:starEach [.Name y np] (evx F b) = (false,eval (.Name y np) (evx F b))::starEach [] (evx F b))
  (he:eval (.Call (.Attribute (.Name "self" xp) "look" ap) [.Name y np] [] pos) (evx F b) = (do
   let ov ← eval (.Name "self" xp) (evx F b)
   standAt ap.atName
   let (f,first) ← holding [ov] (getMethod ov "look" pl)
   callWith pos f first (backTo pos (starEach [.Name y np] (evx F b))) [])) :
  Lx w F b (execs (.Expr (.Call (.Attribute (.Name "self" xp) "look" ap) [.Name y np] [] pos) pos::stmts) (evx F b)) φ m (ML c cur tc going tg tops₁ (ks₁.set i { k with fp:=fp',st:=f i k }) E):=by
 have hk1:ks₁[i]? = some k:=by rw [P.todo i (Nat.le_refl _)];exact hk
 have hi:=(List.getElem?_eq_some_iff.mp hk1).1
 refine sx_look (k:={ k with fp:=fp',st:=f i k }) ok S M K (by rw [List.length_set];exact P.szk) (List.getElem?_set_self hi) e1 ey (fun v hv=>hq _ (P.step hk ha hv)) hf hx hy hyd hD hia hs ha2 he
theorem sx_mvlook {f:Nat→KS→Option Nat} {ks₁:List KS} {tops₁:Array Value} {mn:MN} (ok:Okx w D b) (S:al w D' C) (M:Me c r0 E) (K:Kd C r0 c E ks₁) (hk:ks[i]? = some k) (P:aT f ks ks₁ tops tops₁ i) (e1:m "self" = some (.ref c.x)) (ey:∃ v,m "i" = some v∧IsI (i:Int) v)
  (H:∀ {E0:Led},(∀ p∈E,p∈E0)→Off k.fp E0→am w D' (adr k.kd mn) [.ref k.c] k.fp E0 fun r fp'=>r = .none∧ak fp' k.fp∧FixC C r0 fp' E k.c k.kd k.R (f i k))
  (hq:∀ ks₂ tops₂,Kd C r0 c E ks₂→aT f ks ks₂ tops tops₂ (i + 1)→φ .next m (ML c cur tc going tg tops₂ ks₂ E)) (hf:F.cs.kind = .function) (hx:(evx F b).kindOf "self" = some .local) (hy:(evx F b).kindOf "i" = some .local) (hD:D' + 1≤D) (hia:interactive (evx F b) = false)
  (hsub:∀ u,subscripted (.Name "i" np) false (.ref c.ch) (.int (i:Int) u) = operate [.ref c.ch,.int (i:Int) u] (getItem (.ref c.ch) (.int (i:Int) u)))
  (hs:swapsWith (.Call (.Attribute (.Name "self" xp) "look" ap) [.Name "i" np2] [] pos) none pos.line (evx F b) = pure false)
  (hs2:swapsWith (.Call (.Attribute (.Subscript (.Attribute (.Name "self" xp2) "children" ap2) (.Name "i" np) sp) mn.name qp) [] [] pos2) none pos2.line (evx F b) = pure false)
  (ha2:starEach [.Name "i" np2] (evx F b) = (false,eval (.Name "i" np2) (evx F b))::starEach [] (evx F b))
  (he:eval (.Call (.Attribute (.Name "self" xp) "look" ap) [.Name "i" np2] [] pos) (evx F b) = (do
   let ov ← eval (.Name "self" xp) (evx F b)
   standAt ap.atName
   let (f,first) ← holding [ov] (getMethod ov "look" pl)
   callWith pos f first (backTo pos (starEach [.Name "i" np2] (evx F b))) []))
  (he2:eval (.Call (.Attribute (.Subscript (.Attribute (.Name "self" xp2) "children" ap2) (.Name "i" np) sp) mn.name qp) [] [] pos2) (evx F b) = (do
   let ov ← eval (.Subscript (.Attribute (.Name "self" xp2) "children" ap2) (.Name "i" np) sp) (evx F b)
   standAt qp.atName
   let (f,first) ← holding [ov] (getMethod ov mn.name pl2)
   callWith pos2 f first (backTo pos2 (starEach [] (evx F b))) [])) :
  Lx w F b (execs [.Expr (.Call (.Attribute (.Subscript (.Attribute (.Name "self" xp2) "children" ap2) (.Name "i" np) sp) mn.name qp) [] [] pos2) pos2,.Expr (.Call (.Attribute (.Name "self" xp) "look" ap) [.Name "i" np2] [] pos) pos] (evx F b)) φ m (ML c cur tc going tg tops₁ ks₁ E):=by
 have hk1:ks₁[i]? = some k:=by rw [P.todo i (Nat.le_refl _)];exact hk
 exact aO (lm0 ok (px_kid ok M K hk1 e1 ey hf hx hy rfl hsub) (bD ok S ((K.kids.cur k (List.mem_of_getElem? hk1)).1) (K.subk M hk1) mn) (lx_kid ok K hk1 (fun h1 O h3=>H h1 h3) (fun fp' ha K2=>sx_lookP ok S M hk P ha K2 e1 ey (fun tops₂ P2=>ae (hq _ _ K2 P2)) hf hx hy rfl hD hia hs ha2 he) hf (by omega)) (aP _ _ _) he2) hia hs2
theorem mfirst_c (S:al w D C) (M:Me c r0 E) (K:Kd C r0 c E ks) (hts:tops.size = ks.length):am w (D + 9 + 1) 440 [.ref c.x] ((c.dx,c.obj cur tc going tg)::(c.tp,listOf tops c.nt)::aC ks) E (MmP C r0 c E (fun O k=>c7 k.R) ks (fun ks'=>aA (ks'.map KS.key) (ks'.map KS.key).length) 0):=by
 have SF:=S.fix r0
 refine' ai (binds:=[("self",.ref c.x)]) ?ho ?hcd ?hb ?hl ?c1 ?c2 ?c3 ?c4 ?_
 fail "e"
 intro bb ok φ kφ
 show Lx w _ bb _ φ _ (ML c cur tc going tg tops ks E)
 refine eH ok M K rfl (cQ ab) (fun tc1=>?_) rfl rfl rfl
 refine sx_kids (f:=fun O k=>c7 k.R) ok M K hts (fun O=>True) rfl trivial (ah ok nofun nofun (by decide) rfl rfl rfl) (ah ok nofun nofun (by decide) rfl rfl rfl) (fun i k ks₁ tops₁ I oI m₁ t hk hk1 M1 K1 P e1 O Φ kn=>?_) (fun m' ks' tops' e1 O K1 mv ht=>?_) rfl rfl rfl rfl rfl rfl rfl (fun O=>rfl)
 ·exact sx_mvlook (mn:=.first) ok S M1 K1 hk P e1 ⟨_,rfl,t,rfl⟩ (fun h1 h3=>SF.first (K1.kids.cur k (List.mem_of_getElem? hk1)) h1 h3) (fun ks₂ tops₂ K2 P2=>kn _ ks₂ tops₂ e1 trivial K2 P2) rfl rfl rfl (by omega) rfl (fun O=>nofun) rfl rfl rfl rfl rfl
 ·refine sx_going ok M K1 e1 (au ok nofun rfl rfl rfl) (fun t2=>?_) rfl rfl rfl
  refine sx_least ok S M K1 ht e1 (fun t=>?_) rfl rfl (by omega) rfl rfl rfl
  exact ae (kφ .next m' (_::_::aC ks') (.mk t t2 tops' ks' K1 mv ht))
theorem mlast_c (S:al w D C) (M:Me c r0 E) (K:Kd C r0 c E ks) (hts:tops.size = ks.length):am w (D + 9 + 1) 447 [.ref c.x] ((c.dx,c.obj cur tc going tg)::(c.tp,listOf tops c.nt)::aC ks) E (MmP C r0 c E (fun O k=>eS k.R) ks (fun ks'=>aB (ks'.map KS.key) (ks'.map KS.key).length) 1):=by
 have SF:=S.fix r0
 refine' ai (binds:=[("self",.ref c.x)]) ?ho ?hcd ?hb ?hl ?c1 ?c2 ?c3 ?c4 ?_
 fail "e"
 intro bb ok φ kφ
 show Lx w _ bb _ φ _ (ML c cur tc going tg tops ks E)
 refine eH ok M K rfl (cQ ab) (fun tc1=>?_) rfl rfl rfl
 refine sx_kids (f:=fun O k=>eS k.R) ok M K hts (fun O=>True) rfl trivial (ah ok nofun nofun (by decide) rfl rfl rfl) (ah ok nofun nofun (by decide) rfl rfl rfl) (fun i k ks₁ tops₁ I oI m₁ t hk hk1 M1 K1 P e1 O Φ kn=>?_) (fun m' ks' tops' e1 O K1 mv ht=>?_) rfl rfl rfl rfl rfl rfl rfl (fun O=>rfl)
 ·exact sx_mvlook (mn:=.last) ok S M1 K1 hk P e1 ⟨_,rfl,t,rfl⟩ (fun h1 h3=>SF.last (K1.kids.cur k (List.mem_of_getElem? hk1)) h1 h3) (fun ks₂ tops₂ K2 P2=>kn _ ks₂ tops₂ e1 trivial K2 P2) rfl rfl rfl (by omega) rfl (fun O=>nofun) rfl rfl rfl rfl rfl
 ·refine sx_going ok M K1 e1 (au ok nofun rfl rfl rfl) (fun t2=>?_) rfl rfl rfl
  refine sx_great ok S M K1 ht e1 (fun t=>?_) rfl rfl (by omega) rfl rfl rfl
  exact ae (kφ .next m' (_::_::aC ks') (.mk t t2 tops' ks' K1 mv ht))
theorem mseek_c {e:IK} {te:Tok} (S:al w D C) (M:Me c r0 E) (K:Kd C r0 c E ks) (hts:tops.size = ks.length) (he:e.Ok):am w (D + 9 + 1) 454 [.ref c.x,.bytes (ikb e) te] ((c.dx,c.obj cur tc going tg)::(c.tp,listOf tops c.nt)::aC ks) E (MmP C r0 c E (fun O k=>bM k.R e) ks (fun ks'=>aA (ks'.map KS.key) (ks'.map KS.key).length) 0):=by
 have SF:=S.fix r0
 refine' ai (binds:=[("self",.ref c.x),("target",.bytes (ikb e) te)]) ?ho ?hcd ?hb ?hl ?c1 ?c2 ?c3 ?c4 ?_
 fail "e"
 intro bb ok φ kφ
 show Lx w _ bb _ φ _ (ML c cur tc going tg tops ks E)
 refine eH ok M K rfl (cQ ab) (fun tc1=>?_) rfl rfl rfl
 refine sx_kids (f:=fun O k=>bM k.R e) ok M K hts (fun m=>m "target" = some (.bytes (ikb e) te)) rfl rfl (ah ok nofun nofun (by decide) rfl rfl rfl) (ah ok nofun nofun (by decide) rfl rfl rfl) (fun i k ks₁ tops₁ I oI m₁ t hk hk1 M1 K1 P e1 e2 Φ kn=>?_) (fun m' ks' tops' e1 O K1 mv ht=>?_) rfl rfl rfl rfl rfl rfl rfl (fun O=>rfl)
 ·refine aO (lm1 ok (px_kid ok M1 K1 hk1 e1 ⟨_,rfl,t,rfl⟩ rfl rfl rfl rfl (fun O=>nofun)) (bD ok S ((K1.kids.cur k (List.mem_of_getElem? hk1)).1) (K1.subk M1 hk1) .seek) (az (af e2 rfl rfl rfl) rfl) (ar1 ?_) (aP _ _ _) rfl rfl rfl) rfl rfl
  exact lx_kid ok K1 hk1 (fun h1 O h3=>SF.seek (K1.kids.cur k (List.mem_of_getElem? hk1)) h1 h3 he) (fun fp' ha K2=>sx_lookP ok S M1 hk P ha K2 e1 ⟨_,rfl,t,rfl⟩ (fun tops₂ P2=>ae (kn _ _ tops₂ e1 e2 K2 P2)) rfl rfl rfl rfl (by omega) rfl rfl rfl rfl) rfl (by omega)
 ·refine sx_going ok M K1 e1 (au ok nofun rfl rfl rfl) (fun t2=>?_) rfl rfl rfl
  refine sx_least ok S M K1 ht e1 (fun t=>?_) rfl rfl (by omega) rfl rfl rfl
  exact ae (kφ .next m' (_::_::aC ks') (.mk t t2 tops' ks' K1 mv ht))
structure SoJ (C:aN) (rest E0:Led) (x:Addr) (e:IK) (te:Tok) (kc:KS) (n:Nat) (m:MM) (led:Led):Prop where
 e1:m "self" = some (.ref x)
 e2:m "here" = some (.bytes (ikb e) te)
 e3:m "child" = some (.ref kc.c)
 at_:∃ (j:Nat) (fp₁:Led),led = fp₁++E0∧ak fp₁ kc.fp∧C fp₁ rest kc.c kc.kd kc.R (bi kc.R j)∧ltLen kc.R e≤j∧j + n = ltLen kc.R e + eB kc.R e (ltLen kc.R e)
theorem sother_c {i:Nat} {ti te:Tok} {e:IK} {pe:Bool} {kc:KS} {E0 rest:Led} {x dx ch tp o:Addr} {q:MP} {cv:Array Value} {nc:Nat} (S:al w D C) (hC:C kc.fp rest kc.c kc.kd kc.R kc.st) (hsub:∀ p∈rest,p∈E0) (hoff:Off kc.fp E0) (he:e.Ok)
  (m1:(x,instObj 506 dx)∈E0) (m0:(dx,MD q ch tp o cur tc going tg)∈E0) (m2:(ch,listOf cv nc)∈E0) (hcv:cv[i]? = some (.ref kc.c)) (ord:cA E0 o) (hi:i≤1000) :
  am w (D + 5 + 1) 461 [.ref x,.int (i:Int) ti,.bytes (ikb e) te,.bool pe] kc.fp E0 fun r fp'=>r = .none∧ak fp' kc.fp∧C fp' rest kc.c kc.kd kc.R (if pe then cH kc.R e else bM kc.R e):=by
 revert w D C cur going tc tg i ti te e pe kc E0 rest x dx ch tp o q cv nc
 refine no_implicit_lambda% (aW ?_)
 refine no_implicit_lambda% (e24 ?n fun T0=>(?_:bp T0) () _ _ _ _ _ _ _ _ _ _ _ _ _ _ _ _ _ _ _ _ _ _ _)
 case n=>fail "n"
 intro O w D C cur going tc tg i ti te e pe kc E0 rest x dx ch tp o q cv nc
 intros
 clear T0
 have sub2:∀ {fp:Led} {p},p∈E0→p∈fp++E0:=fun h=>aR h
 refine' ai (binds:=[("self",.ref x),("i",.int (i:Int) ti),("here",.bytes (ikb e) te),("past_equal",.bool pe)]) ?ho ?hcd ?hb ?hl ?c1 ?c2 ?c3 ?c4 ?_
 fail "e"
 refine no_implicit_lambda% (eC neM fun T0=>(?_:bp T0) _ _)
 intro bb φ ok kφ
 clear T0
 refine aD (aK (v:=.ref kc.c) (k:=(i:Int)) (ag ok rfl (sub2 m1) (sub2 m0) rfl rfl (by fail "p") nofun (by fail "q") nofun rfl rfl rfl rfl) (Px.mono decl_name% isI) (sub2 m2) (by omega) (by omega) hcv (fun O=>nofun)) (fun v hv=>?_) rfl rfl rfl
 subst hv
 refine aO (lm1 ok decl_name% (bD ok S hC (fun p hp=>(List.mem_append.mp hp).elim (fun h=>aL h) fun h=>sub2 (hsub p h)) .seek) (az decl_name% rfl) (ar1 ?_) (aP _ _ _) rfl rfl rfl) rfl rfl
 refine aX (D':=D) ok rfl (by omega) (S.seek (t:=te) hC hsub hoff he) (fun O h=>h) fun r fp' hp=>?_
 obtain ⟨-,ha,hC'⟩:=hp
 clear hC
 cases pe with
 | false=>exact aH (bt decl_name% rfl) (fun h=>by cases h) fun O=>ae (kφ .next _ fp' ⟨rfl,ha,hC'⟩)
 | true =>
  refine aH (bt decl_name% rfl) (fun O=>?_) fun h=>by cases h
  refine sx_while (SoJ C rest E0 x e te kc) (fun m led=>∃ fp₁,led = fp₁++E0∧ak fp₁ kc.fp∧C fp₁ rest kc.c kc.kd kc.R (cH kc.R e)) (eB kc.R e (ltLen kc.R e)) ⟨rfl,rfl,rfl,_,fp',rfl,ha,hC',Nat.le_refl _,rfl⟩ ?_ fun m' led' h=>?_
  ·clear hC' ha fp'
   intro n m₁ led₁ hx Φ kn kc1 kb kr
   obtain ⟨e1,e2,e3,j,fp₁,rfl,ha,hC',hj1,hj2⟩:=hx
   have hjR:=eqLen_le kc.R e _ (ltLen_le kc.R e)
   have hT:∀ p∈fp₁++rest,p∈fp₁++E0:=fun p hp=>(List.mem_append.mp hp).elim (fun h=>aL h) fun h=>sub2 (hsub p h)
   have hval:=fun (st:Option Nat) (hC:C fp₁ rest kc.c kc.kd kc.R st)=>(S.valid hC (E0:=fp₁++E0) fun p hp=>sub2 (hsub p hp))
   by_cases hjl:j < kc.R.length
   ·rw [cR hjl] at hC'
    obtain ⟨xr,hx⟩:∃ xr,kc.R[j]? = some xr:=⟨_,List.getElem?_eq_getElem hjl⟩
    have hxo:xr.1.Ok:=S.ok hC' _ (List.mem_of_getElem? hx)
    have hat:=eqLen_at (e:=e) hx hj1 (by omega)
    obtain ⟨duo,uo,dd,hh,tt,nn,o1,o2,o3,o4⟩:=id ord
    refine ⟨aV xr.1 e == 0,ck (c:=true) (bt (pm0 ok (af e3 rfl rfl rfl) (bD ok S hC' hT .valid) (ar ok (hval _ hC') (fun r fp' h=>h.1) (fun p hp=>aL hp) rfl (by omega)) (aP _ _ _) rfl) rfl) (fun O=>bn (pm1 ok (ag ok e1 (sub2 m1) (sub2 m0) rfl rfl (by fail "p") nofun (by fail "q") nofun rfl rfl rfl rfl) (aw ok (sub2 o1) (sub2 o2) rfl nofun nofun nofun) (aU (P:=IsB (ikb xr.1)) (pm0 ok (af e3 rfl rfl rfl) (bD ok S hC' hT .key) (ar ok (S.key hC' hx fun p hp=>sub2 (hsub p hp)) (fun r fp' h=>h.1) (fun p hp=>aL hp) rfl (by omega)) (aP _ _ _) rfl) (af e2 rfl rfl rfl) rfl rfl) (fun vs hvs=>?_) nofun rfl rfl rfl) ab rfl),fun hc=>?_,fun hc=>?_⟩
    ·obtain ⟨_,_,rfl,⟨t',rfl⟩,rfl⟩:=hvs
     exact ar ok (icmp_c hxo he (ord.mono fun p hp=>sub2 hp)) (fun r fp' h=>h) (fun O h=>nomatch h) rfl (by omega)
    ·have hat2:=hat.mpr (by simpa using hc)
     refine aO (lm0 ok (af e3 rfl rfl rfl) (bD ok S hC' hT .step) (aX (D':=D) ok rfl (by omega) (S.step hC' hsub (hoff.adr ha)) (fun O h=>h) fun r fp₂ hp=>?_) (aP _ _ _) rfl) rfl rfl
     obtain ⟨-,ha2,hC2⟩:=hp
     exact ae (kn (n - 1) _ _ (by omega) ⟨e1,e2,e3,j + 1,fp₂,rfl,ha2.trans ha,by rw [← dE];exact hC2,by omega,by omega⟩)
    ·have hat2:=mt hat.mp (by simpa using hc)
     have hn:j = ltLen kc.R e + eB kc.R e (ltLen kc.R e):=by omega
     exact ⟨fp₁,rfl,ha,by unfold cH;rw [← hn,cR hjl];exact hC'⟩
   ·have hn:j = ltLen kc.R e + eB kc.R e (ltLen kc.R e):=by omega
    rw [dI hjl] at hC'
    exact ⟨false,pc_and (c:=false) (c2:=true) (bt (pm0 ok (af e3 rfl rfl rfl) (bD ok S hC' hT .valid) (ar ok (hval _ hC') (fun r fp' h=>h.1) (fun p hp=>aL hp) rfl (by omega)) (aP _ _ _) rfl) rfl) (fun h=>by cases h),(fun h=>by cases h),fun O=>⟨fp₁,rfl,ha,by unfold cH;rw [← hn,dI hjl];exact hC'⟩⟩
  ·obtain ⟨fp₁,rfl,ha,hC⟩:=h
   exact ae (ae (kφ .next _ fp₁ ⟨rfl,ha,hC⟩))
end
theorem nat_of_ne {i av:Nat} (h:((i:Int) != (av:Int)) = false):i = av:=by
 have:(i:Int) = (av:Int):=by simpa using h
 omega
noncomputable def fwdTo (av:Nat) (e:IK) (i:Nat) (k:KS):Option Nat:=if i = av then k.st else if i < av then cH k.R e else bM k.R e
noncomputable def bwdTo (av:Nat) (e:IK) (i:Nat) (k:KS):Option Nat:=if i = av then k.st else backOf k.R (if i < av then cH k.R e else bM k.R e)
theorem pe_eq {i av:Nat} {a b:Option Nat}:(if decide ((i:Int) < (av:Int)) then a else b) = (if i < av then a else b):=by simp only [decide_eq_true_eq,Int.ofNat_lt]
structure TnX (av:Nat) (tc te:Tok) (e:IK) (m:MM):Prop where
 e2:m "at" = some (.int ((av:Nat):Int) tc)
 e3:m "here" = some (.bytes (ikb e) te)
inductive BkT (C:aN) (r0:Led) (c:MK) (E:Led) (cur:Int) (tc:Tok) (going:Int) (tg:Tok) (tops:Array Value) (ks:List KS) (i:Nat) (k:KS) (st:Option Nat) (M:MM):Flow→MM→Led→Prop
 | mk (fp2:Led) (ha:ak fp2 k.fp) (K:Kd C r0 c E (ks.set i { k with fp:=fp2,st:=st })):BkT C r0 c E cur tc going tg tops ks i k st M .next M (ML c cur tc going tg tops (ks.set i { k with fp:=fp2,st:=st }) E)
section
variable {w:World} {D D':Nat} {C:aN} {r0 E:Led} {c:MK} {ks:List KS} {i:Nat} {k:KS} {st':Option Nat} {cur going:Int} {tc tg:Tok} {tops:Array Value} {F:FnC} {b:Bx} {m:MM} {φ:FP}
theorem Kd.other {e:IK} {pe:Bool} {ti te:Tok} (S:al w D C) (M:Me c r0 E) (K:Kd C r0 c E ks) (hk:ks[i]? = some k) (he:e.Ok) {E0:Led} (h1:∀ p∈E,p∈E0) (h2:∀ p∈[(c.dx,c.obj cur tc going tg),(c.tp,listOf tops c.nt)],p∈E0) (h3:Off k.fp E0) :
  am w (D + 5 + 1) 461 [.ref c.x,.int (i:Int) ti,.bytes (ikb e) te,.bool pe] k.fp E0 fun r fp'=>r = .none∧ak fp' k.fp∧FixC C r0 fp' E k.c k.kd k.R (if pe then cH k.R e else bM k.R e) :=
 sother_c (S.fix r0) (K.kids.cur k (List.mem_of_getElem? hk)) h1 h3 he (h1 _ M.inst) (h2 _ (.head _)) (h1 _ M.lst) (K.hcv i k hk) (M.ord.mono h1) (by have:=(List.getElem?_eq_some_iff.mp hk).1;have:=K.hn;omega)
theorem tfwd_c {ka:KS} {av:Nat} {e:IK} {te:Tok} (S:al w D C) (M:Me c r0 E) (K:Kd C r0 c E ks) (hts:tops.size = ks.length) (hka:ks[av]? = some ka) (hkey:ka.key = some e) (he:e.Ok) (htv:tops[av]? = some (.bytes (ikb e) te)) :
  am w (D + 11 + 1) 468 [.ref c.x] ((c.dx,c.obj ((av:Nat):Int) tc going tg)::(c.tp,listOf tops c.nt)::aC ks) E (MmP C r0 c E (fwdTo av e) ks (fun O=>((av:Nat):Int)) 0):=by
 have hav:=(List.getElem?_eq_some_iff.mp hka).1
 have hn:=K.hn
 refine' ai (binds:=[("self",.ref c.x)]) ?ho ?hcd ?hb ?hl ?c1 ?c2 ?c3 ?c4 ?_
 fail "e"
 intro bb ok φ kφ
 show Lx w _ bb _ φ _ (ML c ((av:Nat):Int) tc going tg tops ks E)
 refine aD (ag ok rfl (ML.in_E M.inst) ML.in_o rfl rfl (by fail "p") nofun (by fail "q") nofun rfl rfl rfl rfl) (fun v hv=>?_) rfl rfl rfl
 subst hv
 refine aD (aK (k:=((av:Nat):Int)) (ag ok rfl (ML.in_E M.inst) ML.in_o rfl rfl (by fail "p") nofun (by fail "q") nofun rfl rfl rfl rfl) (Px.mono decl_name% isI) ML.in_t (by omega) (by omega) htv (fun O=>nofun)) (fun v hv=>?_) rfl rfl rfl
 subst hv
 refine eH ok M K rfl (cQ ab) (fun tc1=>?_) rfl rfl rfl
 refine sx_kids (f:=fwdTo av e) ok M K hts (TnX av tc te e) rfl ⟨rfl,rfl⟩ (ah ok nofun nofun (by decide) rfl rfl rfl) (ah ok nofun nofun (by decide) rfl rfl rfl) (fun i k ks₁ tops₁ I oI m₁ t hk hk1 M1 K1 P e1 x Φ kn=>?_) (fun m' ks' tops' e1 x K1 mv ht=>?_) rfl rfl rfl rfl rfl rfl rfl (fun O=>rfl)
 ·refine aH (pc_neI (i:=(i:Int)) (Px.mono decl_name% isI) (Px.mono (af x.e2 rfl rfl rfl) isI) rfl) (fun hc=>?_) fun hc=>?_
  ·have hia:i≠av:=fun e=>by rw [e] at hc;simp at hc
   refine aO (lm1 ok (af e1 rfl rfl rfl) (aw ok (ML.in_E M1.inst) ML.in_o rfl nofun nofun nofun) (bY decl_name% (af x.e3 rfl rfl rfl) (eL (Px.mono decl_name% isI) (Px.mono (af x.e2 rfl rfl rfl) isI) op_ltI rfl) rfl rfl rfl) (ar3 ?_) nofun rfl rfl rfl) rfl rfl
   have hf:(if decide ((i:Int) < (av:Int)) then cH k.R e else bM k.R e) = fwdTo av e i k:=by unfold fwdTo;rw [pe_eq,if_neg hia]
   exact lx_kid (D':=D + 5 + 1) ok K1 hk1 (fun h1 h2 h3=>hf ▸ K1.other S M1 hk1 he h1 h2 h3) (fun fp' ha K2=>sx_lookP ok S M1 hk P ha K2 e1 ⟨_,rfl,t,rfl⟩ (fun tops₂ P2=>ae (ae (kn _ _ tops₂ e1 ⟨x.e2,x.e3⟩ K2 P2))) rfl rfl rfl rfl (by omega) rfl rfl rfl rfl) rfl (by omega)
  ·have hia:i = av:=nat_of_ne hc
   subst hia
   rw [hka] at hk
   cases hk
   exact ae (kn _ ks₁ tops₁ e1 ⟨x.e2,x.e3⟩ K1 (P.skip hka (if_pos rfl) htv (by rw [hkey];exact ⟨te,rfl⟩)))
 ·refine eH ok M K1 e1 (Px.mono (af x.e2 rfl rfl rfl) isI) (fun t=>?_) rfl rfl rfl
  refine sx_going ok M K1 e1 (au ok nofun rfl rfl rfl) (fun t2=>?_) rfl rfl rfl
  exact ae (kφ .next m' (_::_::aC ks') (.mk t t2 tops' ks' K1 mv ht))
theorem tbwd_c {ka:KS} {av:Nat} {e:IK} {te:Tok} (S:al w D C) (M:Me c r0 E) (K:Kd C r0 c E ks) (hts:tops.size = ks.length) (hka:ks[av]? = some ka) (hkey:ka.key = some e) (he:e.Ok) (htv:tops[av]? = some (.bytes (ikb e) te)) :
  am w (D + 11 + 1) 475 [.ref c.x] ((c.dx,c.obj ((av:Nat):Int) tc going tg)::(c.tp,listOf tops c.nt)::aC ks) E (MmP C r0 c E (bwdTo av e) ks (fun O=>((av:Nat):Int)) 1):=by
 revert w D C r0 E c ks going tc tg tops ka av e te
 refine no_implicit_lambda% (aW ?_)
 refine no_implicit_lambda% (e16 ?n fun T0=>(?_:bp T0) () _ _ _ _ _ _ _ _ _ _ _ _ _ _ _)
 case n=>fail "n"
 intro O w D C r0 E c ks going tc tg tops ka av e te
 intros
 clear T0
 have hav:=(List.getElem?_eq_some_iff.mp hka).1
 have hn:=K.hn
 have SF:=S.fix r0
 refine' ai (binds:=[("self",.ref c.x)]) ?ho ?hcd ?hb ?hl ?c1 ?c2 ?c3 ?c4 ?_
 fail "e"
 intro bb ok φ kφ
 show Lx w _ bb _ φ _ (ML c ((av:Nat):Int) tc going tg tops ks E)
 refine aD (ag ok rfl (ML.in_E M.inst) ML.in_o rfl rfl (by fail "p") nofun (by fail "q") nofun rfl rfl rfl rfl) (fun v hv=>?_) rfl rfl rfl
 subst hv
 refine aD (aK (k:=((av:Nat):Int)) (ag ok rfl (ML.in_E M.inst) ML.in_o rfl rfl (by fail "p") nofun (by fail "q") nofun rfl rfl rfl rfl) (Px.mono decl_name% isI) ML.in_t (by omega) (by omega) htv (fun O=>nofun)) (fun v hv=>?_) rfl rfl rfl
 subst hv
 refine eH ok M K rfl (cQ ab) (fun tc1=>?_) rfl rfl rfl
 refine sx_kids (f:=bwdTo av e) ok M K hts (TnX av tc te e) rfl ⟨rfl,rfl⟩ (ah ok nofun nofun (by decide) rfl rfl rfl) (ah ok nofun nofun (by decide) rfl rfl rfl) (fun i k ks₁ tops₁ I oI m₁ t hk hk1 M1 K1 P e1 x Φ kn=>?_) (fun m' ks' tops' e1 x K1 mv ht=>?_) rfl rfl rfl rfl rfl rfl rfl (fun O=>rfl)
 ·refine aH (pc_neI (i:=(i:Int)) (Px.mono decl_name% isI) (Px.mono (af x.e2 rfl rfl rfl) isI) rfl) (fun hc=>?_) fun hc=>?_
  ·have hia:i≠av:=fun e=>by rw [e] at hc;simp at hc
   refine aO (lm1 ok (af e1 rfl rfl rfl) (aw ok (ML.in_E M1.inst) ML.in_o rfl nofun nofun nofun) (bY decl_name% (af x.e3 rfl rfl rfl) (eL (Px.mono decl_name% isI) (Px.mono (af x.e2 rfl rfl rfl) isI) op_ltI rfl) rfl rfl rfl) (ar3 ?_) nofun rfl rfl rfl) rfl rfl
   generalize hst:(if decide ((i:Int) < (av:Int)) then cH k.R e else bM k.R e) = st1
   have hf:backOf k.R st1 = bwdTo av e i k:=by unfold bwdTo;rw [← hst,pe_eq,if_neg hia]
   refine lx_kid (D':=D + 5 + 1) ok K1 hk1 (fun h1 h2 h3=>hst ▸ K1.other S M1 hk1 he h1 h2 h3) (fun fp' ha K2=>?_) rfl (by omega)
   have hi1:=(List.getElem?_eq_some_iff.mp hk1).1
   have hk2:(ks₁.set i { k with fp:=fp',st:=st1 })[i]? = some { k with fp:=fp',st:=st1 }:=List.getElem?_set_self hi1
   refine aD (px_kid ok M1 K2 hk2 e1 ⟨_,rfl,t,rfl⟩ rfl rfl rfl rfl (fun O=>nofun)) (fun v hv=>?_) rfl rfl rfl
   subst hv
   have hC2:=(K2.kids.cur _ (List.mem_of_getElem? hk2))
   have hcall:=S.valid hC2.1 (E0:=ML c (-1) tc1 going tg tops₁ (ks₁.set i { k with fp:=fp',st:=st1 }) ((I,oI)::E)) fun p hp=>ML.in_E (M1.sub p hp)
   refine dh (BkT C r0 c ((I,oI)::E) (-1) tc1 going tg tops₁ ks₁ i k (bwdTo av e i k) (ms (ms m₁ "i" (.int (i:Int) t)) "child" (.ref k.c))) (bt (pm0 ok decl_name% (bD ok S hC2.1 (K2.subk M1 hk2) .valid) (ar ok hcall (fun r fp' h=>h.1) (fun p hp=>K2.subk M1 hk2 p (aL hp)) rfl (by omega)) (aP _ _ _) rfl) rfl) (fun hc ψ kψ=>?_) (fun hc ψ kψ=>?_) (fun m' led' h=>?_) fun f m' led' hfl h=>?_
   ·obtain ⟨j,rfl⟩:=Option.isSome_iff_exists.mp hc
    refine aO (lm0 ok decl_name% (bD ok S hC2.1 (K2.subk M1 hk2) .back) (lx_kid (D':=D) ok K2 hk2 (fun h1 O h3=>SF.back hC2 h1 h3) (fun fp2 ha2 K3=>?_) rfl (by omega)) (aP _ _ _) rfl) rfl rfl
    rw [List.set_set] at K3 ⊢
    exact ae (kψ .next _ _ (hf ▸ .mk fp2 (ha2.trans ha) K3))
   ·obtain rfl:st1 = none:=by cases st1 with | none=>rfl | some j=>cases hc
    refine aO (lm0 ok decl_name% (bD ok S hC2.1 (K2.subk M1 hk2) .last) (lx_kid (D':=D) ok K2 hk2 (fun h1 O h3=>SF.last hC2 h1 h3) (fun fp2 ha2 K3=>?_) rfl (by omega)) (aP _ _ _) rfl) rfl rfl
    rw [List.set_set] at K3 ⊢
    exact ae (kψ .next _ _ (hf ▸ .mk fp2 (ha2.trans ha) K3))
   ·obtain ⟨fp2,ha2,K3⟩:=h
    exact sx_lookP ok S M1 hk P ha2 K3 e1 ⟨_,rfl,t,rfl⟩ (fun tops₂ P2=>ae (ae (kn _ _ tops₂ e1 ⟨x.e2,x.e3⟩ K3 P2))) rfl rfl rfl rfl (by omega) rfl rfl rfl rfl
   ·cases h
    exact absurd rfl hfl
  ·have hia:i = av:=nat_of_ne hc
   subst hia
   rw [hka] at hk
   cases hk
   exact ae (kn _ ks₁ tops₁ e1 ⟨x.e2,x.e3⟩ K1 (P.skip hka (if_pos rfl) htv (by rw [hkey];exact ⟨te,rfl⟩)))
 ·refine eH ok M K1 e1 (Px.mono (af x.e2 rfl rfl rfl) isI) (fun t=>?_) rfl rfl rfl
  refine sx_going ok M K1 e1 (au ok nofun rfl rfl rfl) (fun t2=>?_) rfl rfl rfl
  exact ae (kφ .next m' (_::_::aC ks') (.mk t t2 tops' ks' K1 mv ht))
end
end
section
open PySem PySem.W PyProof.Rows
set_option tactic.hygienic false
theorem ci.one {ks:List KS} {av:Nat} {ka:KS} {fp':Led} {st':Option Nat} (hk:ks[av]? = some ka) (ha:ak fp' ka.fp):ci (fun i k=>if i = av then st' else k.st) ks (ks.set av { ka with fp:=fp',st:=st' }) where
 len:=by rw [List.length_set]
 at_:=fun i k hi=>by
  by_cases e:av = i
  ·subst e
   rw [hk] at hi;cases hi
   refine ⟨fp',?_,ha⟩
   rw [List.getElem?_set_self (List.getElem?_eq_some_iff.mp hk).1,if_pos rfl]
  ·refine ⟨k.fp,?_,rfl⟩
   rw [List.getElem?_set_ne e,hi,if_neg (fun h=>e h.symm)]
theorem bk.set {tops:Array Value} {ks:List KS} {av:Nat} {k2:KS} {v:Value} (h:bk tops (ks.map KS.key)) (hv:TopV k2.key v):bk (tops.setIfInBounds av v) ((ks.set av k2).map KS.key):=by
 refine ⟨by rw [Array.size_setIfInBounds,List.length_map,List.length_set];simpa using h.1,fun i k hk=>?_⟩
 rw [List.getElem?_map] at hk
 by_cases e:av = i
 ·subst e
  obtain ⟨k',hk',rfl⟩:=Option.map_eq_some_iff.mp hk
  have hl:av < ks.length:=by
   have:=(List.getElem?_eq_some_iff.mp hk').1
   rwa [List.length_set] at this
  rw [List.getElem?_set_self hl] at hk'
  cases hk'
  have hs:av < tops.size:=by have:=h.1;rw [List.length_map] at this;omega
  exact ⟨v,by rw [Array.getElem?_setIfInBounds_self_of_lt hs],hv⟩
 ·rw [List.getElem?_set_ne e] at hk
  obtain ⟨v2,a,b⟩:=h.2 i k (by rw [List.getElem?_map];exact hk)
  exact ⟨v2,by rw [Array.getElem?_setIfInBounds_ne e];exact a,b⟩
theorem ci.adr {f:Nat→KS→Option Nat} {ks ks':List KS} (h:ci f ks ks'):∀ p∈aC ks',∃ p'∈aC ks,p'.1 = p.1:=fun p hp=>by
 obtain ⟨k,hk,hp⟩:=List.mem_flatMap.mp hp
 obtain ⟨i,hi⟩:=List.mem_iff_getElem?.mp hk
 have hl:i < ks.length:=by rw [← h.len];exact (List.getElem?_eq_some_iff.mp hi).1
 obtain ⟨fp',a,b⟩:=h.at_ i _ (List.getElem?_eq_getElem hl)
 rw [hi] at a
 cases a
 have:p.1∈(ks[i]).fp.map (·.1):=b ▸ List.mem_map_of_mem hp
 obtain ⟨p',hp',e⟩:=List.mem_map.mp this
 exact ⟨p',bS (List.getElem_mem hl) p' hp',e⟩
section
variable {w:World} {dp un:Nat} {gd:Option (List Code)} {cn:Str} {cs:Scope} {a:Addr} {ccd:Value} {cl:List (Str × Addr)} {outer:List Env} {A₀:Around} {base h₀:Heap} {L:Addr} {m mg mb:MM} {mean:ExcName→Option Value} {s:Shared} {rest:Led}
 {Q E:VS} {D:Nat} {C:aN} {x dx ch tp o:Addr} {q:MP} {cur going:Int} {tc tg:Tok} {tops:Array Value} {nt:Nat} {ks:List KS} {kc:KS}
end
end
section
open PySem PySem.W PyProof.Rows
set_option maxHeartbeats 8000000
set_option maxRecDepth 100000
set_option tactic.hygienic false
noncomputable def stay (_:Nat) (k:KS):Option Nat:=k.st
theorem ci.stay {ks:List KS}:ci stay ks ks:=⟨rfl,fun i k h=>⟨k.fp,h,rfl⟩⟩
noncomputable def fwdG (going:Int) (av:Nat) (e:IK):Nat→KS→Option Nat:=if going = 0 then stay else fwdTo av e
noncomputable def bwdG (going:Int) (av:Nat) (e:IK):Nat→KS→Option Nat:=if going = 1 then stay else bwdTo av e
theorem fwdG_av {going:Int} {av:Nat} {e:IK} {k:KS}:fwdG going av e av k = k.st:=by unfold fwdG;split;rfl;exact if_pos rfl
theorem bwdG_av {going:Int} {av:Nat} {e:IK} {k:KS}:bwdG going av e av k = k.st:=by unfold bwdG;split;rfl;exact if_pos rfl
inductive StT (C:aN) (r0:Led) (c:MK) (E:Led) (cur going:Int) (g:Nat→KS→Option Nat) (ks:List KS) (M:MM):Flow→MM→Led→Prop
 | mk (tc tg:Tok) (tops₁:Array Value) (ks₁:List KS) (K:Kd C r0 c E ks₁) (mv:ci g ks ks₁) (ht:bk tops₁ (ks₁.map KS.key)):StT C r0 c E cur going g ks M .next M (ML c cur tc going tg tops₁ ks₁ E)
inductive MsP (C:aN) (r0:Led) (c:MK) (E:Led) (g f:Nat→KS→Option Nat) (ks:List KS) (cur:List KS→Int) (going:Int):Value→Led→Prop
 | mk (t t2:Tok) (tops':Array Value) (ks₁ ks':List KS) (K:Kd C r0 c E ks') (mv1:ci g ks ks₁) (mv:ci f ks₁ ks') (ht:bk tops' (ks'.map KS.key)):MsP C r0 c E g f ks cur going .none ((c.dx,c.obj (cur ks') t going t2)::(c.tp,listOf tops' c.nt)::aC ks')
theorem bk.sz {tops:Array Value} {ks:List KS} (h:bk tops (ks.map KS.key)):tops.size = ks.length:=by have:=h.1;rwa [List.length_map] at this
section
variable {w:World} {D D':Nat} {C:aN} {r0 E:Led} {c:MK} {ks:List KS} {going:Int} {tc tg:Tok} {tops:Array Value}
theorem top_at {ka:KS} {av ia:Nat} {y:Row} (hka:ks[av]? = some ka) (hst:ka.st = some ia) (hy:ka.R[ia]? = some y) (ht:bk tops (ks.map KS.key)):ka.key = some y.1∧∃ te,tops[av]? = some (.bytes (ikb y.1) te):=by
 have hkey:ka.key = some y.1:=by unfold KS.key;rw [hst,Option.bind_some,hy];rfl
 obtain ⟨v,hv,hv2⟩:=ht.2 av ka.key (by rw [List.getElem?_map,hka];rfl)
 rw [hkey] at hv2
 obtain ⟨te,rfl⟩:=hv2
 exact ⟨hkey,te,hv⟩
theorem mstep_c {ka:KS} {av ia:Nat} {y:Row} (S:al w D C) (M:Me c r0 E) (K:Kd C r0 c E ks) (hka:ks[av]? = some ka) (hst:ka.st = some ia) (hy:ka.R[ia]? = some y) (ht:bk tops (ks.map KS.key)) (hg:going = 0 ∨ going = 1) :
  am w (D + 13 + 1) 482 [.ref c.x] ((c.dx,c.obj ((av:Nat):Int) tc going tg)::(c.tp,listOf tops c.nt)::aC ks) E (MsP C r0 c E (fwdG going av y.1) (fun i k=>if i = av then dn ka.R ia else k.st) ks (fun ks'=>aA (ks'.map KS.key) (ks'.map KS.key).length) 0):=by
 obtain ⟨hkey,te,htv⟩:=top_at hka hst hy ht
 have hye:y.1.Ok:=S.ok (K.kids.cur ka (List.mem_of_getElem? hka)).1 y (List.mem_of_getElem? hy)
 have SF:=S.fix r0
 refine' ai (binds:=[("self",.ref c.x)]) ?ho ?hcd ?hb ?hl ?c1 ?c2 ?c3 ?c4 ?_
 fail "e"
 intro bb ok φ kφ
 show Lx w _ bb _ φ _ (ML c ((av:Nat):Int) tc going tg tops ks E)
 refine sx_mneed ok (.tail _ (aR M.inst)) (by omega) rfl ?_ rfl rfl (by omega) rfl rfl rfl
 refine dh (StT C r0 c E ((av:Nat):Int) 0 (fwdG going av y.1) ks (fun y=>([("self",Value.ref c.x)]:List (Str × Value)).reverse.lookup y)) (pc_neI (Px.mono (ag ok rfl (.tail _ (.tail _ (aR M.inst))) (.head _) rfl rfl (by fail "p") nofun (by fail "q") nofun rfl rfl rfl rfl) isI) (au ok nofun rfl rfl rfl) rfl) (fun hc ψ kψ=>?_) (fun hc ψ kψ=>ae (kψ .next _ _ ?_)) (fun m' led' h=>?_) fun f m' led' hfl h=>?_
 ·have h1:going = 1:=by
   rcases hg with rfl | h
   ·cases hc
   ·exact h
  subst h1
  refine aO (lm0 ok decl_name% (aw ok (.tail _ (.tail _ (aR M.inst))) (.head _) rfl nofun nofun nofun) (aX ok rfl (by omega) (tfwd_c S M K ht.sz hka hkey hye htv) (fun O h=>h) fun r fp' hp=>?_) nofun rfl) rfl rfl
  obtain ⟨t,t2,tops',ks',K',mv,ht'⟩:=hp
  exact ae (kψ .next _ _ (.mk t t2 tops' ks' K' mv ht'))
 ·have h0:going = 0:=by
   rcases hg with h | rfl
   ·exact h
   ·cases hc
  subst h0
  exact .mk tc tg tops ks K .stay ht
 ·obtain ⟨tc1,tg1,tops₁,ks₁,K1,mv1,ht1⟩:=h
  obtain ⟨fp1,hk1,ha1⟩:=mv1.at_ av ka hka
  rw [fwdG_av,hst] at hk1
  refine aD (ag ok rfl (ML.in_E M.inst) ML.in_o rfl rfl (by fail "p") nofun (by fail "q") nofun rfl rfl rfl rfl) (fun v hv=>?_) rfl rfl rfl
  subst hv
  refine eH ok M K1 rfl (cQ ab) (fun tc2=>?_) rfl rfl rfl
  have hC1:=K1.kids.cur _ (List.mem_of_getElem? hk1)
  refine aO (lm0 ok (px_kid ok M K1 hk1 rfl ⟨_,rfl,_,rfl⟩ rfl rfl rfl rfl (fun O=>nofun)) (bD ok S hC1.1 (K1.subk M hk1) .step) (lx_kid (D':=D) ok K1 hk1 (fun h1 O h3=>SF.step hC1 h1 h3) (fun fp2 ha2 K2=>?_) rfl (by omega)) (aP _ _ _) rfl) rfl rfl
  have hk2:=List.getElem?_set_self (l:=ks₁) (i:=av) (a:=({ ka with fp:=fp2,st:=dn ka.R ia }:KS)) (List.getElem?_eq_some_iff.mp hk1).1
  refine sx_look (k:={ ka with fp:=fp2,st:=dn ka.R ia }) ok S M K2 (by rw [List.length_set];exact ht1.sz) hk2 rfl ⟨_,rfl,_,rfl⟩ (fun v hv=>?_) rfl rfl rfl rfl (by omega) rfl rfl rfl rfl
  refine sx_least ok S M K2 (ht1.set hv) rfl (fun t=>?_) rfl rfl (by omega) rfl rfl rfl
  exact ae (kφ .next _ (_::_::aC _) (.mk t tg1 _ ks₁ _ K2 mv1 (ci.one hk1 ha2) (ht1.set hv)))
 ·cases h
  exact absurd rfl hfl
theorem mback_c {ka:KS} {av ia:Nat} {y:Row} (S:al w D C) (M:Me c r0 E) (K:Kd C r0 c E ks) (hka:ks[av]? = some ka) (hst:ka.st = some ia) (hy:ka.R[ia]? = some y) (ht:bk tops (ks.map KS.key)) (hg:going = 0 ∨ going = 1) :
  am w (D + 13 + 1) 489 [.ref c.x] ((c.dx,c.obj ((av:Nat):Int) tc going tg)::(c.tp,listOf tops c.nt)::aC ks) E (MsP C r0 c E (bwdG going av y.1) (fun i k=>if i = av then prevAt ia else k.st) ks (fun ks'=>aB (ks'.map KS.key) (ks'.map KS.key).length) 1):=by
 revert w D C r0 E c ks going tc tg tops ka av ia y
 refine no_implicit_lambda% (aW ?_)
 refine no_implicit_lambda% (e16 ?n fun T0=>(?_:bp T0) () _ _ _ _ _ _ _ _ _ _ _ _ _ _ _)
 case n=>fail "n"
 intro O w D C r0 E c ks going tc tg tops ka av ia y
 intros
 clear T0
 obtain ⟨hkey,te,htv⟩:=top_at hka hst hy ht
 have hye:y.1.Ok:=S.ok (K.kids.cur ka (List.mem_of_getElem? hka)).1 y (List.mem_of_getElem? hy)
 have SF:=S.fix r0
 refine' ai (binds:=[("self",.ref c.x)]) ?ho ?hcd ?hb ?hl ?c1 ?c2 ?c3 ?c4 ?_
 fail "e"
 intro bb ok φ kφ
 show Lx w _ bb _ φ _ (ML c ((av:Nat):Int) tc going tg tops ks E)
 refine sx_mneed ok (.tail _ (aR M.inst)) (by omega) rfl ?_ rfl rfl (by omega) rfl rfl rfl
 refine dh (StT C r0 c E ((av:Nat):Int) 1 (bwdG going av y.1) ks (fun y=>([("self",Value.ref c.x)]:List (Str × Value)).reverse.lookup y)) (pc_neI (Px.mono (ag ok rfl (.tail _ (.tail _ (aR M.inst))) (.head _) rfl rfl (by fail "p") nofun (by fail "q") nofun rfl rfl rfl rfl) isI) (au ok nofun rfl rfl rfl) rfl) (fun hc ψ kψ=>?_) (fun hc ψ kψ=>ae (kψ .next _ _ ?_)) (fun m' led' h=>?_) fun f m' led' hfl h=>?_
 ·have h1:going = 0:=by
   rcases hg with h | rfl
   ·exact h
   ·cases hc
  subst h1
  refine aO (lm0 ok decl_name% (aw ok (.tail _ (.tail _ (aR M.inst))) (.head _) rfl nofun nofun nofun) (aX ok rfl (by omega) (tbwd_c S M K ht.sz hka hkey hye htv) (fun O h=>h) fun r fp' hp=>?_) nofun rfl) rfl rfl
  obtain ⟨t,t2,tops',ks',K',mv,ht'⟩:=hp
  exact ae (kψ .next _ _ (.mk t t2 tops' ks' K' mv ht'))
 ·have h0:going = 1:=by
   rcases hg with rfl | h
   ·cases hc
   ·exact h
  subst h0
  exact .mk tc tg tops ks K .stay ht
 ·obtain ⟨tc1,tg1,tops₁,ks₁,K1,mv1,ht1⟩:=h
  obtain ⟨fp1,hk1,ha1⟩:=mv1.at_ av ka hka
  rw [bwdG_av,hst] at hk1
  refine aD (ag ok rfl (ML.in_E M.inst) ML.in_o rfl rfl (by fail "p") nofun (by fail "q") nofun rfl rfl rfl rfl) (fun v hv=>?_) rfl rfl rfl
  subst hv
  refine eH ok M K1 rfl (cQ ab) (fun tc2=>?_) rfl rfl rfl
  have hC1:=K1.kids.cur _ (List.mem_of_getElem? hk1)
  refine aO (lm0 ok (px_kid ok M K1 hk1 rfl ⟨_,rfl,_,rfl⟩ rfl rfl rfl rfl (fun O=>nofun)) (bD ok S hC1.1 (K1.subk M hk1) .back) (lx_kid (D':=D) ok K1 hk1 (fun h1 O h3=>SF.back hC1 h1 h3) (fun fp2 ha2 K2=>?_) rfl (by omega)) (aP _ _ _) rfl) rfl rfl
  have hk2:=List.getElem?_set_self (l:=ks₁) (i:=av) (a:=({ ka with fp:=fp2,st:=prevAt ia }:KS)) (List.getElem?_eq_some_iff.mp hk1).1
  refine sx_look (k:={ ka with fp:=fp2,st:=prevAt ia }) ok S M K2 (by rw [List.length_set];exact ht1.sz) hk2 rfl ⟨_,rfl,_,rfl⟩ (fun v hv=>?_) rfl rfl rfl rfl (by omega) rfl rfl rfl rfl
  refine sx_great ok S M K2 (ht1.set hv) rfl (fun t=>?_) rfl rfl (by omega) rfl rfl rfl
  exact ae (kφ .next _ (_::_::aC _) (.mk t tg1 _ ks₁ _ K2 mv1 (ci.one hk1 ha2) (ht1.set hv)))
 ·cases h
  exact absurd rfl hfl
end
end
section
open PySem PySem.W PyProof.Rows
set_option tactic.hygienic false
theorem order_refl:∀ a:List UInt8,Builtin.Bytes.order a a = .eq
 | []=>rfl
 | x::a=>by
  simp only [Builtin.Bytes.order]
  rw [if_neg (UInt8.lt_irrefl x),if_neg (UInt8.lt_irrefl x),order_refl a]
theorem order_eq:∀ a b:List UInt8,Builtin.Bytes.order a b = .eq→a = b
 | [],[],_=>rfl
 | [],_::_,h=>by cases h
 | _::_,[],h=>by cases h
 | x::a,y::b,h=>by
  simp only [Builtin.Bytes.order] at h
  by_cases h1:x < y
  ·rw [if_pos h1] at h;cases h
  ·rw [if_neg h1] at h
   by_cases h2:y < x
   ·rw [if_pos h2] at h;cases h
   ·rw [if_neg h2] at h
    have e:=order_eq a b h
    have e2:x = y:=UInt8.le_antisymm (UInt8.not_lt.mp h2) (UInt8.not_lt.mp h1)
    rw [e,e2]
theorem order_trans:∀ a b c:List UInt8,Builtin.Bytes.order a b = .lt→Builtin.Bytes.order b c = .lt→Builtin.Bytes.order a c = .lt
 | [],[],_,h,_=>by cases h
 | [],_::_,[],_,h=>by cases h
 | [],_::_,_::_,_,_=>rfl
 | _::_,[],_,h,_=>by cases h
 | _::_,_::_,[],_,h=>by cases h
 | x::a,y::b,z::c,h,g=>by
  simp only [Builtin.Bytes.order] at h g ⊢
  by_cases h1:x < y
  ·by_cases g1:y < z
   ·rw [if_pos (UInt8.lt_trans h1 g1)]
   ·rw [if_neg g1] at g
    by_cases g2:z < y
    ·rw [if_pos g2] at g;cases g
    ·have e:y = z:=UInt8.le_antisymm (UInt8.not_lt.mp g2) (UInt8.not_lt.mp g1)
     rw [← e,if_pos h1]
  ·rw [if_neg h1] at h
   by_cases h2:y < x
   ·rw [if_pos h2] at h;cases h
   ·rw [if_neg h2] at h
    have e:x = y:=UInt8.le_antisymm (UInt8.not_lt.mp h2) (UInt8.not_lt.mp h1)
    rw [e]
    by_cases g1:y < z
    ·rw [if_pos g1]
    ·rw [if_neg g1] at g ⊢
     by_cases g2:z < y
     ·rw [if_pos g2] at g;cases g
     ·rw [if_neg g2] at g ⊢
      exact order_trans a b c h g
theorem ltB_iff (a b:Array UInt8):ltB a b = true ↔ Builtin.Bytes.order a.toList b.toList = .lt:=by
 unfold ltB;cases Builtin.Bytes.order a.toList b.toList <;> decide
theorem bj (a:Array UInt8):ltB a a = false:=by unfold ltB;rw [order_refl];rfl
theorem cw {a b c:Array UInt8} (h:ltB a b = true) (g:ltB b c = true):ltB a c = true :=
 (ltB_iff _ _).mpr (order_trans _ _ _ ((ltB_iff _ _).mp h) ((ltB_iff _ _).mp g))
theorem ltB_asymm {a b:Array UInt8} (h:ltB a b = true):ltB b a = false:=by
 cases g:ltB b a with
 | false=>rfl
 | true=>have:=cw h g;rw [bj] at this;cases this
theorem bZ {a b:Array UInt8} (h:ltB a b = false) (g:ltB b a = false):a = b:=by
 apply Array.toList_inj.mp
 apply order_eq
 cases e:Builtin.Bytes.order a.toList b.toList with
 | eq=>rfl
 | lt=>unfold ltB at h;rw [e] at h;cases h
 | gt =>
  have:=order_swap a.toList b.toList
  rw [e] at this
  unfold ltB at g
  rw [← this] at g
  cases g
theorem ltB_le_trans {a b c:Array UInt8} (h:ltB b a = false) (g:ltB c b = false):ltB c a = false:=by
 cases e:ltB c a with
 | false=>rfl
 | true =>
  cases f:ltB a b with
  | true=>have:=cw e f;rw [this] at g;cases g
  | false=>have:=bZ h f;rw [this,e] at g;cases g
theorem eT (a b:IK):aV a b < 0 ↔ ltB a.u b.u = true ∨ (a.u = b.u∧b.tag < a.tag):=by
 unfold aV
 by_cases h1:ltB a.u b.u = true
 ·simp [h1]
 ·by_cases h2:ltB b.u a.u = true
  ·rw [if_neg h1,if_pos h2]
   have:a.u≠b.u:=fun e=>by rw [e,bj] at h2;cases h2
   simp [h1,this]
  ·have e:a.u = b.u:=bZ (by simpa using h1) (by simpa using h2)
   rw [if_neg h1,if_neg h2]
   simp only [e,bj,true_and]
   split
   ·simp_all
   ·split <;> simp_all
theorem cmpI_eq (a b:IK):aV a b = 0 ↔ a.u = b.u∧a.tag = b.tag:=by
 unfold aV
 by_cases h1:ltB a.u b.u = true
 ·have:a.u≠b.u:=fun e=>by rw [e,bj] at h1;cases h1
  simp [h1,this]
 ·by_cases h2:ltB b.u a.u = true
  ·rw [if_neg h1,if_pos h2]
   have:a.u≠b.u:=fun e=>by rw [e,bj] at h2;cases h2
   simp [this]
  ·have e:a.u = b.u:=bZ (by simpa using h1) (by simpa using h2)
   rw [if_neg h1,if_neg h2]
   simp only [e,true_and]
   split
   ·constructor <;> intro <;> omega
   ·split
    ·constructor <;> intro <;> omega
    ·constructor <;> intro <;> omega
theorem eU (a b:IK):0 < aV a b ↔ aV b a < 0:=by
 have h1:=eT a b
 have h2:=eT b a
 have h3:=cmpI_eq a b
 constructor
 ·intro h
  rw [h2]
  by_cases e1:ltB b.u a.u = true
  ·exact .inl e1
  ·right
   by_cases e2:ltB a.u b.u = true
   ·have:=h1.mpr (.inl e2);omega
   ·have e:a.u = b.u:=bZ (by simpa using e2) (by simpa using e1)
    refine ⟨e.symm,?_⟩
    by_cases g1:b.tag < a.tag
    ·have:=h1.mpr (.inr ⟨e,g1⟩);omega
    ·by_cases g2:a.tag = b.tag
     ·have:=h3.mpr ⟨e,g2⟩;omega
     ·omega
 ·intro h
  have h':=h2.mp h
  have n1:¬ aV a b < 0:=fun g=>by
   rcases h1.mp g with g | ⟨g,g'⟩ <;> rcases h' with k | ⟨k,k'⟩
   ·rw [ltB_asymm g] at k;cases k
   ·rw [k,bj] at g;cases g
   ·rw [g,bj] at k;cases k
   ·omega
  have n2:¬ aV a b = 0:=fun g=>by
   have g:=h3.mp g
   rcases h' with k | ⟨k,k'⟩
   ·rw [g.1,bj] at k;cases k
   ·omega
  omega
theorem cmpI_self (a:IK):aV a a = 0:=(cmpI_eq a a).mpr ⟨rfl,rfl⟩
theorem cmpI_le (a b:IK):aV a b≤0 ↔ ltB b.u a.u = false∧(a.u = b.u→b.tag≤a.tag):=by
 have h:=eU a b
 rw [eT] at h
 have:aV a b≤0 ↔ ¬ (ltB b.u a.u = true ∨ (b.u = a.u∧a.tag < b.tag)):=by rw [← h];omega
 rw [this]
 simp only [not_or,Bool.not_eq_true,not_and,Int.not_lt]
 constructor
 ·rintro ⟨x,y⟩;exact ⟨x,fun e=>y e.symm⟩
 ·rintro ⟨x,y⟩;exact ⟨x,fun e=>y e.symm⟩
theorem cmpI_trans {a b c:IK} (h:aV a b≤0) (g:aV b c≤0):aV a c≤0:=by
 rw [cmpI_le] at h g ⊢
 refine ⟨ltB_le_trans h.1 g.1,fun e=>?_⟩
 have e1:a.u = b.u:=by
  refine bZ ?_ h.1
  rw [e];exact g.1
 have:=h.2 e1
 have:=g.2 (e1 ▸ e)
 omega
theorem ec {a b c:IK} (h:aV a b≤0) (g:aV b c < 0):aV a c < 0:=by
 rcases Int.lt_or_le (aV a c) 0 with k | k
 ·exact k
 ·exfalso
  have k2:aV c a≤0:=by have:=eU c a;omega
  have:=cmpI_trans k2 h
  have:=eU c b
  omega
abbrev MZ:=List (Row × Nat)
noncomputable def Zord (a b:Row × Nat):Prop:=aV a.1.1 b.1.1 < 0 ∨ (aV a.1.1 b.1.1 = 0∧a.2≤b.2)
noncomputable def ay (Z:MZ) (k:Nat):List Row:=(Z.filter fun z=>z.2 == k).map (·.1)
noncomputable def cnt (Z:MZ) (k j:Nat):Nat:=(ay (Z.take j) k).length
noncomputable def bH (n:Nat):Option Nat:=if n = 0 then none else some (n - 1)
theorem bU (A B:MZ) (k:Nat):ay (A++B) k = ay A k++ay B k:=by simp [ay]
theorem cG (Z:MZ) (k j:Nat):ay Z k = ay (Z.take j) k++ay (Z.drop j) k:=by rw [← bU,List.take_append_drop]
theorem cT {Z:MZ} {k:Nat} {x:Row}:x∈ay Z k ↔ (x,k)∈Z:=by
 unfold ay
 simp only [List.mem_map,List.mem_filter,beq_iff_eq]
 constructor
 ·rintro ⟨⟨y,b⟩,⟨h,rfl⟩,rfl⟩;exact h
 ·exact fun h=>⟨(x,k),⟨h,rfl⟩,rfl⟩
theorem cnt_le (Z:MZ) (k j:Nat):cnt Z k j≤(ay Z k).length:=by rw [cG Z k j,List.length_append];unfold cnt;omega
theorem key_fwd (Z:MZ) (k j:Nat):((bi (ay Z k) (cnt Z k j)).bind fun i=>((ay Z k)[i]?).map (·.1)) = ((ay (Z.drop j) k).head?).map (·.1):=by
 have e:(ay Z k)[cnt Z k j]? = (ay (Z.drop j) k).head?:=by
  rw [cG Z k j,List.getElem?_append_right (by unfold cnt;exact Nat.le_refl _)]
  unfold cnt
  rw [Nat.sub_self,List.head?_eq_getElem?]
 unfold bi
 by_cases h:cnt Z k j < (ay Z k).length
 ·rw [if_pos h,Option.bind_some,e]
 ·rw [if_neg h,Option.bind_none,← e,List.getElem?_eq_none (Nat.le_of_not_lt h),Option.map_none]
theorem key_bwd (Z:MZ) (k j:Nat):((bH (cnt Z k j)).bind fun i=>((ay Z k)[i]?).map (·.1)) = ((ay (Z.take j) k).getLast?).map (·.1):=by
 unfold bH
 by_cases h:cnt Z k j = 0
 ·rw [if_pos h,Option.bind_none]
  have:ay (Z.take j) k = []:=List.eq_nil_of_length_eq_zero h
  rw [this];rfl
 ·rw [if_neg h,Option.bind_some]
  congr 1
  have hlt:cnt Z k j - 1 < (ay (Z.take j) k).length:=by unfold cnt at *;omega
  rw [cG Z k j,List.getElem?_append_left hlt,List.getLast?_eq_getElem?]
  rfl
theorem leastTo_is {keys:List (Option IK)} {b:Nat} {e:IK} (hb:bl keys b = some e) (lo:∀ i:Nat,i < b→∀ f,bl keys i = some f→aV e f < 0) :
  ∀ n,b < n→(∀ i:Nat,b < i→i < n→∀ f,bl keys i = some f→¬ aV f e < 0)→aA keys n = b
 | 0,h,_=>absurd h (Nat.not_lt_zero _)
 | n + 1,h,hi=>by
  rw [aA]
  by_cases e1:b = n
  ·subst e1
   rw [hb]
   simp only
   split
   ·rfl
   ·rename_i h0
    rcases eQ keys b with s | ⟨s1,s2,f,s3⟩
    ·exact absurd s h0
    ·rw [s3]
     simp only
     have:aA keys b = ((aA keys b).toNat:Int):=by omega
     rw [this] at s3
     rw [if_pos (lo _ (by omega) f s3)]
  ·have ih:=leastTo_is hb lo n (by omega) fun i h1 h2=>hi i h1 (by omega)
   cases he:bl keys (n:Int) with
   | none=>exact ih
   | some f =>
    simp only
    rw [ih,if_neg (by omega),hb]
    simp only
    rw [if_neg (hi n (by omega) (by omega) f he)]
theorem leastTo_neg {keys:List (Option IK)}:∀ n,(∀ i:Nat,i < n→bl keys i = none)→aA keys n = -1
 | 0,_=>rfl
 | n + 1,h=>by
  rw [aA,h n (by omega)]
  exact leastTo_neg n fun i hi=>h i (by omega)
theorem greatOf_spec2 (keys:List (Option IK)):∀ c,c≤keys.length→aB keys c < 0 ∨ (((keys.length - c:Nat):Int)≤aB keys c∧∃ f,bl keys (aB keys c) = some f)
 | 0,_=>.inl (by unfold aB;decide)
 | c + 1,hc=>by
  have ih:=greatOf_spec2 keys c (by omega (splitNatSub:=true))
  have up:aB keys c < 0 ∨ (((keys.length - (c + 1):Nat):Int)≤aB keys c∧∃ f,bl keys (aB keys c) = some f):=by
   rcases ih with h | ⟨a,b⟩
   ·exact .inl h
   ·exact .inr ⟨by omega (splitNatSub:=true),b⟩
  unfold aB
  cases he:bl keys ((keys.length - (c + 1):Nat):Int) with
  | none=>exact up
  | some e =>
   have here:((keys.length - (c + 1):Nat):Int) < 0 ∨ (((keys.length - (c + 1):Nat):Int)≤((keys.length - (c + 1):Nat):Int)∧∃ f,bl keys ((keys.length - (c + 1):Nat):Int) = some f):=.inr ⟨by omega (splitNatSub:=true),e,he⟩
   simp only
   split
   ·exact here
   ·split
    ·exact up
    ·split
     ·exact here
     ·exact up
theorem greatOf_is {keys:List (Option IK)} {b:Nat} {e:IK} (hb:bl keys b = some e) (hi:∀ i:Nat,b < i→∀ f,bl keys i = some f→0 < aV e f) :
  ∀ c,c≤keys.length→keys.length - c≤b→b < keys.length→(∀ i:Nat,i < b→keys.length - c≤i→∀ f,bl keys i = some f→¬ 0 < aV f e)→aB keys c = b
 | 0,_,h,h',_=>by omega
 | c + 1,hc,h,h',lo=>by
  rw [aB]
  by_cases e1:b = keys.length - (c + 1)
  ·rw [← e1,hb]
   simp only
   split
   ·rfl
   ·rename_i h0
    rcases greatOf_spec2 keys c (by omega) with s | ⟨s1,f,s3⟩
    ·exact absurd s h0
    ·rw [s3]
     simp only
     have:aB keys c = ((aB keys c).toNat:Int):=by omega
     rw [this] at s3
     rw [if_pos (hi _ (by omega) f s3)]
  ·have ih:=greatOf_is hb hi c (by omega) (by omega) h' fun i h1 h2=>lo i h1 (by omega)
   cases he:bl keys ((keys.length - (c + 1):Nat):Int) with
   | none=>exact ih
   | some f =>
    simp only
    rw [ih,if_neg (by omega),hb]
    simp only
    rw [if_neg (lo _ (by omega) (by omega) f he)]
theorem greatOf_neg {keys:List (Option IK)} (h:∀ i:Nat,bl keys i = none):∀ c,aB keys c = -1
 | 0=>rfl
 | c + 1=>by
  rw [aB,h]
  exact greatOf_neg h c
theorem keyAt_of {keys:List (Option IK)} {n:Nat} {g:Nat→Option IK} (hn:keys.length = n) (hk:∀ i,i < n→keys[i]? = some (g i)) (i:Nat):bl keys (i:Int) = if i < n then g i else none:=by
 rw [keyAt_nat]
 by_cases h:i < n
 ·rw [if_pos h,hk i h];rfl
 ·rw [if_neg h,List.getElem?_eq_none (by omega)];rfl
theorem fwd_least {keys:List (Option IK)} {n j:Nat} {Z:MZ} (hn:keys.length = n) (hk:∀ i,i < n→keys[i]? = some (((ay (Z.drop j) i).head?).map (·.1))) (hs:Z.Pairwise Zord) (hz:∀ z∈Z,z.2 < n) :
  aA keys n = match Z[j]? with | none=>-1 | some z=>(z.2:Int):=by
 have hat:=keyAt_of hn hk
 cases hj:Z[j]? with
 | none =>
  have hd:Z.drop j = []:=List.drop_eq_nil_of_le (by have:=List.getElem?_eq_none_iff.mp hj;omega (splitNatSub:=true))
  refine leastTo_neg n fun i hi=>?_
  rw [hat,if_pos hi,hd];rfl
 | some z =>
  have hl:=(List.getElem?_eq_some_iff.mp hj).1
  have hd:Z.drop j = z::Z.drop (j + 1):=by rw [List.drop_eq_getElem_cons hl,(List.getElem?_eq_some_iff.mp hj).2]
  have hp:(z::Z.drop (j + 1)).Pairwise Zord:=hd ▸ hs.sublist (List.drop_sublist j Z)
  have hp1:=(List.pairwise_cons.mp hp).1
  have hself:ay (Z.drop j) z.2 = z.1::ay (Z.drop (j + 1)) z.2:=by
   rw [hd];unfold ay;simp
  have hoth:∀ i,i≠z.2→ay (Z.drop j) i = ay (Z.drop (j + 1)) i:=fun i hi=>by
   rw [hd];unfold ay;rw [List.filter_cons,if_neg (by simpa using fun e=>hi e.symm)]
  have hz2:z.2 < n:=hz z (List.mem_of_getElem? hj)
  have hof:∀ i f,i≠z.2→bl keys (i:Int) = some f→∃ y:Row × Nat,y∈Z.drop (j + 1)∧y.1.1 = f∧y.2 = i:=fun i f hi hf=>by
   rw [hat] at hf
   by_cases hin:i < n
   ·rw [if_pos hin,hoth i hi] at hf
    obtain ⟨y,hy,rfl⟩:=Option.map_eq_some_iff.mp hf
    exact ⟨(y,i),cT.mp (List.mem_of_mem_head? hy),rfl,rfl⟩
   ·rw [if_neg hin] at hf;cases hf
  show aA keys n = ((z.2:Nat):Int)
  refine leastTo_is (e:=z.1.1) ?_ ?_ n hz2 ?_
  ·rw [hat,if_pos hz2,hself];rfl
  ·intro i hi f hf
   obtain ⟨y,hy,rfl,rfl⟩:=hof i f (by omega (splitNatSub:=true)) hf
   rcases hp1 y hy with h | ⟨_,h⟩
   ·exact h
   ·omega (splitNatSub:=true)
  ·intro i hi _ f hf
   obtain ⟨y,hy,rfl,rfl⟩:=hof i f (by omega (splitNatSub:=true)) hf
   have:=eU z.1.1 y.1.1
   rcases hp1 y hy with h | ⟨h,_⟩ <;> omega (splitNatSub:=true)
theorem bwd_great {keys:List (Option IK)} {n j:Nat} {Z:MZ} (hn:keys.length = n) (hk:∀ i,i < n→keys[i]? = some (((ay (Z.take j) i).getLast?).map (·.1))) (hs:Z.Pairwise Zord) (hz:∀ z∈Z,z.2 < n) (hj:j≤Z.length) :
  aB keys n = match (bH j).bind fun i=>Z[i]? with | none=>-1 | some z=>(z.2:Int):=by
 have hat:=keyAt_of hn hk
 cases j with
 | zero =>
  refine greatOf_neg (fun i=>?_) n
  rw [hat,List.take_zero];split <;> rfl
 | succ j =>
  have hl:j < Z.length:=by omega
  obtain ⟨z,hj2⟩:∃ z,Z[j]? = some z:=⟨_,List.getElem?_eq_getElem hl⟩
  have hd:Z.take (j + 1) = Z.take j++[z]:=by rw [List.take_add_one,hj2];rfl
  have hp:(Z.take j++[z]).Pairwise Zord:=hd ▸ hs.sublist (List.take_sublist (j + 1) Z)
  have hp1:∀ y∈Z.take j,Zord y z:=fun y hy=>(List.pairwise_append.mp hp).2.2 y hy z (.head _)
  have hself:ay (Z.take (j + 1)) z.2 = ay (Z.take j) z.2++[z.1]:=by
   rw [hd,bU];unfold ay;simp
  have hoth:∀ i,i≠z.2→ay (Z.take (j + 1)) i = ay (Z.take j) i:=fun i hi=>by
   rw [hd,bU];unfold ay
   have:([z].filter fun z=>z.2 == i) = []:=by simpa using fun e=>hi e.symm
   rw [this];simp
  have hz2:z.2 < n:=hz z (List.mem_of_getElem? hj2)
  have hof:∀ i f,i≠z.2→bl keys (i:Int) = some f→∃ y:Row × Nat,y∈Z.take j∧y.1.1 = f∧y.2 = i:=fun i f hi hf=>by
   rw [hat] at hf
   by_cases hin:i < n
   ·rw [if_pos hin,hoth i hi] at hf
    obtain ⟨y,hy,rfl⟩:=Option.map_eq_some_iff.mp hf
    exact ⟨(y,i),cT.mp (List.mem_of_getLast? hy),rfl,rfl⟩
   ·rw [if_neg hin] at hf;cases hf
  have hb:(bH (j + 1)).bind (fun i=>Z[i]?) = some z:=by
   unfold bH;rw [if_neg (by omega),Option.bind_some,Nat.add_sub_cancel,hj2]
  rw [hb]
  show aB keys n = ((z.2:Nat):Int)
  refine greatOf_is (e:=z.1.1) ?_ ?_ n (by omega) (by omega) (by omega) ?_
  ·rw [hat,if_pos hz2,hself,List.getLast?_append];rfl
  ·intro i hi f hf
   obtain ⟨y,hy,rfl,rfl⟩:=hof i f (by omega) hf
   have:=eU z.1.1 y.1.1
   rcases hp1 y hy with h | ⟨_,h⟩ <;> omega
  ·intro i hi _ f hf
   obtain ⟨y,hy,rfl,rfl⟩:=hof i f (by omega) hf
   rcases hp1 y hy with h | ⟨h,_⟩ <;> omega
theorem tw_split {α:Type} {p:α→Bool} {A B:List α} (ha:∀ x∈A,p x = true) (hb:∀ x∈B,p x = false):(A++B).takeWhile p = A:=by
 rw [List.takeWhile_append_of_pos ha]
 cases B with
 | nil=>simp
 | cons b B=>rw [List.takeWhile_cons,hb b (.head _)];simp
theorem Zord.le {a b:Row × Nat} (h:Zord a b):aV a.1.1 b.1.1≤0:=by rcases h with h | ⟨h,_⟩ <;> omega
theorem sorted_cut {Z:MZ} (hs:Z.Pairwise Zord) (e:IK):∃ j,j≤Z.length∧(∀ z∈Z.take j,aV z.1.1 e < 0)∧(∀ z∈Z.drop j,¬ aV z.1.1 e < 0):=by
 induction Z with
 | nil=>exact ⟨0,by simp⟩
 | cons z Z ih =>
  have h1:=List.pairwise_cons.mp hs
  by_cases hz:aV z.1.1 e < 0
  ·obtain ⟨j,a,b,c⟩:=ih h1.2
   refine ⟨j + 1,by simpa using a,fun y hy=>?_,by simpa using c⟩
   rw [List.take_succ_cons] at hy
   rcases List.mem_cons.mp hy with rfl | hy
   ·exact hz
   ·exact b y hy
  ·refine ⟨0,by simp,by simp,fun y hy=>?_⟩
   rcases List.mem_cons.mp hy with rfl | hy
   ·exact hz
   ·intro g
    exact hz (ec (h1.1 y hy).le g)
theorem ltLen_all {Z:MZ} {e:IK} {j:Nat} (ha:∀ z∈Z.take j,aV z.1.1 e < 0) (hb:∀ z∈Z.drop j,¬ aV z.1.1 e < 0) (hj:j≤Z.length):ltLen (Z.map (·.1)) e = j:=by
 unfold ltLen
 rw [← List.take_append_drop j Z,List.map_append,tw_split]
 ·rw [List.length_map,List.length_take];omega
 ·intro x hx
  obtain ⟨z,hz,rfl⟩:=List.mem_map.mp hx
  simpa using ha z hz
 ·intro x hx
  obtain ⟨z,hz,rfl⟩:=List.mem_map.mp hx
  have:=hb z hz
  simp only [decide_eq_false_iff_not];exact this
theorem ltLen_of {Z:MZ} {e:IK} {j k:Nat} (ha:∀ z∈Z.take j,z.2 = k→aV z.1.1 e < 0) (hb:∀ z∈Z.drop j,z.2 = k→¬ aV z.1.1 e < 0):ltLen (ay Z k) e = cnt Z k j:=by
 unfold ltLen cnt
 rw [cG Z k j,tw_split]
 ·intro x hx
  simpa using ha (x,k) (cT.mp hx) rfl
 ·intro x hx
  have:=hb (x,k) (cT.mp hx) rfl
  simp only [decide_eq_false_iff_not];exact this
theorem seek_kid {Z:MZ} (hs:Z.Pairwise Zord) (e:IK) (k:Nat):ltLen (ay Z k) e = cnt Z k (ltLen (Z.map (·.1)) e):=by
 obtain ⟨j,hj,a,b⟩:=sorted_cut hs e
 rw [ltLen_all a b hj]
 exact ltLen_of (fun z hz O=>a z hz) fun z hz O=>b z hz
theorem turn_later {Z:MZ} (hs:Z.Pairwise Zord) {j k:Nat} {z:Row × Nat} (hj:Z[j]? = some z) (hk:z.2 < k):ltLen (ay Z k) z.1.1 = cnt Z k j:=by
 have hl:=(List.getElem?_eq_some_iff.mp hj).1
 have hd:Z.drop j = z::Z.drop (j + 1):=by rw [List.drop_eq_getElem_cons hl,(List.getElem?_eq_some_iff.mp hj).2]
 have hz:Z = Z.take j++z::Z.drop (j + 1):=by rw [← hd,List.take_append_drop]
 rw [hz] at hs
 have hp:=List.pairwise_append.mp hs
 have hp1:=(List.pairwise_cons.mp hp.2.1).1
 refine ltLen_of (fun y hy ey=>?_) fun y hy ey=>?_
 ·have:=hp.2.2 y hy z (.head _)
  rcases this with h | ⟨_,h⟩
  ·exact h
  ·exfalso;omega
 ·rw [hd] at hy
  rcases List.mem_cons.mp hy with rfl | hy
  ·omega
  ·have:=(hp1 y hy).le
   have:=eU z.1.1 y.1.1
   omega
theorem turn_earlier {Z:MZ} (hs:Z.Pairwise Zord) {j k:Nat} {z:Row × Nat} (hj:Z[j]? = some z) (hk:k < z.2) :
  ltLen (ay Z k) z.1.1 + eB (ay Z k) z.1.1 (ltLen (ay Z k) z.1.1) = cnt Z k j:=by
 have hl:=(List.getElem?_eq_some_iff.mp hj).1
 have hd:Z.drop j = z::Z.drop (j + 1):=by rw [List.drop_eq_getElem_cons hl,(List.getElem?_eq_some_iff.mp hj).2]
 have hz:Z = Z.take j++z::Z.drop (j + 1):=by rw [← hd,List.take_append_drop]
 have hs0:=hs
 rw [hz] at hs
 have hp:=List.pairwise_append.mp hs
 have hp1:=(List.pairwise_cons.mp hp.2.1).1
 obtain ⟨i,hi,a,b⟩:=sorted_cut hs0 z.1.1
 have e1:ltLen (ay Z k) z.1.1 = cnt Z k i:=ltLen_of (fun y hy O=>a y hy) fun y hy O=>b y hy
 have hij:i≤j:=by
  apply Nat.le_of_not_lt
  intro h
  have:z∈Z.take i:=by
   rw [List.mem_take_iff_getElem]
   exact ⟨j,by omega,(List.getElem?_eq_some_iff.mp hj).2⟩
  have:=a z this
  rw [cmpI_self] at this
  omega
 rw [e1]
 unfold eB cnt
 have e2:(ay Z k).drop (ay (Z.take i) k).length = ay (Z.drop i) k:=by
  rw [cG Z k i,List.drop_left]
 have e3:Z.drop i = (Z.take j).drop i++Z.drop j:=by
  rw [List.drop_take]
  have:Z.drop j = (Z.drop i).drop (j - i):=by rw [List.drop_drop];congr 1;omega
  rw [this,List.take_append_drop]
 have e4:Z.take j = Z.take i++(Z.take j).drop i:=by
  have:Z.take i = (Z.take j).take i:=by rw [List.take_take,Nat.min_eq_left hij]
  rw [this,List.take_append_drop]
 rw [e2,e3,bU,tw_split]
 ·conv=>rhs;rw [e4]
  rw [bU,List.length_append]
 ·intro x hx
  have hm:=cT.mp hx
  have h1:=(hp.2.2 (x,k) (List.mem_of_mem_drop hm) z (.head _)).le
  have h2:=b (x,k) (by rw [e3];exact aL hm)
  simp only [decide_eq_true_eq]
  simp only at h1 h2
  omega
 ·intro x hx
  have hm:=cT.mp hx
  rw [hd] at hm
  simp only [decide_eq_false_iff_not]
  rcases List.mem_cons.mp hm with h | h
  ·subst h;simp at hk
  ·have h1:=hp1 _ h
   have:=eU x.1 z.1.1
   rcases h1 with h1 | ⟨_,h1⟩
   ·simp only at h1;omega
   ·simp only at h1;omega
theorem cnt_zero (Z:MZ) (k:Nat):cnt Z k 0 = 0:=by simp [cnt,ay]
theorem cnt_all (Z:MZ) (k j:Nat) (h:Z.length≤j):cnt Z k j = (ay Z k).length:=by unfold cnt;rw [List.take_of_length_le h]
theorem cnt_succ_same {Z:MZ} {j:Nat} {z:Row × Nat} (hj:Z[j]? = some z):cnt Z z.2 (j + 1) = cnt Z z.2 j + 1:=by
 have hd:Z.take (j + 1) = Z.take j++[z]:=by rw [List.take_add_one,hj];rfl
 unfold cnt;rw [hd,bU,List.length_append];simp [ay]
theorem cnt_succ_other {Z:MZ} {j k:Nat} {z:Row × Nat} (hj:Z[j]? = some z) (hk:k≠z.2):cnt Z k (j + 1) = cnt Z k j:=by
 have hd:Z.take (j + 1) = Z.take j++[z]:=by rw [List.take_add_one,hj];rfl
 have:([z].filter fun z=>z.2 == k) = []:=by simpa using fun e=>hk e.symm
 unfold cnt;rw [hd,bU,List.length_append];unfold ay;rw [this];simp
theorem row_at_cnt {Z:MZ} {j:Nat} {z:Row × Nat} (hj:Z[j]? = some z):(ay Z z.2)[cnt Z z.2 j]? = some z.1:=by
 have hl:=(List.getElem?_eq_some_iff.mp hj).1
 have hd:Z.drop j = z::Z.drop (j + 1):=by rw [List.drop_eq_getElem_cons hl,(List.getElem?_eq_some_iff.mp hj).2]
 rw [cG Z z.2 j,List.getElem?_append_right (by unfold cnt;exact Nat.le_refl _)]
 unfold cnt
 rw [Nat.sub_self,hd];unfold ay;simp
end
section
open PySem PySem.W PyProof.Rows
set_option maxHeartbeats 8000000
set_option maxRecDepth 100000
set_option tactic.hygienic false
noncomputable def d8 (R:List Row) (p:Int):Option Nat:=if 0≤p∧p < R.length then some p.toNat else none
inductive LeafI (rest:Led) (c:Addr) (R:List Row) (st:Option Nat):Led→Bool→Prop
 | mk (dx o r:Addr) (vs:Array Value) (n2:Nat) (q:LP) (p:Int) (t:Tok) (h3:bG rest c dx o r vs n2 R) (h4:R.Pairwise (fun a b=>aV a.1 b.1≤0)) (h5:st = d8 R p):LeafI rest c R st [(dx,LD q r o p t)] false
noncomputable def dr:aN:=fun fp rest c kd R st=>LeafI rest c R st fp kd
theorem dk {R:List Row} {p:Int} {i:Nat} (h:some i = d8 R p):0≤p∧p < R.length∧i = p.toNat:=by
 unfold d8 at h
 split at h
 ·rename_i g;cases h;exact ⟨g.1,g.2,rfl⟩
 ·cases h
theorem cut_of {e:IK}:∀ {R:List Row},R.Pairwise (fun a b=>aV a.1 b.1≤0)→∀ (j:Nat) (x:Row),R[j]? = some x→(aV x.1 e < 0 ↔ j < (R.takeWhile fun x=>decide (aV x.1 e < 0)).length)
 | [],_,j,x,h=>by simp at h
 | a::R,hp,j,x,h=>by
  have h1:=List.pairwise_cons.mp hp
  rw [List.takeWhile_cons]
  by_cases ha:aV a.1 e < 0
  ·simp only [ha,decide_true,if_true,List.length_cons]
   cases j with
   | zero=>simp only [List.getElem?_cons_zero,Option.some.injEq] at h;subst h;simp [ha]
   | succ j=>rw [List.getElem?_cons_succ] at h;rw [cut_of h1.2 j x h];omega
  ·simp only [ha,decide_false,Bool.false_eq_true,if_false,List.length_nil,Nat.not_lt_zero,iff_false]
   cases j with
   | zero=>simp only [List.getElem?_cons_zero,Option.some.injEq] at h;subst h;exact ha
   | succ j =>
    rw [List.getElem?_cons_succ] at h
    exact fun g=>ha (ec (h1.1 x (List.mem_of_getElem? h)) g)
section
set_option maxRecDepth 100000
set_option maxHeartbeats 8000000
theorem off_leaf {dx:Addr} {o:Obj} {E0:Led} (h:Off [(dx,o)] E0):∀ p∈E0,p.1≠dx:=fun p hp=>h _ (.head _) p hp
end
theorem cy (w:World):al w 6 dr where
 mono:=by
  intro fp rest rest' c kd R st hx1 hs
  obtain ⟨dx,o,r,vs,n2,q,p,t,h3,h4,h5⟩:=hx1
  exact .mk dx o r vs n2 q p t (h3.mono hs) h4 h5
 obj:=by
  intro fp rest c kd R st hx2
  obtain ⟨dx,o,r,vs,n2,q,p,t,h3,h4,h5⟩:=hx2
  exact ⟨dx,_,_,h3.inst,.head _,fun mn=>by cases mn <;> rfl⟩
 ok:=by
  intro fp rest c kd R st hx3
  obtain ⟨dx,o,r,vs,n2,q,p,t,h3,h4,h5⟩:=hx3
  exact h3.ok
 size:=by
  intro fp rest c kd R st hx4
  obtain ⟨dx,o,r,vs,n2,q,p,t,h3,h4,rfl⟩:=hx4
  refine ⟨by have:=h3.small;omega,fun i hi=>?_⟩
  have:=dk hi.symm
  omega
 valid:=by
  intro fp rest E0 c kd R st hx5 hs
  obtain ⟨dx,o,r,vs,n2,q,p,t,h3,h4,rfl⟩:=hx5
  refine ((lvalid_c (D:=0) (h3.mono hs)).deep (by decide)).post fun v fp' h=>⟨h.1.trans ?_,h.2⟩
  unfold d8
  split
  ·rename_i g;simp [g]
  ·rename_i g;rw [Option.isSome_none];congr 1;simpa using g
 key:=by
  intro fp rest E0 c kd R i y hx6 hy hs
  obtain ⟨dx,o,r,vs,n2,q,p,t,h3,h4,h5⟩:=hx6
  obtain ⟨g1,g2,rfl⟩:=dk h5
  exact (lkey_c (D:=0) (h3.mono hs) (Int.toNat_of_nonneg g1).symm hy).deep (by decide)
 value:=by
  intro fp rest E0 c kd R i y hx7 hy hs
  obtain ⟨dx,o,r,vs,n2,q,p,t,h3,h4,h5⟩:=hx7
  obtain ⟨g1,g2,rfl⟩:=dk h5
  exact (lvalue_c (D:=0) (h3.mono hs) (Int.toNat_of_nonneg g1).symm hy).deep (by decide)
 first:=by
  intro fp rest E0 c kd R st hx8 hs hoff
  obtain ⟨dx,o,r,vs,n2,q,p,t,h3,h4,h5⟩:=hx8
  refine ((lfirst_c (D:=0) (h3.mono hs) (off_leaf hoff)).deep (by decide)).post fun v fp' h=>?_
  obtain ⟨t'⟩:=h
  refine ⟨rfl,rfl,.mk dx o r vs n2 q 0 t' h3 h4 ?_⟩
  unfold c7 d8
  cases R <;> simp
 last:=by
  intro fp rest E0 c kd R st hx9 hs hoff
  obtain ⟨dx,o,r,vs,n2,q,p,t,h3,h4,h5⟩:=hx9
  refine ((llast_c (D:=0) (h3.mono hs) (off_leaf hoff)).deep (by decide)).post fun v fp' h=>?_
  obtain ⟨t'⟩:=h
  refine ⟨rfl,rfl,.mk dx o r vs n2 q _ t' h3 h4 ?_⟩
  unfold eS d8
  cases R with
  | nil=>simp
  | cons y R=>rw [if_neg (by simp),if_pos (by simp only [List.length_cons];omega)];congr 1;exact (Int.pred_toNat ((y::R).length:Int)).symm
 seek:=by
  intro fp rest E0 c kd R st e te hx10 hs hoff he
  obtain ⟨dx,o,r,vs,n2,q,p,t,h3,h4,h5⟩:=hx10
  refine (lseek_c (D:=0) (h3.mono hs) (off_leaf hoff) he (ltLen_le R e) (cut_of h4)).post fun v fp' h=>?_
  obtain ⟨t'⟩:=h
  refine ⟨rfl,rfl,.mk dx o r vs n2 q _ t' h3 h4 ?_⟩
  rw [cV]
  unfold bi d8
  by_cases g:ltLen R e < R.length
  ·rw [if_pos g,if_pos (by omega)];rfl
  ·rw [if_neg g,if_neg (by omega)]
 step:=by
  intro fp rest E0 c kd R i hx11 hs hoff
  obtain ⟨dx,o,r,vs,n2,q,p,t,h3,h4,h5⟩:=hx11
  obtain ⟨g1,g2,rfl⟩:=dk h5
  refine ((lstep_c (D:=0) (h3.mono hs) (off_leaf hoff) g1 g2).deep (by decide)).post fun v fp' h=>?_
  obtain ⟨t'⟩:=h
  refine ⟨rfl,rfl,.mk dx o r vs n2 q _ t' h3 h4 ?_⟩
  unfold dn d8
  by_cases g:p.toNat + 1 < R.length
  ·rw [if_pos g,if_pos (by omega)];congr 1;omega
  ·rw [if_neg g,if_neg (by omega)]
 back:=by
  intro fp rest E0 c kd R i hx12 hs hoff
  obtain ⟨dx,o,r,vs,n2,q,p,t,h3,h4,h5⟩:=hx12
  obtain ⟨g1,g2,rfl⟩:=dk h5
  refine ((lback_c (D:=0) (h3.mono hs) (off_leaf hoff) g1 g2).deep (by decide)).post fun v fp' h=>?_
  obtain ⟨t'⟩:=h
  refine ⟨rfl,rfl,.mk dx o r vs n2 q _ t' h3 h4 ?_⟩
  unfold prevAt d8
  by_cases g:p.toNat = 0
  ·rw [if_pos g,if_neg (by omega)]
  ·rw [if_neg g,if_pos (by omega)];congr 1;exact (Int.pred_toNat _).symm
structure bV (C:aN) (rest:Led) (x dx ch tp o:Addr) (cv:Array Value) (nc:Nat) (tops:Array Value) (ks:List KS) (Z:MZ):Prop where
 inst:(x,instObj 506 dx)∈rest
 lst:(ch,listOf cv nc)∈rest
 ord:cA rest o
 hcl:cv.size = ks.length
 hcv:∀ (i:Nat) k,ks[i]? = some k→cv[i]? = some (.ref k.c)
 hts:tops.size = ks.length
 hn:ks.length≤1000
 cur:∀ k∈ks,C k.fp rest k.c k.kd k.R k.st
 apart:ks.Pairwise fun a b=>Off a.fp b.fp
 offx:∀ p∈aC ks,p.1≠dx∧p.1≠tp
 off3:@Ne Nat dx tp
 sorted:Z.Pairwise Zord
 src:∀ z∈Z,z.2 < ks.length
 rows:∀ (i:Nat) k,ks[i]? = some k→k.R = ay Z i
 small:Z.length≤100000
noncomputable def MPlace (ks:List KS) (Z:MZ) (tops:Array Value) (cur going:Int) (st:Option Nat):Prop :=
 match st with
 | none=>cur = -1
 | some j=>∃ z,Z[j]? = some z∧cur = z.2∧bk tops (ks.map KS.key) ∧
   ((going = 0∧∀ (i:Nat) k,ks[i]? = some k→k.st = bi k.R (cnt Z i j)) ∨ (going = 1∧∀ (i:Nat) k,ks[i]? = some k→k.st = bH (cnt Z i (j + 1))))
inductive MergeI (C:aN) (rest:Led) (x:Addr) (st:Option Nat):Led→Bool→List Row→Prop
 | mk (dx ch tp o:Addr) (q:MP) (cv:Array Value) (nc:Nat) (tops:Array Value) (nt:Nat) (ks:List KS) (Z:MZ) (cur:Int) (tc:Tok) (going:Int) (tg:Tok) (h:bV C rest x dx ch tp o cv nc tops ks Z) (hp:MPlace ks Z tops cur going st) :
  MergeI C rest x st ((dx,MD q ch tp o cur tc going tg)::(tp,listOf tops nt)::aC ks) true (Z.map (·.1))
noncomputable def cO (C:aN):aN:=fun fp rest x kd R st=>MergeI C rest x st fp kd R
theorem bV.mono {w:World} {D:Nat} {C:aN} (S:al w D C) {rest rest':Led} {x dx ch tp o:Addr} {cv:Array Value} {nc:Nat} {tops:Array Value} {ks:List KS} {Z:MZ} (h:bV C rest x dx ch tp o cv nc tops ks Z) (hs:∀ p∈rest,p∈rest'):bV C rest' x dx ch tp o cv nc tops ks Z :=
 { h with inst:=hs _ h.inst,lst:=hs _ h.lst,ord:=h.ord.mono hs,cur:=fun k hk=>S.mono (h.cur k hk) hs }
theorem bV.kids {C:aN} {rest E0:Led} {x dx ch tp o:Addr} {cv:Array Value} {nc:Nat} {tops:Array Value} {ks:List KS} {Z:MZ} {a b:Addr × Obj} (h:bV C rest x dx ch tp o cv nc tops ks Z) (hs:∀ p∈rest,p∈E0) (ho:Off (a::b::aC ks) E0):dW (FixC C rest) E0 ks :=
 ⟨fun k hk=>⟨h.cur k hk,hs⟩,fun k hk p hp q hq=>ho p (.tail _ (.tail _ (bS hk p hp))) q hq,h.apart⟩
theorem bV.offs {C:aN} {rest E0:Led} {x dx ch tp o:Addr} {cv:Array Value} {nc:Nat} {tops:Array Value} {ks:List KS} {Z:MZ} {a b:Obj} (h:bV C rest x dx ch tp o cv nc tops ks Z) (ho:Off ((dx,a)::(tp,b)::aC ks) E0):∀ p∈aC ks++E0,p.1≠dx∧p.1≠tp:=fun p hp=>by
 rcases List.mem_append.mp hp with g | g
 ·exact h.offx p g
 ·exact ⟨ho _ (.head _) p g,ho _ (.tail _ (.head _)) p g⟩
theorem ci.same {f:Nat→KS→Option Nat} {ks ks':List KS} (h:ci f ks ks') {i:Nat} {k':KS} (hk:ks'[i]? = some k'):∃ k,ks[i]? = some k∧k'.c = k.c∧k'.R = k.R∧k'.st = f i k∧ak k'.fp k.fp:=by
 have hl:i < ks.length:=by rw [← h.len];exact (List.getElem?_eq_some_iff.mp hk).1
 obtain ⟨fp',a,b⟩:=h.at_ i _ (List.getElem?_eq_getElem hl)
 rw [hk] at a
 have e:=Option.some.inj a
 exact ⟨_,List.getElem?_eq_getElem hl,by rw [e],by rw [e],by rw [e],by rw [e];exact b⟩
theorem bV.moved {C:aN} {rest E0:Led} {x dx ch tp o:Addr} {cv:Array Value} {nc:Nat} {tops tops':Array Value} {ks ks':List KS} {Z:MZ} {f:Nat→KS→Option Nat} (h:bV C rest x dx ch tp o cv nc tops ks Z) (mv:ci f ks ks') (K:dW (FixC C rest) E0 ks') (ht:bk tops' (ks'.map KS.key)) :
  bV C rest x dx ch tp o cv nc tops' ks' Z where
 inst:=h.inst
 lst:=h.lst
 ord:=h.ord
 hcl:=h.hcl.trans mv.len.symm
 hcv:=fun i k hk=>by obtain ⟨k0,a,b,_⟩:=mv.same hk;rw [b];exact h.hcv i k0 a
 hts:=by have:=ht.1;rwa [List.length_map] at this
 hn:=by rw [mv.len];exact h.hn
 cur:=fun k hk=>(K.cur k hk).1
 apart:=K.apart
 offx:=fun p hp=>by obtain ⟨p',hp',e⟩:=mv.adr p hp;rw [← e];exact h.offx p' hp'
 off3:=h.off3
 sorted:=h.sorted
 src:=fun z hz=>by rw [mv.len];exact h.src z hz
 rows:=fun i k hk=>by obtain ⟨k0,a,_,b,_⟩:=mv.same hk;rw [b];exact h.rows i k0 a
 small:=h.small
theorem sameAdr_kfps:∀ {ks ks':List KS},ks'.length = ks.length→(∀ (i:Nat) k k',ks[i]? = some k→ks'[i]? = some k'→ak k'.fp k.fp)→ak (aC ks') (aC ks)
 | [],[],_,_=>rfl
 | [],_::_,h,_=>by simp at h
 | _::_,[],h,_=>by simp at h
 | a::ks,b::ks',h,g=>by
  have ih:=sameAdr_kfps (ks:=ks) (ks':=ks') (by simpa using h) fun i k k' h1 h2=>g (i + 1) k k' h1 h2
  have h0:=g 0 a b rfl rfl
  unfold ak aC at *
  simp only [List.flatMap_cons,List.map_append]
  rw [h0,ih]
theorem ci.adrs {f:Nat→KS→Option Nat} {ks ks':List KS} (h:ci f ks ks'):ak (aC ks') (aC ks) :=
 sameAdr_kfps h.len fun i k k' h1 h2=>by
  obtain ⟨k0,a,_,_,_,b⟩:=h.same h2
  rw [h1] at a;cases a;exact b
theorem key_of {ks:List KS} {i:Nat} {k:KS} (h:ks[i]? = some k):(ks.map KS.key)[i]? = some (k.st.bind fun j=>(k.R[j]?).map (·.1)):=by rw [List.getElem?_map,h];rfl
theorem place_fwd {C:aN} {rest:Led} {x dx ch tp o:Addr} {cv:Array Value} {nc:Nat} {tops:Array Value} {ks:List KS} {Z:MZ} (h:bV C rest x dx ch tp o cv nc tops ks Z) (ht:bk tops (ks.map KS.key)) {j:Nat}
  (hp:∀ (i:Nat) k,ks[i]? = some k→k.st = bi k.R (cnt Z i j)):MPlace ks Z tops (aA (ks.map KS.key) (ks.map KS.key).length) 0 (bi (Z.map (·.1)) j):=by
 have hl:=fwd_least (keys:=ks.map KS.key) (n:=(ks.map KS.key).length) (j:=j) rfl (fun i hi=>by
  rw [List.length_map] at hi
  have hk:=List.getElem?_eq_getElem hi
  rw [key_of hk,hp i _ hk,h.rows i _ hk,key_fwd]) h.sorted (by rw [List.length_map];exact h.src)
 rw [hl]
 unfold bi
 rw [List.length_map]
 by_cases g:j < Z.length
 ·rw [if_pos g]
  have hz:=List.getElem?_eq_getElem g
  exact ⟨Z[j],hz,by rw [hz],ht,.inl ⟨rfl,hp⟩⟩
 ·rw [if_neg g,List.getElem?_eq_none (by omega)]
  rfl
theorem place_bwd {C:aN} {rest:Led} {x dx ch tp o:Addr} {cv:Array Value} {nc:Nat} {tops:Array Value} {ks:List KS} {Z:MZ} (h:bV C rest x dx ch tp o cv nc tops ks Z) (ht:bk tops (ks.map KS.key)) {j:Nat} (hj:j≤Z.length)
  (hp:∀ (i:Nat) k,ks[i]? = some k→k.st = bH (cnt Z i j)):MPlace ks Z tops (aB (ks.map KS.key) (ks.map KS.key).length) 1 (bH j):=by
 have hl:=bwd_great (keys:=ks.map KS.key) (n:=(ks.map KS.key).length) (j:=j) rfl (fun i hi=>by
  rw [List.length_map] at hi
  have hk:=List.getElem?_eq_getElem hi
  rw [key_of hk,hp i _ hk,h.rows i _ hk,key_bwd]) h.sorted (by rw [List.length_map];exact h.src) hj
 rw [hl]
 unfold bH
 by_cases g:j = 0
 ·rw [if_pos g];rfl
 ·rw [if_neg g]
  have hz:=List.getElem?_eq_getElem (l:=Z) (i:=j - 1) (by omega)
  refine ⟨Z[j - 1],hz,by rw [Option.bind_some,hz],ht,.inr ⟨rfl,?_⟩⟩
  rw [Nat.sub_add_cancel (by omega)];exact hp
theorem dU (R:List Row):c7 R = bi R 0:=by
 unfold c7 bi;cases R <;> simp
theorem ew (R:List Row):eS R = bH R.length:=by
 unfold eS bH;cases R <;> simp
theorem prevAt_eq (i:Nat):prevAt i = bH i:=rfl
theorem backOf_eq (R:List Row) {n:Nat} (h:n≤R.length):backOf R (bi R n) = bH n:=by
 unfold bi
 by_cases g:n < R.length
 ·rw [if_pos g];rfl
 ·rw [if_neg g]
  have:n = R.length:=by omega
  rw [this];exact ew R
section
set_option maxRecDepth 100000
set_option maxHeartbeats 8000000
variable {w:World} {D:Nat} {C:aN}
theorem dM {rest E0:Led} {x dx ch tp o:Addr} {cv:Array Value} {nc nt:Nat} {tops tops':Array Value} {ks ks':List KS} {Z:MZ} {f:Nat→KS→Option Nat} {q:MP} {cur going cur' going':Int} {tc tg tc' tg':Tok} {st':Option Nat}
  (h:bV C rest x dx ch tp o cv nc tops ks Z) (mv:ci f ks ks') (K:dW (FixC C rest) E0 ks') (ht:bk tops' (ks'.map KS.key)) (hp:bV C rest x dx ch tp o cv nc tops' ks' Z→MPlace ks' Z tops' cur' going' st') :
  ak ((dx,MD q ch tp o cur' tc' going' tg')::(tp,listOf tops' nt)::aC ks') ((dx,MD q ch tp o cur tc going tg)::(tp,listOf tops nt)::aC ks) ∧
  cO C ((dx,MD q ch tp o cur' tc' going' tg')::(tp,listOf tops' nt)::aC ks') rest x true (Z.map (·.1)) st':=by
 have h':=h.moved mv K ht
 refine ⟨?_,.mk dx ch tp o q cv nc tops' nt ks' Z cur' tc' going' tg' h' (hp h')⟩
 have:=mv.adrs
 unfold ak at *
 simp only [List.map_cons,this]
theorem at_kid {rest:Led} {x dx ch tp o:Addr} {cv:Array Value} {nc:Nat} {tops:Array Value} {ks:List KS} {Z:MZ} (h:bV C rest x dx ch tp o cv nc tops ks Z) {j:Nat} {z:Row × Nat} (hz:Z[j]? = some z) :
  ∃ ka,ks[z.2]? = some ka∧ka.R = ay Z z.2∧ka.R[cnt Z z.2 j]? = some z.1:=by
 have hl:=h.src z (List.mem_of_getElem? hz)
 have hk:=List.getElem?_eq_getElem hl
 exact ⟨_,hk,h.rows _ _ hk,by rw [h.rows _ _ hk];exact row_at_cnt hz⟩
theorem am.wide {f:Addr} {args:List Value} {a:Addr × Obj} {fp2 rest:Led} {P:Value→Prop} (h:am w D f args [a] (fp2++rest) fun r fp'=>P r∧fp' = [a]):am w D f args (a::fp2) rest fun r fp'=>P r∧fp' = a::fp2:=fun dp un gd cn cs ad ccd cl outer A₀ base h₀ L m mg mb mean s Q E B F X N T hk hd hu k =>
 h dp un gd cn cs ad ccd cl outer A₀ base h₀ L m mg mb mean s Q E B F X N T hk hd hu fun r fp' h' tk' F' N' p=>by
  obtain ⟨hp,rfl⟩:=p
  exact k r (a::fp2) h' tk' F' N' ⟨hp,rfl⟩
theorem bV.me {rest E0:Led} {x dx ch tp o:Addr} {q:MP} {cv:Array Value} {nc nt:Nat} {tops:Array Value} {ks:List KS} {Z:MZ} {a b:Obj} (h:bV C rest x dx ch tp o cv nc tops ks Z) (hs:∀ p∈rest,p∈E0) (ho:Off ((dx,a)::(tp,b)::aC ks) E0):Me ⟨q,x,dx,ch,tp,o,cv,nc,nt⟩ rest E0 :=
 ⟨hs _ h.inst,hs _ h.lst,h.ord.mono hs,h.off3,fun p hp=>h.offs ho p (aR hp),hs⟩
theorem bV.kd {rest E0:Led} {x dx ch tp o:Addr} {q:MP} {cv:Array Value} {nc nt:Nat} {tops:Array Value} {ks:List KS} {Z:MZ} {a b:Obj} (h:bV C rest x dx ch tp o cv nc tops ks Z) (hs:∀ p∈rest,p∈E0) (ho:Off ((dx,a)::(tp,b)::aC ks) E0):Kd C rest ⟨q,x,dx,ch,tp,o,cv,nc,nt⟩ E0 ks :=
 ⟨h.kids hs ho,h.hcl,h.hcv,h.offx,h.hn⟩
theorem at_place {rest:Led} {x dx ch tp o:Addr} {cv:Array Value} {nc:Nat} {tops:Array Value} {ks:List KS} {Z:MZ} {going:Int} (h:bV C rest x dx ch tp o cv nc tops ks Z) {j:Nat} {z:Row × Nat} (hz:Z[j]? = some z)
  (hg:(going = 0∧∀ (i:Nat) k,ks[i]? = some k→k.st = bi k.R (cnt Z i j)) ∨ (going = 1∧∀ (i:Nat) k,ks[i]? = some k→k.st = bH (cnt Z i (j + 1)))):∃ ka,ks[z.2]? = some ka∧ka.R = ay Z z.2∧ka.R[cnt Z z.2 j]? = some z.1∧ka.st = some (cnt Z z.2 j):=by
 obtain ⟨ka,hka,hR,hat⟩:=at_kid h hz
 refine ⟨ka,hka,hR,hat,?_⟩
 rcases hg with ⟨_,g⟩ | ⟨_,g⟩
 ·rw [g _ _ hka,cR (List.getElem?_eq_some_iff.mp hat).1]
 ·rw [g _ _ hka,cnt_succ_same hz];rfl
theorem ci.comp {ks ks1 ks':List KS} {g f h:Nat→KS→Option Nat} (m1:ci g ks ks1) (m2:ci f ks1 ks') (e:∀ (i:Nat) k fp',ks[i]? = some k→f i { k with fp:=fp',st:=g i k } = h i k):ci h ks ks':=by
 refine ⟨m2.len.trans m1.len,fun i k0 hk0=>?_⟩
 obtain ⟨fp1,a1,b1⟩:=m1.at_ i k0 hk0
 obtain ⟨fp2,a2,b2⟩:=m2.at_ i _ a1
 exact ⟨fp2,by rw [a2,← e i k0 fp1 hk0],b2.trans b1⟩
theorem aF (S:al w D C):al w (D + 16) (cO C) where
 mono:=by
  intro fp rest rest' x kd R st hx1 hs
  obtain ⟨dx,ch,tp,o,q,cv,nc,tops,nt,ks,Z,cur,tc,going,tg,h3,h5⟩:=hx1
  exact .mk dx ch tp o q cv nc tops nt ks Z cur tc going tg (h3.mono S hs) h5
 obj:=by
  intro fp rest x kd R st hx2
  obtain ⟨dx,ch,tp,o,q,cv,nc,tops,nt,ks,Z,cur,tc,going,tg,h3,h5⟩:=hx2
  exact ⟨dx,_,_,h3.inst,.head _,fun mn=>by cases mn <;> rfl⟩
 ok:=by
  intro fp rest x kd R st hx3 y hy
  obtain ⟨dx,ch,tp,o,q,cv,nc,tops,nt,ks,Z,cur,tc,going,tg,h3,h5⟩:=hx3
  obtain ⟨z,hz,rfl⟩:=List.mem_map.mp hy
  have hk:=List.getElem?_eq_getElem (h3.src z hz)
  have:=S.ok (h3.cur _ (List.mem_of_getElem? hk)) z.1
  rw [h3.rows _ _ hk] at this
  exact this (cT.mpr hz)
 size:=by
  intro fp rest x kd R st hx4
  obtain ⟨dx,ch,tp,o,q,cv,nc,tops,nt,ks,Z,cur,tc,going,tg,h3,h5⟩:=hx4
  rw [List.length_map]
  refine ⟨h3.small,fun i hi=>?_⟩
  subst hi
  obtain ⟨z,hz,_⟩:=h5
  exact (List.getElem?_eq_some_iff.mp hz).1
 valid:=by
  intro fp rest E0 x kd R st hx5 hs
  obtain ⟨dx,ch,tp,o,q,cv,nc,tops,nt,ks,Z,cur,tc,going,tg,h3,h5⟩:=hx5
  refine (((mvalid_c (D:=0) (T:=((tp,listOf tops nt)::aC ks)++E0) (.tail _ (aR (hs _ h3.inst)))).wide).deep (by omega)).post fun r fp' h=>⟨h.1.trans ?_,h.2⟩
  cases st with
  | none=>have:cur = -1:=h5;rw [this];rfl
  | some j=>obtain ⟨z,_,e,_⟩:=h5;rw [e];simp
 key:=by
  intro fp rest E0 x kd R j y hx6 hy hs
  obtain ⟨dx,ch,tp,o,q,cv,nc,tops,nt,ks,Z,cur,tc,going,tg,h3,z,hz,rfl,ht,hg⟩:=hx6
  obtain ⟨ka,hka,hR,hat,hst⟩:=at_place h3 hz hg
  have hl:=(List.getElem?_eq_some_iff.mp hka).1
  have hn:=h3.hn
  have hy2:y = z.1:=by rw [List.getElem?_map,hz] at hy;exact (Option.some.inj hy).symm
  obtain ⟨hkey,te,htv⟩:=top_at hka hst hat ht
  refine (((mkey_c (D:=0) (cur:=((z.2:Nat):Int)) (T:=((tp,listOf tops nt)::aC ks)++E0) (.tail _ (aR (hs _ h3.inst))) (.head _) (by omega) (by omega) htv).wide).deep (by omega)).post fun r fp' h=>⟨⟨te,by rw [hy2];exact h.1⟩,h.2⟩
 value:=by
  intro fp rest E0 x kd R j y hx7 hy hs
  obtain ⟨dx,ch,tp,o,q,cv,nc,tops,nt,ks,Z,cur,tc,going,tg,h3,z,hz,rfl,ht,hg⟩:=hx7
  obtain ⟨ka,hka,hR,hat,hst⟩:=at_place h3 hz hg
  have hl:=(List.getElem?_eq_some_iff.mp hka).1
  have hn:=h3.hn
  have hy2:y = z.1:=by rw [List.getElem?_map,hz] at hy;exact (Option.some.inj hy).symm
  have hmem:=List.mem_of_getElem? hka
  have hC:=h3.cur ka hmem
  rw [hst] at hC
  refine (((mvalue_c (D:=D) (cur:=((z.2:Nat):Int)) (T:=((tp,listOf tops nt)::aC ks)++E0) S hC (fun p hp=>?_) hat (.tail _ (aR (hs _ h3.inst))) (.tail _ (aR (hs _ h3.lst))) (by omega) (by omega) (h3.hcv _ _ hka)).wide).deep (by omega)).post fun r fp' h=>⟨by rw [hy2];exact h.1,h.2⟩
  rcases List.mem_append.mp hp with h | h
  ·exact .tail _ (aL (bS hmem p h))
  ·exact .tail _ (aR (hs p h))
 first:=by
  intro fp rest E0 x kd R st hx8 hs hoff
  obtain ⟨dx,ch,tp,o,q,cv,nc,tops,nt,ks,Z,cur,tc,going,tg,h3,h5⟩:=hx8
  refine ((mfirst_c S (h3.me (q:=q) (nt:=nt) hs hoff) (h3.kd hs hoff) h3.hts).deep (by omega)).post fun r fp' h=>?_
  obtain ⟨t,t2,tops',ks',K',mv,ht⟩:=h
  refine ⟨rfl,?_⟩
  rw [dU]
  refine dM h3 mv K'.kids ht fun h'=>place_fwd h' ht fun i k' hk'=>?_
  obtain ⟨k0,a,_,b,c,_⟩:=mv.same hk'
  rw [c,b,cnt_zero,dU]
 last:=by
  intro fp rest E0 x kd R st hx9 hs hoff
  obtain ⟨dx,ch,tp,o,q,cv,nc,tops,nt,ks,Z,cur,tc,going,tg,h3,h5⟩:=hx9
  refine ((mlast_c S (h3.me (q:=q) (nt:=nt) hs hoff) (h3.kd hs hoff) h3.hts).deep (by omega)).post fun r fp' h=>?_
  obtain ⟨t,t2,tops',ks',K',mv,ht⟩:=h
  refine ⟨rfl,?_⟩
  have e9:(Z.map (·.1)).length = Z.length:=List.length_map _
  rw [ew,e9]
  refine dM h3 mv K'.kids ht fun h'=>place_bwd h' ht (Nat.le_refl _) fun i k' hk'=>?_
  obtain ⟨k0,a,_,b,c,_⟩:=mv.same hk'
  rw [c,cnt_all _ _ _ (Nat.le_refl _),ew,h3.rows _ _ a]
 seek:=by
  intro fp rest E0 x kd R st e te hx10 hs hoff he
  obtain ⟨dx,ch,tp,o,q,cv,nc,tops,nt,ks,Z,cur,tc,going,tg,h3,h5⟩:=hx10
  refine ((mseek_c S (h3.me (q:=q) (nt:=nt) hs hoff) (h3.kd hs hoff) h3.hts he).deep (by omega)).post fun r fp' h=>?_
  obtain ⟨t,t2,tops',ks',K',mv,ht⟩:=h
  refine ⟨rfl,?_⟩
  rw [cV]
  refine dM h3 mv K'.kids ht fun h'=>place_fwd h' ht fun i k' hk'=>?_
  obtain ⟨k0,a,_,b,c,_⟩:=mv.same hk'
  rw [c,b,cV,h3.rows _ _ a,seek_kid h3.sorted]
 step:=by
  intro fp rest E0 x kd R j hx11 hs hoff
  obtain ⟨dx,ch,tp,o,q,cv,nc,tops,nt,ks,Z,cur,tc,going,tg,h3,z,hz,rfl,ht0,hg⟩:=hx11
  obtain ⟨ka,hka,hR,hat,hst⟩:=at_place h3 hz hg
  refine ((mstep_c S (h3.me (q:=q) (nt:=nt) hs hoff) (h3.kd hs hoff) hka hst hat ht0 (hg.elim (fun h=>.inl h.1) fun h=>.inr h.1)).deep (by omega)).post fun r fp' h=>?_
  obtain ⟨t,t2,tops',ks1,ks',K',mv1,mv,ht⟩:=h
  refine ⟨rfl,?_⟩
  rw [dE]
  have mv2:ci (fun i k=>bi k.R (cnt Z i (j + 1))) ks ks':=mv1.comp mv fun i k fp' hk=>by
   by_cases e:i = z.2
   ·subst e
    rw [hka] at hk;cases hk
    rw [if_pos rfl,dE,cnt_succ_same hz]
   ·rw [if_neg e,cnt_succ_other hz e]
    show fwdG going z.2 z.1.1 i k = _
    rcases hg with ⟨rfl,g⟩ | ⟨rfl,g⟩
    ·exact g _ _ hk
    ·show (if i = z.2 then k.st else if i < z.2 then cH k.R z.1.1 else bM k.R z.1.1) = _
     rw [if_neg e]
     have hr:=h3.rows _ _ hk
     by_cases e2:i < z.2
     ·rw [if_pos e2];unfold cH;rw [hr,turn_earlier h3.sorted hz e2]
     ·rw [if_neg e2,cV,hr,turn_later h3.sorted hz (by omega)]
  refine dM h3 mv2 K'.kids ht fun h'=>place_fwd h' ht fun i k' hk'=>?_
  obtain ⟨k0,a,_,b,c,_⟩:=mv2.same hk'
  rw [c,b]
 back:=by
  intro fp rest E0 x kd R j hx12 hs hoff
  obtain ⟨dx,ch,tp,o,q,cv,nc,tops,nt,ks,Z,cur,tc,going,tg,h3,z,hz,rfl,ht0,hg⟩:=hx12
  obtain ⟨ka,hka,hR,hat,hst⟩:=at_place h3 hz hg
  have hjl:=(List.getElem?_eq_some_iff.mp hz).1
  refine ((mback_c S (h3.me (q:=q) (nt:=nt) hs hoff) (h3.kd hs hoff) hka hst hat ht0 (hg.elim (fun h=>.inl h.1) fun h=>.inr h.1)).deep (by omega)).post fun r fp' h=>?_
  obtain ⟨t,t2,tops',ks1,ks',K',mv1,mv,ht⟩:=h
  refine ⟨rfl,?_⟩
  rw [prevAt_eq]
  have mv2:ci (fun i k=>bH (cnt Z i j)) ks ks':=mv1.comp mv fun i k fp' hk=>by
   by_cases e:i = z.2
   ·rw [if_pos e,e,prevAt_eq]
   ·rw [if_neg e]
    show bwdG going z.2 z.1.1 i k = _
    rcases hg with ⟨rfl,g⟩ | ⟨rfl,g⟩
    ·show (if i = z.2 then k.st else backOf k.R (if i < z.2 then cH k.R z.1.1 else bM k.R z.1.1)) = _
     rw [if_neg e]
     have hr:=h3.rows _ _ hk
     have hc:=cnt_le Z i j
     rw [← hr] at hc
     rw [← backOf_eq k.R hc]
     congr 1
     by_cases e2:i < z.2
     ·rw [if_pos e2];unfold cH;rw [hr,turn_earlier h3.sorted hz e2]
     ·rw [if_neg e2,cV,hr,turn_later h3.sorted hz (by omega)]
    ·have:=g _ _ hk
     rw [cnt_succ_other hz e] at this
     exact this
  refine dM h3 mv2 K'.kids ht fun h'=>place_bwd h' ht (by omega) fun i k' hk'=>?_
  obtain ⟨k0,a,_,b,c,_⟩:=mv2.same hk'
  exact c
end
end
section
open PySem PySem.W PyProof.Rows
set_option maxRecDepth 100000
set_option tactic.hygienic false
structure UP where
 h1:Int
 h2:Int
 h3:Int
 h4:Int
 h5:Int
 h6:Int
 h7:Int
 h8:Int
 t1:Tok
 t2:Tok
 t3:Tok
 t4:Tok
 t5:Tok
 t6:Tok
 t7:Tok
 t8:Tok
 tu:Tok
 tl:Tok
 th:Tok
noncomputable def bW (b:Option (Array UInt8)) (t:Tok):Value:=match b with | none=>.none | some b=>.bytes b t
noncomputable abbrev UD (q:UP) (inner:Addr) (upto:Int) (lo hi:Option (Array UInt8)) (going:Int) (tg:Tok) (good:Bool) (sk:Array UInt8) (tk:Tok) (sv:Array UInt8) (tv:Tok):Obj :=
 dictOf [⟨q.h1,.str "inner" q.t1,.ref inner⟩,⟨q.h2,.str "seq" q.t2,.int upto q.tu⟩,⟨q.h3,.str "low" q.t3,bW lo q.tl⟩,⟨q.h4,.str "high" q.t4,bW hi q.th⟩,⟨q.h5,.str "going" q.t5,.int going tg⟩,⟨q.h6,.str "good" q.t6,.bool good⟩,⟨q.h7,.str "saved_key" q.t7,.bytes sk tk⟩,⟨q.h8,.str "saved_value" q.t8,.bytes sv tv⟩] 8
noncomputable def bI (hi:Option (Array UInt8)) (u:Array UInt8):Bool:=match hi with | none=>false | some h=>!ltB u h
noncomputable def bP (lo:Option (Array UInt8)) (u:Array UInt8):Bool:=match lo with | none=>false | some l=>ltB u l
noncomputable def bg (skip:Option (Array UInt8)) (u:Array UInt8):Bool:=match skip with | none=>true | some s=>ltB s u
noncomputable def IK.seq (e:IK):Int:=e.tag / 256
noncomputable def IK.kind (e:IK):Int:=e.tag % 256
noncomputable def ffwd (hi:Option (Array UInt8)) (upto:Int):List Row→Nat→Option (Array UInt8)→Option Nat
 | [],_,_=>none
 | x::l,i,skip =>
  if bI hi x.1.u then none
  else if x.1.seq≤upto then
   if x.1.kind = 0 then ffwd hi upto l (i + 1) (if bg skip x.1.u then some x.1.u else skip)
   else if bg skip x.1.u then some i else ffwd hi upto l (i + 1) skip
  else ffwd hi upto l (i + 1) skip
noncomputable def cC (R:List Row) (h:Option Nat):Array UInt8:=match h with | none=>#[] | some j=>match R[j]? with | none=>#[] | some y=>y.1.u
noncomputable def eJ (R:List Row) (h:Option Nat):Array UInt8:=match h with | none=>#[] | some j=>match R[j]? with | none=>#[] | some y=>y.2
noncomputable def fbwd (lo:Option (Array UInt8)) (upto:Int) (R:List Row):Nat→Option Nat→Option Nat × Nat
 | 0,have_=>(have_,0)
 | n + 1,have_=>match R[n]? with
  | none=>(have_,n + 1)
  | some x =>
   if bP lo x.1.u then (have_,n + 1)
   else if x.1.seq≤upto then
    if have_.isSome && ltB x.1.u (cC R have_) then (have_,n + 1)
    else if x.1.kind = 0 then fbwd lo upto R n none else fbwd lo upto R n (some n)
   else fbwd lo upto R n have_
noncomputable def er (R:List Row) (u:Array UInt8):Nat→Nat
 | 0=>0
 | n + 1=>match R[n]? with
  | none=>n + 1
  | some x=>if ltB x.1.u u then n + 1 else er R u n
noncomputable def aQ (R:List Row) (st:Option Nat):Nat:=match st with | some i=>i | none=>R.length
theorem placeOf_start {R:List Row} {st:Option Nat} (h:∀ i,st = some i→i < R.length):bi R (aQ R st) = st:=by
 cases st with
 | none=>exact dI (Nat.lt_irrefl _)
 | some i=>exact cR (h i rfl)
theorem startOf_le {R:List Row} {st:Option Nat} (h:∀ i,st = some i→i < R.length):aQ R st≤R.length:=by
 cases st with
 | none=>exact Nat.le_refl _
 | some i=>exact Nat.le_of_lt (h i rfl)
theorem tag_pos (e:IK):0≤e.tag:=by unfold IK.tag;omega
section
variable {hi lo:Option (Array UInt8)} {upto:Int} {x:Row} {l:List Row} {i:Nat} {skip:Option (Array UInt8)}
end
section
variable {w:World} {dp un D:Nat} {gd:Option (List Code)} {cn:Str} {cs:Scope} {a f:Addr} {ccd:Value} {cl:List (Str × Addr)} {outer:List Env} {A₀:Around} {base h₀:Heap} {L:Addr} {m mg mb:MM} {mean:ExcName→Option Value} {s:Shared} {news fp rest:Led}
 {Q E:VS} {C:aN} {R:List Row} {inner du:Addr} {od:Obj} {kd:Bool} {args:List Value} {st':Option Nat}
theorem inner_call (H:∀ {E0:Led},(∀ p∈rest,p∈E0)→Off fp E0→am w D f args fp E0 fun r fp'=>r = .none∧ak fp' fp∧C fp' rest inner kd R st') (offi:Off fp rest) (offd:∀ p∈fp++rest,p.1≠du)
  (B:Below A₀ base outer h₀) (F:Fr h₀ L s.heap m) (X:(Mine.hd.heap_39 w.params).In h₀) (N:News h₀ L s.heap news) (T:Top VW (looseW VW []) mean mg mb h₀) (hk:cs.kind = .function) (hd:dp + D < recursionLimit) (hu:un + 8 * D < cLine)
  (hdu:(du,od)∈news) (hs:∀ p∈fp++rest,p∈news)
  (k:∀ fp' h' tk',Fr h₀ L h' m→News h₀ L h' ((du,od)::(fp'++rest))→ak fp' fp→C fp' rest inner kd R st'→Q .none { s with heap:=h',toks:=tk' }) :
  wpAny (model Challenge.rw_no0415_02.row.prog w) (ktrTop dp un gd cn cs L a ccd cl outer) (call (.ref f) args) Q E s:=by
 refine (H (E0:=(du,od)::rest) (fun p hp=>.tail _ hp) ?_).use B F X N T hk hd hu ?_ ?_
 ·intro p hp q hq
  rcases List.mem_cons.mp hq with rfl | h
  ·exact fun e=>offd p (aL hp) e.symm
  ·exact offi p hp q h
 ·intro p hp
  rcases List.mem_append.mp hp with h | h
  ·exact hs p (aL h)
  ·rcases List.mem_cons.mp h with rfl | h
   ·exact hdu
   ·exact hs p (aR h)
 ·intro r fp' h' tk' F' N' hx1
  obtain ⟨rfl,ha,hC⟩:=hx1
  refine k fp' h' tk' F' (bJ N' fun p hp=>?_) ha hC
  rcases List.mem_cons.mp hp with rfl | h
  ·exact aR (.head _)
  ·rcases List.mem_append.mp h with h | h
   ·exact aL h
   ·exact aR (.tail _ h)
end
theorem bN {fp fp' rest:Led} {du:Addr} (h:∀ p∈fp++rest,p.1≠du) (ha:ak fp' fp):∀ p∈fp'++rest,p.1≠du:=fun p hp=>by
 rcases List.mem_append.mp hp with g | g
 ·have:p.1∈fp.map (·.1):=ha ▸ List.mem_map_of_mem g
  obtain ⟨p',hp',e⟩:=List.mem_map.mp this
  rw [← e];exact h p' (aL hp')
 ·exact h p (aR g)
section
variable {w:World} {dp un:Nat} {gd:Option (List Code)} {cn:Str} {cs:Scope} {a:Addr} {ccd:Value} {cl:List (Str × Addr)} {outer:List Env} {A₀:Around} {base h₀:Heap} {L:Addr} {m mg mb:MM} {mean:ExcName→Option Value} {s:Shared} {rest:Led}
 {Q E:VS} {D:Nat} {C:aN} {u du inner:Addr} {kd:Bool} {R:List Row} {st:Option Nat} {fpi:Led} {q:UP} {upto going:Int} {lo hi:Option (Array UInt8)} {tg tsk tsv:Tok} {good:Bool} {sk sv:Array UInt8}
section
variable {w:World} {D:Nat} {F:FnC} {b:Bx} {m:MM} {φ:FP} {u du inner:Addr} {rest:Led} {q:UP} {upto going:Int} {lo hi:Option (Array UInt8)} {tg tsk tsv:Tok} {good:Bool} {sk sv:Array UInt8}
set_option maxRecDepth 100000
end
end
end
section
open PySem PySem.W PyProof.Rows
set_option maxHeartbeats 8000000
set_option maxRecDepth 100000
set_option tactic.hygienic false
section
variable {w:World} {D:Nat} {f C:Addr} {args:List Value} {rest:Led} {post:Value→Led→Prop} {name qual:Str} {params:Arguments} {body:List Stmt} {scope:Scope} {dV kV doc pm cdv ct oc:Value} {an od:Option Addr} {osl:Array (Option Value)} {binds:Addr→List (Str × Value)}
theorem makes_of (hm:makesIn (Mine.hd.heap_39 w.params) C = true) (hi:findIn (Mine.hd.heap_39 w.params) (.ref C) "__init__" = some (some (.ref f))) (hf:isFn (Mine.hd.heap_39 w.params) (.ref f) = true)
  (ho:(Mine.hd.heap_39 w.params).lookup f = some ⟨oc,od,.func (fnOf name qual params body scope dV kV doc pm an cdv ct),osl⟩) (hcd:codeIn (Mine.hd.heap_39 w.params) cdv qual = true)
  (hbind:∀ x s,BindsTo s (fnOf name qual params body scope dV kV doc pm an cdv ct) ⟨.ref x::args,[]⟩ (binds x)) (hloc:∀ x,∀ y∈binds x,scope.names.lookup y.1 = some .local)
  (hco:scope.isCoroutine = false) (hgen:scope.isGenerator = false) (hk:scope.kind = .function) (hcell:∀ x∈scope.names,x.2≠.cell)
  (h:∀ (b:Bx) (x dx:Addr),Okx w D b→(∀ p∈rest,@LT.lt Nat _ p.1 dx)→@LT.lt Nat _ dx x→∀ φ:FP,(∀ fl m' fp',retv fl = .none→post (.ref x) fp'→φ fl m' (fp'++rest)) →
   Lx w ⟨qual,scope,f,cdv⟩ b (execs body (evx ⟨qual,scope,f,cdv⟩ b)) φ (fun y=>(binds x).reverse.lookup y) ((x,instObj C dx)::(dx,dictOf [] 0)::rest)) :
  am w (D + 2) C args [] rest post:=by
 intro dp un gd cn cs a ccd cl outer A₀ base h₀ L m mg mb mean s Q E B F X N T hkk hd hu k
 refine call_cls F X N hm hi hf fun x dx h1 F1 N1 l1 l2=>?_
 refine code_def (s:={ s with heap:=h1 }) (env:=envX cn cs L a ccd cl) (outer:=outer) B F1 X N1 T rfl rfl hkk ho hcd ?_ (hbind x _) (hloc x) (fun g L' h' FG F' N' B' X' T'=>?_) hco hgen hk hcell
 ·show dp + 1 < recursionLimit;omega
 ·refine h ⟨dp + 2,un + _ + 3,_,[],envX cn cs L a ccd cl::outer,_,base,g,L',mg,mb,mean⟩ x dx ⟨B',X',T',by show dp + 2 + D < _;omega,?_⟩ l1 l2 (fun fl O led'=>retv fl = .none∧∃ fp',led' = fp'++rest∧post (.ref x) fp') (fun fl m' fp' hn hp=>⟨hn,fp',rfl,hp⟩) _ _ _ F' N' ?_
  ·show un + 1 + 3 + 8 * D < _
   omega
  ·intro fl m' led' h'' tk' hp F'' N''
   obtain ⟨hn,fp',rfl,hp⟩:=hp
   refine leaveK_ F'' N'' fun F3 N3=>?_
   exact ⟨hn,k _ _ _ _ F3 N3 hp⟩
end
section
variable {w:World} {D:Nat} {F:FnC} {b:Bx} {m:MM} {led:Led} {env:Env} {pos:Pos} {φ:FP} {x:Str}
theorem dO {lp:Pos} {φ:VP} (hq:∀ l,(∀ p∈led,@LT.lt Nat _ p.1 l)→φ (.ref l) m ((l,listOf #[] 0)::led)):Lx w F b (eval (.List [] lp) env) φ m led:=fun s Q E f N q =>
 List_ (args_nil (newList_K f N (fun l h' F' N' hlt=>q _ m _ h' _ (hq l hlt) F' N') (by decide)))
inductive FldU (w:World) (x:Str) (r C dx:Addr) (name:Str) (φ:Flow→MM→Led→Prop) (v:Value) (m:MM) (led:Led):Prop
 | mk (es:List DictEntry) (n:Nat) (led2:Tok→Led) (hv:m x = some (.ref r)) (m1:(r,instObj C dx)∈led) (m2:(dx,dictOf es n)∈led) (hl:(getL name es).isSome = true) (e:∀ t',(putL name (PyData.keyHash w.params name) (.str name t') v es,putN name es n) = (es++[⟨PyData.keyHash w.params name,.str name t',v⟩],n + 1))
  (U:∀ t',Upd dx (dictOf es n) (dictOf (es++[⟨PyData.keyHash w.params name,.str name t',v⟩]) (n + 1)) led (led2 t')) (hz:es.length≤900) (hq:∀ t',φ .next m (led2 t')):FldU w x r C dx name φ v m led
theorem cE {value:Expr} {xp pos':Pos} {r C dx:Addr} {name:Str} (ok:Okx w D b) (h:Lx w F b (eval value (evx F b)) (FldU w x r C dx name φ) m led)
  (hs':findIn (Mine.hd.heap_39 w.params) (.ref C) "__setattr__" = some (some (.builtin "object.__setattr__"))) (hp:plainOver (Mine.hd.heap_39 w.params) C = true) (ht:takerIn (Mine.hd.heap_39 w.params) C name = some none) (hh:hasDictIn (Mine.hd.heap_39 w.params) C = true)
  (hk:F.cs.kind = .function) (hx:(evx F b).kindOf x = some .local) (hd:(x == ("__debug__":Str)) = false)
  (hs:swapsWith value (some (.Attribute (.Name x xp) name pos')) pos.line (evx F b) = pure false):Lx w F b (exec (.Assign [.Attribute (.Name x xp) name pos'] value pos) (evx F b)) φ m led:=fun s Q E f N q =>
 plainObj_wpAny_Assign_Attribute (h s _ E f N fun a m' led' h' tk' pa F' N'=>by
  obtain ⟨es,n,led2,hv,m1,m2,hl,e,U,hz,hq⟩:=pa
  exact di hv hk hx hd _ _ E F' N' (set_dict F' ok.X N' (InstAt.of_news N' m1 m2) rfl hs' hp ht hh hl (e _) (U _) (by rw [List.length_append];exact Nat.le_trans (Nat.add_le_add_right hz 1) (by decide)) fun h2' F2' N2'=>q _ _ _ h2' _ (hq _) F2' N2')) hs
inductive AppU (l:Addr) (ψ:Value→MM→Led→Prop) (v:Value) (m:MM) (led:Led):Prop
 | mk (items:Array Value) (n:Nat) (led2:Led) (hm:(l,listOf items n)∈led) (U:Upd l (listOf items n) (listOf (items.push v) (n + 1)) led led2) (hz:items.size≤10000) (hq:ψ .none m led2):AppU l ψ v m led
theorem lx_append {o e:Expr} {apos:Pos} {pl:Sem Bool} {l:Addr} {items:Array Value} {n:Nat} {ψ:VP} (ho:Px w F b (eval o env) (fun a=>a = .ref l) m led) (hm:(l,listOf items n)∈led) (h:Lx w F b (eval e env) (AppU l ψ) m led)
  (ha:starEach [e] env = (false,eval e env)::starEach [] env)
  (hc:eval (.Call (.Attribute o "append" apos) [e] [] pos) env = (do
   let ov ← eval o env
   standAt apos.atName
   let (f,first) ← holding [ov] (getMethod ov "append" pl)
   callWith pos f first (backTo pos (starEach [e] env)) [])):Lx w F b (eval (.Call (.Attribute o "append" apos) [e] [] pos) env) ψ m led:=fun s Q E f N q =>
 MethodCall_ (ho s _ E f N fun a h' tk' pa F' N'=>by
  subst pa
  exact PySem.Calls.getMethod_list_append (N' _ hm).1 rfl rfl (callWith_method1 (args_cons (h _ _ E F' N' fun v m2 led2 h2 tk2 pv F2 N2=>by
   obtain ⟨its,n2,led3,hm2,U,hz,hq⟩:=pv
   exact args_nil (app_list F2 N2 U hz fun h3 F3 N3=>q _ _ _ h3 tk2 hq F3 N3)) ha) ha rfl)) hc
theorem lf0 {o:Expr} {fv:Value} {ψ:VP} (ok:Okx w D b) (h1:Px w F b (eval o env) (fun a=>a = fv) m led) (h4:Lx w F b (call fv []) ψ m led) (hk:keepIn (Mine.hd.heap_39 w.params) fv = true)
  (he:eval (.Call o [] [] pos) env = (do callWith pos (← eval o env) [] (backTo pos (starEach [] env)) (backToKw pos (keywordEach [] env)))):Lx w F b (eval (.Call o [] [] pos) env) ψ m led:=fun s Q E f N q =>
 Call_ (h1 s _ E f N fun a h' tk' pa F' N'=>by
  subst pa
  exact callWith_K0 (ok.X.keeps F'.keep) hk (h4 _ _ E F' N' q)) he
theorem lx_new0 {C:Addr} {ψ:VP} (ok:Okx w D b) (hm:makesIn (Mine.hd.heap_39 w.params) C = true) (hi:findIn (Mine.hd.heap_39 w.params) (.ref C) "__init__" = some (some (.builtin "object.__init__")))
  (hq:∀ y dy,(∀ p∈led,@LT.lt Nat _ p.1 dy)→@LT.lt Nat _ dy y→ψ (.ref y) m ((y,instObj C dy)::(dy,dictOf [] 0)::led)):Lx w F b (call (.ref C) []) ψ m led:=fun s Q E f N q =>
 call_cls0 f ok.X N hm hi fun y dy h' F' N' l1 l2=>q _ m _ h' s.toks (hq y dy l1 l2) F' N'
theorem sx_forL {px:Pos} {body rest:List Stmt} {it:Expr} {l:Addr} {items:Array Value} {n:Nat} (he:Px w F b (eval it (evx F b)) (fun a=>a = .ref l) m led)
  (J:Nat→MM→Led→Prop) (hl:∀ i m' nw,J i m' nw→(l,listOf items n)∈nw) (hj:J 0 m led)
  (turn:∀ i v m₁ led₁ I o,items[i]? = some v→J i m₁ led₁→(∀ p∈led₁,p.1≠I)→∀ Φ:FP,
   (∀ fl m' led' led2,fl = .next ∨ fl = .cont→J (i + 1) m' led'→(∀ p∈led',p∈led2)→(I,o)∈led2→(∀ p∈led',p.1≠I)→Φ fl m' led2)→(∀ v m' led',φ (.ret v) m' led'→Φ (.ret v) m' led') →
   Lx w F b (execs body (evx F b)) Φ (ms m₁ x v) ((I,o)::led₁))
  (hX:∀ m' led',J items.size m' led'→Lx w F b (execs rest (evx F b)) φ m' led') (hk:F.cs.kind = .function) (hx:(evx F b).kindOf x = some .local)
  (hf:∀ x,foldedSetIterable it (evx F b) x = pure x) :
  Lx w F b (execs (.For (.Name x px) it body [] pos::rest) (evx F b)) φ m led:=aj fun s Q E f N q=>by
 refine wpAny_mono (E:=fun O O=>False) (For_invV b.g (Q:=Q) hx (by show (F.cs.kind == .class || (F.cs.kind == .module && b.L != mainGlobals)) = false;rw [hk];rfl) ?_ hf ?_) (fun O O x=>x) fun O O x=>x.elim
 ·have hh:(tpx F b).handled = none:=rfl
  refine he s _ _ f N fun a h' tk' pa F' N'=>?_
  subst pa
  refine iter_listJ J hh F' N' hl hj (fun i v m₁ news₁ h tk I o hi hJ hne F₁ N₁=>?_) fun m₁ news₁ h tk hJ F₁ N₁=>q _ _ _ _ _ (hX _ _ hJ) F₁ N₁
  refine turn i v m₁ news₁ I o hi hJ hne (fun fl m' led'=>∀ (h':Heap) (tk':Nat),Fr b.g b.L h' m'→News b.g b.L h' led'→TurnJ b.g b.L (J (i + 1)) I o { s with heap:=h,toks:=tk } Q fl { s with heap:=h',toks:=tk' }) ?_ ?_ _ _ _ F₁ N₁ fun fl m' led' h' tk' hp F' N'=>hp h' tk' F' N'
  ·intro fl m' led' led2 hfl hJ' hsub hI hne' h' tk' F' N'
   rcases hfl with rfl | rfl <;> exact ⟨h',tk',m',led',led2,rfl,F',N',hI,hsub,hne',hJ'⟩
  ·intro v m' led' hp h' tk' F' N'
   exact q _ _ _ h' tk' hp F' N'
 ·passes_own
theorem lx_forUp {px:Pos} {body:List Stmt} {g e:Expr} {cp:Pos} {n:Nat} (ok:Okx w D b) (hr:Px w F b (eval g (evx F b)) (fun a=>a = .type "range") m led) (he:Px w F b (eval e (evx F b)) (IsI (n:Int)) m led) (hn:n≤1000000)
  (J:Nat→MM→Led→Prop) (hj:J 0 m led)
  (turn:∀ i m₁ led₁ I o t,i < n→J i m₁ led₁→(∀ p∈led₁,p.1≠I)→∀ Φ:FP,
   (∀ fl m' led' led2,fl = .next ∨ fl = .cont→J (i + 1) m' led'→(∀ p∈led',p∈led2)→(I,o)∈led2→(∀ p∈led',p.1≠I)→Φ fl m' led2)→(∀ v m' led',φ (.ret v) m' led'→Φ (.ret v) m' led') →
   Lx w F b (execs body (evx F b)) Φ (ms m₁ x (.int (i:Int) t)) ((I,o)::led₁))
  (hX:∀ m' led',J n m' led'→φ .next m' led') (hk:F.cs.kind = .function) (hx:(evx F b).kindOf x = some .local)
  (ha:starEach [e] (evx F b) = (false,eval e (evx F b))::starEach [] (evx F b))
  (hc:eval (.Call g [e] [] cp) (evx F b) = (do callWith cp (← eval g (evx F b)) [] (backTo cp (starEach [e] (evx F b))) (backToKw cp (keywordEach [] (evx F b)))))
  (hf:∀ x,foldedSetIterable (.Call g [e] [] cp) (evx F b) x = pure x) :
  Lx w F b (exec (.For (.Name x px) (.Call g [e] [] cp) body [] pos) (evx F b)) φ m led:=fun s Q E f N q=>by
 refine wpAny_mono (E:=fun O O=>False) (For_invV b.g (Q:=Q) hx (by show (F.cs.kind == .class || (F.cs.kind == .module && b.L != mainGlobals)) = false;rw [hk];rfl) ?_ hf ?_) (fun O O x=>x) fun O O x=>x.elim
 ·have hh:(tpx F b).handled = none:=rfl
  refine Call_ (hr s _ _ f N fun a h' tk' pa F' N'=>?_) hc
  subst pa
  refine Pv.callWith_type1 (az he ha _ _ _ F' N' fun vs h2' tk2' pa2 F2' N2'=>?_) ha rfl
  obtain ⟨_,rfl,t0,rfl⟩:=pa2
  refine range1_rows F2' N2' fun h3' tk3 t₁ u₁ v₁ R F3' N3' O=>?_
  refine iter_up (n:=n) J hh R hn F3' N3' hj (fun i t m₁ news₁ h tk I o hi hJ hne F₁ N₁=>?_) fun m₁ news₁ h tk hJ F₁ N₁=>q _ _ _ _ _ (hX _ _ hJ) F₁ N₁
  refine turn i m₁ news₁ I o t hi hJ hne (fun fl m' led'=>∀ (h':Heap) (tk':Nat),Fr b.g b.L h' m'→News b.g b.L h' led'→TurnJ b.g b.L (J (i + 1)) I o { s with heap:=h,toks:=tk } Q fl { s with heap:=h',toks:=tk' }) ?_ ?_ _ _ _ F₁ N₁ fun fl m' led' h' tk' hp F' N'=>hp h' tk' F' N'
  ·intro fl m' led' led2 hfl hJ' hsub hI hne' h' tk' F' N'
   rcases hfl with rfl | rfl <;> exact ⟨h',tk',m',led',led2,rfl,F',N',hI,hsub,hne',hJ'⟩
  ·intro v m' led' hp h' tk' F' N'
   exact q _ _ _ h' tk' hp F' N'
 ·passes_own
end
inductive FCs (g:Heap) (L c I:Addr) (s:Shared) (J:Nat→MM→Led→Prop) (St:Nat→Heap→Prop) (n:Nat):Nat→Shared→Prop
 | mk (h':Heap) (tk:Nat) (m':MM) (nw:Led) (i k:Nat) (oc:Obj) (v:Option Value) (hoc:oc.data = .cell v) (hst:St i h') (F:Fr g L h' m') (N:News g L h' ((c,oc)::nw)) (hne:∀ p∈nw,@Ne Nat p.1 I∧@Ne Nat p.1 c) (hJ:J i m' nw) (hi:i≤n) (hk:k = n + 1 - i):FCs g L c I s J St n k { s with heap:=h',toks:=tk }
inductive TCs (c I:Addr) (o:Obj) (J:MM→Led→Prop) (m:MM) (led:Led):Prop
 | mk (nw:Led) (oc:Obj) (v:Option Value) (hJ:J m nw) (hI:(I,o)∈led) (hc:(c,oc)∈led) (hoc:oc.data = .cell v) (hs:∀ p∈nw,p∈led) (hne:∀ p∈nw,@Ne Nat p.1 I∧@Ne Nat p.1 c):TCs c I o J m led
noncomputable def EndC (Q:FS) (I:Nat→Shared→Prop) (k:Nat):FS
 | .ret v,s=>Q (.ret v) s
 | .brk,s=>Q .next s
 | .next,s=>∃ k',k' < k∧I k' s
 | .cont,s=>∃ k',k' < k∧I k' s
section
variable {w:World} {D:Nat} {F:FnC} {b:Bx} {m:MM} {led own:Led} {φ:FP} {x:Str} {c:Addr} {J:Nat→MM→Led→Prop} {px pos:Pos} {body:List Stmt}
noncomputable def TurnC2 (w:World) (F:FnC) (b:Bx) (c:Addr) (J:Nat→MM→Led→Prop) (P:Nat→Value→Prop) (body:List Stmt) (n:Nat) (φ:FP):Prop :=
 ∀ i v m₁ nw I o oc,i < n→P i v→J i m₁ nw→(∀ p∈nw,@Ne Nat p.1 I∧@Ne Nat p.1 c)→@Ne Nat c I→oc.data = .cell (some v)→∀ Φ:FP,
  (∀ fl m' led',fl = .next ∨ fl = .cont→TCs c I o (J (i + 1)) m' led'→Φ fl m' led')→(∀ v m' led',φ (.ret v) m' led'→Φ (.ret v) m' led')→Lx w F b (execs body (evx F b)) Φ m₁ ((I,o)::(c,oc)::nw)
theorem loop_C {I:Addr} {fp:List Addr} {n:Nat} {P:Nat→Value→Prop} {St:Nat→Heap→Prop} {s:Shared} {Q:FS} {oc:Obj} {v:Option Value}
  (W:Walks PG w (tpx F b) I fp [I] n P St) (hfp:∀ x∈fp,x = I ∨ ∃ o,(x,o)∈own) (hown:∀ i m' nw,J i m' nw→∀ p∈own,p∈nw) (hL:@Ne Nat b.L I) (hcI:@Ne Nat c I) (hLc:@Ne Nat b.L c) (hI0:b.g.get? I = none) (hStI:∀ i h,St i h→∃ o,h.get? I = some o)
  (hoc:oc.data = .cell v) (hst:St 0 s.heap) (f:Fr b.g b.L s.heap m) (N:News b.g b.L s.heap ((c,oc)::led)) (hne:∀ p∈led,@Ne Nat p.1 I∧@Ne Nat p.1 c) (hj:J 0 m led) (turn:TurnC2 w F b c J P body n φ) (hX:∀ m' led' oc v,oc.data = .cell v→J n m' led'→(∀ p∈led',@Ne Nat p.1 c)→φ .next m' ((c,oc)::led'))
  (q:∀ a m' led' h' tk',φ a m' led'→Fr b.g b.L h' m'→News b.g b.L h' led'→Q a { s with heap:=h',toks:=tk' })
  (hk:F.cs.kind = .function) (hx:(evx F b).kindOf x = some .cell) (hc:b.cl.lookup x = some c) (hE:PassesOwn (model PG w) (tpx F b) (evx F b) fun O O=>False) :
  codeAny (model PG w) (tpx F b) (.forLoop (.Name x px) (.ref I) body [] (evx F b)) (fun r s'=>match r with | .ok f=>Q f s' | .error e=>cameBackBy (model PG w) (tpx F b) (evx F b) (fun O O=>False) e s') s:=by
 revert w F b m led own φ x c J px body I fp n P St s Q oc v
 refine no_implicit_lambda% (aW ?_)
 refine no_implicit_lambda% (aW ?_)
 refine no_implicit_lambda% (aW ?_)
 refine no_implicit_lambda% (e24 ?n fun T0=>(?_:bp T0) () () () _ _ _ _ _ _ _ _ _ _ _ _ _ _ _ _ _ _ _ _ _)
 case n=>fail "n"
 intro O O O w F b m led own φ x c J px body I fp n P St s Q oc v
 intros
 clear T0
 refine codeAny_forLoop (FCs b.g b.L c I s J St n) ?_ (n + 1) (.mk s.heap s.toks m led 0 _ oc v hoc hst f N hne hj (Nat.zero_le _) rfl)
 intro k s' hx1
 obtain ⟨h',tk,m',nw,i,_,oc',vc',hoc',hst',F',N',hne',hJ,hi,hkn⟩:=hx1
 have nI:∀ {x:Addr},@Ne Nat x I→x ∉ [I]:=fun hne hm=>hne (List.mem_singleton.mp hm)
 have next:∀ h₁:Heap,(∀ b o,b ∉ [I]→h'.get? b = some o→h₁.get? b = some o)→Fr b.g b.L h₁ m'∧News b.g b.L h₁ ((c,oc')::nw):=fun h₁ hk₁ =>
  ⟨⟨F'.ns.at' fun o e=>hk₁ _ o (nI hL) e,fun b o e=>hk₁ b o (nI fun q=>by rw [q,hI0] at e;cases e) (F'.keep b o e),F'.above⟩,fun p hp=>⟨hk₁ _ _ (nI (by
   fail "c"
   ·exact hcI
   ·exact (hne' p hp).1)) (N' p hp).1,(N' p hp).2⟩⟩
 by_cases hlt:i < n
 ·refine W.item i _ _ _ hlt hst' fun v h₁ tk₁ hP hst₁ hk₁=>?_
  obtain ⟨F₁,N₁⟩:=next h₁ hk₁
  have hm1:=N₁ (c,oc') (.head _)
  refine wpAny_assign_Name (wpAny_storeName_cell hk hx hc ⟨oc',hm1.1,hoc'⟩ fun h₂ hv₂ hs₂=>?_)
  obtain ⟨oc₂,hg₂,hd₂⟩:=hv₂
  obtain ⟨o,ho⟩:=hStI _ _ hst₁
  have ho₂:h₂.get? I = some o:=(hs₂.2 I fun q=>hcI q.symm).trans ho
  have F₂:Fr b.g b.L h₂ m':=⟨F₁.ns.sameBut hs₂ hLc,fun b ob e=>(hs₂.2 b (fun q=>by rw [q,hm1.2.2] at e;cases e)).trans (F₁.keep b ob e),F₁.above⟩
  have N₂:News b.g b.L h₂ ((I,o)::(c,oc₂)::nw):=fun p hp=>by
   fail "c"
   ·exact ⟨ho₂,fun q=>hL q.symm,hI0⟩
   ·fail "c"
    ·exact ⟨hg₂,hm1.2⟩
    ·have z:=N₁ p (.tail _ hp)
     exact ⟨(hs₂.2 p.1 (hne' p hp).2).trans z.1,z.2⟩
  have st₂:St (i + 1) h₂:=W.frame _ _ _ hst₁ fun b hb o' e=>by
   rcases hfp b hb with rfl | ⟨ob,hob⟩
   ·rw [ho] at e
    cases e
    exact ho₂
   ·exact (hs₂.2 b (hne' _ (hown _ _ _ hJ _ hob)).2).trans e
  have hend:∀ (fl:Flow) (m':MM) (led':Led),fl = .next ∨ fl = .cont→TCs c I o (J (i + 1)) m' led'→∀ (h':Heap) (tk':Nat),Fr b.g b.L h' m'→News b.g b.L h' led'→EndC Q (FCs b.g b.L c I s J St n) k fl { s with heap:=h',toks:=tk' }:=fun fl m' led' hfl ht h' tk' F₃ N₃=>by
   obtain ⟨nw₃,oc₃,v₃,hJ₃,hI₃,hc₃,hoc₃,hs₃,hne₃⟩:=ht
   have hst₃:St (i + 1) h':=W.frame _ _ _ st₂ fun b hb o' e=>by
    rcases hfp b hb with rfl | ⟨ob,hob⟩
    ·rw [ho₂] at e
     cases e
     exact (N₃ _ hI₃).1
    ·have z:h₂.get? b = some ob:=(N₂ _ (.tail _ (.tail _ (hown _ _ _ hJ _ hob)))).1
     rw [z] at e
     cases e
     exact (N₃ _ (hs₃ _ (hown _ _ _ hJ₃ _ hob))).1
   have hf:∃ k',k' < k∧FCs b.g b.L c I s J St n k' { s with heap:=h',toks:=tk' }:=⟨n + 1 - (i + 1),hkn ▸ Nat.sub_lt_sub_left (Nat.lt_succ_of_lt hlt) (Nat.lt_succ_self i),.mk h' tk' m' nw₃ (i + 1) _ oc₃ v₃ hoc₃ hst₃ F₃ (fun p hp=>by
    fail "c"
    ·exact N₃ _ hc₃
    ·exact N₃ p (hs₃ p hp)) hne₃ hJ₃ hlt rfl⟩
   rcases hfl with rfl | rfl
   ·exact hf
   ·exact hf
  refine wpAny_mono (wpAny_passesOwn hE (turn i v m' nw I o oc₂ hlt hP hJ hne' hcI hd₂ (fun fl m' led'=>∀ (h':Heap) (tk':Nat),Fr b.g b.L h' m'→News b.g b.L h' led'→EndC Q (FCs b.g b.L c I s J St n) k fl { s with heap:=h',toks:=tk' }) hend (fun v m' led' hp h' tk' F' N'=>q _ _ _ h' tk' hp F' N') _ (EndC Q (FCs b.g b.L c I s J St n) k) _ F₂ N₂ fun fl m' led' h' tk' hp F' N'=>hp h' tk' F' N')) (fun fl s₃ h₃=>?_) fun O O e=>e
  cases fl with
  | ret v=>exact h₃
  | brk=>exact h₃
  | cont=>exact h₃
  | next=>exact h₃
 ·have hin:i = n:=by omega
  subst hin
  refine W.done _ _ _ hst' fun h₁ tk₁ hk₁=>wpAny_execs_nil ?_
  obtain ⟨F₁,N₁⟩:=next h₁ hk₁
  exact q _ _ _ h₁ tk₁ (hX m' nw oc' vc' hoc' hJ fun p hp=>(hne' p hp).2) F₁ N₁
theorem lx_forUpC {g e:Expr} {cp:Pos} {n:Nat} {oc:Obj} {v:Option Value} (hr:Px w F b (eval g (evx F b)) (fun a=>a = .type "range") m ((c,oc)::led)) (he:Px w F b (eval e (evx F b)) (IsI (n:Int)) m ((c,oc)::led)) (hn:n≤1000000) (hoc:oc.data = .cell v) (hne:∀ p∈led,@Ne Nat p.1 c) (J:Nat→MM→Led→Prop) (hj:J 0 m led)
  (turn:TurnC2 w F b c J (fun i v=>IsI (i:Int) v) body n φ) (hX:∀ m' led' oc v,oc.data = .cell v→J n m' led'→(∀ p∈led',@Ne Nat p.1 c)→φ .next m' ((c,oc)::led')) (hk:F.cs.kind = .function) (hx:(evx F b).kindOf x = some .cell) (hcl:b.cl.lookup x = some c)
  (ha:starEach [e] (evx F b) = (false,eval e (evx F b))::starEach [] (evx F b))
  (hc:eval (.Call g [e] [] cp) (evx F b) = (do callWith cp (← eval g (evx F b)) [] (backTo cp (starEach [e] (evx F b))) (backToKw cp (keywordEach [] (evx F b)))))
  (hf:∀ x,foldedSetIterable (.Call g [e] [] cp) (evx F b) x = pure x):Lx w F b (exec (.For (.Name x px) (.Call g [e] [] cp) body [] pos) (evx F b)) φ m ((c,oc)::led):=fun s Q E f N q=>by
 refine wpAny_mono (E:=fun O O=>False) (wpAny_For (Q:=Q) ?_ hf) (fun O O x=>x) fun O O x=>x.elim
 have hh:(tpx F b).handled = none:=rfl
 refine Call_ (hr s _ _ f N fun a h' tk' pa F' N'=>?_) hc
 subst pa
 refine Pv.callWith_type1 (az he ha _ _ _ F' N' fun vs h2' tk2' pa2 F2' N2'=>?_) ha rfl
 obtain ⟨_,rfl,t0,rfl⟩:=pa2
 refine range1_rows F2' N2' fun h3' tk3 t₁ u₁ v₁ R F3 N3 O=>?_
 refine wpAny_pyIter_range R (small_up hn) ?_
 have h3:=N3 (c,oc) (.head _)
 have hcI:@Ne Nat c h3'.objs.size:=Nat.ne_of_lt (Heap.lt_size h3.1)
 exact loop_C (own:=[]) (n:=n) (Walks.range (prog:=PG) (w:=w) hh h3'.objs.size 0 1 n) (fun b hb=>.inl (List.mem_singleton.mp hb)) (fun O O O O p hp=>nomatch hp) (fun e=>absurd F3.ns.lt (e ▸ Nat.lt_irrefl _)) hcI (fun q=>h3.2.1 q.symm) (next_is_new F3) (fun i h hs=>⟨_,hs⟩) hoc (by show IsRangeIter _ _ _ _ _;rw [size_up];simpa using Heap.get?_push_size _ rfl) (F3.push _) (fun p hp=>⟨Heap.get?_push_of_some _ (N3 p hp).1,(N3 p hp).2⟩) (fun p hp=>⟨fun e=>absurd (Heap.lt_size (N3 p (.tail _ hp)).1) (e ▸ Nat.lt_irrefl _),hne p hp⟩) hj (fun i v m₁ nw I o oc hi hP=>turn i v m₁ nw I o oc hi (by obtain ⟨t,rfl⟩:=hP;exact ⟨t,congrArg (Value.int · t) (by omega)⟩)) hX q hk hx hcl (by passes_own)
inductive ItU (w:World) (F:FnC) (b:Bx) (c:Addr) (body:List Stmt) (φ:Flow→MM→Led→Prop):Value→MM→Led→Prop
 | mk {m:MM} {led':Led} (led:Led) (l:Addr) (items:Array Value) (n:Nat) (oc:Obj) (v:Option Value) (J:Nat→MM→Led→Prop) (hs:∀ p∈(c,oc)::led,p∈led') (hl:∀ i m' nw,J i m' nw→(l,listOf items n)∈nw) (hoc:oc.data = .cell v) (hne:∀ p∈led,@Ne Nat p.1 c) (hj:J 0 m led)
  (turn:TurnC2 w F b c J (fun i v=>items[i]? = some v) body items.size φ) (hX:∀ m' led' oc v,oc.data = .cell v→J items.size m' led'→(∀ p∈led',@Ne Nat p.1 c)→φ .next m' ((c,oc)::led')):ItU w F b c body φ (.ref l) m led'
end
section
variable {w:World} {D:Nat} {rest:Led} {rl od inner pl:Addr} {upto:Int} {tu tl th:Tok} {lo hi:Option (Array UInt8)}
inductive LNew (rest:Led) (rl od:Addr):Value→Led→Prop
 | mk (x dx:Addr) (q:LP) (t:Tok) (hne:@Ne Nat x dx) (hoff:∀ p∈rest,@Ne Nat p.1 x∧@Ne Nat p.1 dx):LNew rest rl od (.ref x) [(x,instObj 380 dx),(dx,LD q rl od (-1) t)]
theorem fld_x {F:FnC} {b:Bx} {m:MM} {x dx C:Addr} {name self:Str} {φ:FP} {t:Sem Value} {P:Value→Prop} {es:List DictEntry} {n:Nat} (h:Px w F b t P m ((x,instObj C dx)::(dx,dictOf es n)::rest)) (hv:m self = some (.ref x)) (l1:∀ p∈rest,@LT.lt Nat _ p.1 dx) (l2:@LT.lt Nat _ dx x)
  (hl:(getL name es).isSome = true) (e:∀ v t',(putL name (PyData.keyHash w.params name) (.str name t') v es,putN name es n) = (es++[⟨PyData.keyHash w.params name,.str name t',v⟩],n + 1)) (hz:es.length≤900)
  (hq:∀ v t',P v→φ .next m ((x,instObj C dx)::(dx,dictOf (es++[⟨PyData.keyHash w.params name,.str name t',v⟩]) (n + 1))::rest)):Lx w F b t (FldU w self x C dx name φ) m ((x,instObj C dx)::(dx,dictOf es n)::rest) :=
 h.lx fun v pv=>.mk es n _ hv (.head _) (.tail _ (.head _)) hl (e v) (fun t'=>.tail (Nat.ne_of_lt l2).symm (.head fun p hp=>Nat.ne_of_lt (l1 p hp))) hz fun t'=>hq v t' pv
theorem linit_c:am w (D + 2) 380 [.ref rl,.ref od] [] rest (LNew rest rl od):=by
 refine' makes_of (binds:=fun x=>[("self",.ref x),("rows",.ref rl),("order",.ref od)]) ?hm ?hi ?hf ?ho ?hcd ?hb ?hl ?c1 ?c2 ?c3 ?c4 ?_
 (case hm=>with_unfolding_all rfl)
 (case hi=>with_unfolding_all rfl)
 (case hf=>with_unfolding_all rfl)
 (case ho=>with_unfolding_all rfl)
 (case hcd=>with_unfolding_all rfl)
 (case hb=>exact fun x s=>BindsTo.of_eq rfl)
 (case hl=>exact fun x=>locs rfl)
 (case c1=>rfl)
 (case c2=>rfl)
 (case c3=>rfl)
 (case c4=>decide)
 intro bb x dx ok l1 l2 φ kφ
 refine aj (cE (C:=380) (r:=x) (dx:=dx) ok (fld_x decl_name% rfl l1 l2 rfl (fun O O=>rfl) (Nat.le_of_ble_eq_true rfl) fun v t1 hv=>?_) (by fail "p") nofun (by fail "q") nofun rfl rfl rfl rfl)
 subst hv
 refine aj (cE (C:=380) (r:=x) (dx:=dx) ok (fld_x decl_name% rfl l1 l2 rfl (fun O O=>rfl) (Nat.le_of_ble_eq_true rfl) fun v t2 hv=>?_) (by fail "p") nofun (by fail "q") nofun rfl rfl rfl rfl)
 subst hv
 refine aj (cE (C:=380) (r:=x) (dx:=dx) ok (fld_x (cQ ab) rfl l1 l2 rfl (fun O O=>rfl) (Nat.le_of_ble_eq_true rfl) fun v t3 hv=>?_) (by fail "p") nofun (by fail "q") nofun rfl rfl rfl rfl)
 obtain ⟨t,rfl⟩:=hv
 exact ae (kφ .next _ [_,_] rfl (.mk x dx ⟨_,_,_,t1,t2,t3⟩ t (Nat.ne_of_lt l2).symm fun p hp=>⟨Nat.ne_of_lt (Nat.lt_trans (l1 p hp) l2),Nat.ne_of_lt (l1 p hp)⟩))
inductive UNew (rest:Led) (inner:Addr) (upto:Int) (lo hi:Option (Array UInt8)):Value→Led→Prop
 | mk (x dx:Addr) (q:UP) (tg tk1 tv1:Tok) (hne:@Ne Nat x dx) (hoff:∀ p∈rest,@Ne Nat p.1 x∧@Ne Nat p.1 dx):UNew rest inner upto lo hi (.ref x) [(x,instObj 611 dx),(dx,UD q inner upto lo hi 0 tg false #[] tk1 #[] tv1)]
theorem uinit_c:am w (D + 2) 611 [.ref inner,.int upto tu,.ref od,bW lo tl,bW hi th] [] rest (UNew rest inner upto lo hi):=by
 revert w D rest od inner upto tu tl th lo hi
 refine no_implicit_lambda% (aW ?_)
 refine no_implicit_lambda% (e12 ?n fun T0=>(?_:bp T0) () _ _ _ _ _ _ _ _ _ _ _)
 case n=>fail "n"
 intro O w D rest od inner upto tu tl th lo hi
 intros
 clear T0
 refine' makes_of (binds:=fun x=>[("self",.ref x),("inner",.ref inner),("seq",.int upto tu),("order",.ref od),("low",bW lo tl),("high",bW hi th)]) ?hm ?hi ?hf ?ho ?hcd ?hb ?hl ?c1 ?c2 ?c3 ?c4 ?_
 (case hm=>with_unfolding_all rfl)
 (case hi=>with_unfolding_all rfl)
 (case hf=>with_unfolding_all rfl)
 (case ho=>with_unfolding_all rfl)
 (case hcd=>with_unfolding_all rfl)
 (case hb=>exact fun x s=>BindsTo.of_eq rfl)
 (case hl=>exact fun x=>locs rfl)
 (case c1=>rfl)
 (case c2=>rfl)
 (case c3=>rfl)
 (case c4=>decide)
 intro bb x dx ok l1 l2 φ kφ
 refine aj (cE (C:=611) (r:=x) (dx:=dx) ok (fld_x decl_name% rfl l1 l2 rfl (fun O O=>rfl) (Nat.le_of_ble_eq_true rfl) fun v t1 hv=>?_) (by fail "p") nofun (by fail "q") nofun rfl rfl rfl rfl)
 subst hv
 refine aj (cE (C:=611) (r:=x) (dx:=dx) ok (fld_x decl_name% rfl l1 l2 rfl (fun O O=>rfl) (Nat.le_of_ble_eq_true rfl) fun v t2 hv=>?_) (by fail "p") nofun (by fail "q") nofun rfl rfl rfl rfl)
 subst hv
 refine aj (cE (C:=611) (r:=x) (dx:=dx) ok (fld_x decl_name% rfl l1 l2 rfl (fun O O=>rfl) (Nat.le_of_ble_eq_true rfl) fun v t3 hv=>?_) (by fail "p") nofun (by fail "q") nofun rfl rfl rfl rfl)
 subst hv
 refine aj (cE (C:=611) (r:=x) (dx:=dx) ok (fld_x decl_name% rfl l1 l2 rfl (fun O O=>rfl) (Nat.le_of_ble_eq_true rfl) fun v t4 hv=>?_) (by fail "p") nofun (by fail "q") nofun rfl rfl rfl rfl)
 subst hv
 refine aj (cE (C:=611) (r:=x) (dx:=dx) ok (fld_x (au ok nofun rfl rfl rfl) rfl l1 l2 rfl (fun O O=>rfl) (Nat.le_of_ble_eq_true rfl) fun v t5 hv=>?_) (by fail "p") nofun (by fail "q") nofun rfl rfl rfl rfl)
 obtain ⟨tg,rfl⟩:=hv
 refine aj (cE (C:=611) (r:=x) (dx:=dx) ok (fld_x bX rfl l1 l2 rfl (fun O O=>rfl) (Nat.le_of_ble_eq_true rfl) fun v t6 hv=>?_) (by fail "p") nofun (by fail "q") nofun rfl rfl rfl rfl)
 subst hv
 refine aj (cE (C:=611) (r:=x) (dx:=dx) ok (fld_x px_bytes rfl l1 l2 rfl (fun O O=>rfl) (Nat.le_of_ble_eq_true rfl) fun v t7 hv=>?_) (by fail "p") nofun (by fail "q") nofun rfl rfl rfl rfl)
 obtain ⟨tk1,rfl⟩:=hv
 refine aj (cE (C:=611) (r:=x) (dx:=dx) ok (fld_x px_bytes rfl l1 l2 rfl (fun O O=>rfl) (Nat.le_of_ble_eq_true rfl) fun v t8 hv=>?_) (by fail "p") nofun (by fail "q") nofun rfl rfl rfl rfl)
 obtain ⟨tv1,rfl⟩:=hv
 exact ae (kφ .next _ [_,_] rfl (.mk x dx ⟨_,_,_,_,_,_,_,_,t1,t2,t3,t4,t5,t6,t7,t8,tu,tl,th⟩ tg tk1 tv1 (Nat.ne_of_lt l2).symm fun p hp=>⟨Nat.ne_of_lt (Nat.lt_trans (l1 p hp) l2),Nat.ne_of_lt (l1 p hp)⟩))
inductive ONew (rest:Led):Value→Led→Prop
 | mk (od:Addr) (fp:Led) (h:cA (fp++rest) od) (hlt:∀ p∈fp,∀ q∈rest,@LT.lt Nat _ q.1 p.1):ONew rest (.ref od) fp
theorem order_c:am w (D + 2) 284 [] [] rest (ONew rest):=by
 refine' makes_of (binds:=fun x=>[("self",.ref x)]) ?hm ?hi ?hf ?ho ?hcd ?hb ?hl ?c1 ?c2 ?c3 ?c4 ?_
 (case hm=>with_unfolding_all rfl)
 (case hi=>with_unfolding_all rfl)
 (case hf=>with_unfolding_all rfl)
 (case ho=>with_unfolding_all rfl)
 (case hcd=>with_unfolding_all rfl)
 (case hb=>exact fun x s=>BindsTo.of_eq rfl)
 (case hl=>exact fun x=>locs rfl)
 (case c1=>rfl)
 (case c2=>rfl)
 (case c3=>rfl)
 (case c4=>decide)
 intro bb x dx ok l1 l2 φ kφ
 refine aj (cE (C:=284) (r:=x) (dx:=dx) ok (lf0 (fv:=.ref 230) ok (ao ok nofun rfl rfl rfl) (lx_new0 ok nofun nofun fun y dy g1 g2=>?_) nofun rfl) (by fail "p") nofun (by fail "q") nofun rfl rfl rfl rfl)
 have n1:∀ p∈rest,@LT.lt Nat _ p.1 dy:=fun p hp=>g1 p (.tail _ (.tail _ hp))
 have n2:=g1 _ (.tail _ (.head _))
 have n3:=g1 _ (.head _)
 refine .mk [] 0 _ rfl (.tail _ (.tail _ (.head _))) (.tail _ (.tail _ (.tail _ (.head _)))) rfl (fun O=>rfl) (fun t=>.tail (Nat.ne_of_lt (Nat.lt_trans n2 g2)).symm (.tail (Nat.ne_of_lt n2).symm (.tail (Nat.ne_of_lt l2).symm (.head fun p hp=>Nat.ne_of_lt (l1 p hp))))) (by decide) fun t=>?_
 refine ae (kφ .next _ [_,_,_,_] rfl (.mk x _ ⟨dx,y,dy,_,t,_,.tail _ (.tail _ (.head _)),.tail _ (.tail _ (.tail _ (.head _))),.head _,.tail _ (.head _)⟩ fun p hp q hq=>?_))
 fail "c"
 ·exact Nat.lt_trans (n1 q hq) g2
 ·fail "c"
  ·exact n1 q hq
  ·fail "c"
   ·exact Nat.lt_trans (l1 q hq) l2
   ·rw [List.mem_singleton.mp hp];exact l1 q hq
inductive MNew (rest:Led) (vs:Array Value) (od:Addr):Value→Led→Prop
 | mk (x dx ch tp:Addr) (q:MP) (tc tg:Tok) (nc nt:Nat) (tops:Array Value) (fp:Led) (ht:tops.size = vs.size) (hne:x≠dx∧x≠ch∧x≠tp∧dx≠ch∧dx≠tp∧ch≠tp) (hoff:∀ p∈rest,p.1≠x∧p.1≠dx∧p.1≠ch∧p.1≠tp)
  (hs:∀ p∈(x,instObj 506 dx)::(dx,MD q ch tp od (-1) tc 0 tg)::(ch,listOf vs nc)::(tp,listOf tops nt)::rest,p∈fp++rest):MNew rest vs od (.ref x) fp
inductive MJ (w:World) (rest:Led) (x dx ch tp od:Addr) (vs:Array Value) (t1 t2:Tok):Nat→MM→Led→Prop
 | mk (i:Nat) (m:MM) (cv tops:Array Value) (nc nt:Nat) (e1:m "self" = some (.ref x)) (e2:m "order" = some (.ref od)) (hc:cv.toList = vs.toList.take i) (ht:tops.size = i):MJ w rest x dx ch tp od vs t1 t2 i m ((tp,listOf tops nt)::(ch,listOf cv nc)::(x,instObj 506 dx)::(dx,dictOf [⟨PyData.keyHash w.params (Str.ofString "children"),.str "children" t1,.ref ch⟩,⟨PyData.keyHash w.params (Str.ofString "tops"),.str "tops" t2,.ref tp⟩] 2)::rest)
theorem minit_c {vs:Array Value} {n:Nat} (hl:(pl,listOf vs n)∈rest) (hn:vs.size≤1000):am w (D + 2) 506 [.ref pl,.ref od] [] rest (MNew rest vs od):=by
 revert w D rest od pl vs n
 refine no_implicit_lambda% (aW ?_)
 refine no_implicit_lambda% (e8 ?n fun T0=>(?_:bp T0) () _ _ _ _ _ _ _)
 case n=>fail "n"
 intro O w D rest od pl vs n
 intros
 clear T0
 refine' makes_of (binds:=fun x=>[("self",.ref x),("iters",.ref pl),("order",.ref od)]) ?hm ?hi ?hf ?ho ?hcd ?hb ?hl ?c1 ?c2 ?c3 ?c4 ?_
 (case hm=>with_unfolding_all rfl)
 (case hi=>with_unfolding_all rfl)
 (case hf=>with_unfolding_all rfl)
 (case ho=>with_unfolding_all rfl)
 (case hcd=>with_unfolding_all rfl)
 (case hb=>exact fun x s=>BindsTo.of_eq rfl)
 (case hl=>exact fun x=>locs rfl)
 (case c1=>rfl)
 (case c2=>rfl)
 (case c3=>rfl)
 (case c4=>decide)
 intro bb x dx ok l1 l2 φ kφ
 have k1:∀ p∈rest,@Ne Nat p.1 dx:=fun p hp=>Nat.ne_of_lt (l1 p hp)
 have k2:∀ p∈rest,@Ne Nat p.1 x:=fun p hp=>Nat.ne_of_lt (Nat.lt_trans (l1 p hp) l2)
 refine aj (cE (C:=506) (r:=x) (dx:=dx) ok (dO fun ch gc=>.mk [] 0 _ rfl (.tail _ (.head _)) (.tail _ (.tail _ (.head _))) rfl (fun O=>rfl) (fun t=>.tail (Nat.ne_of_lt (gc _ (.tail _ (.head _)))).symm (.tail (Nat.ne_of_lt l2).symm (.head k1))) (by decide) fun t1=>?_) (by fail "p") nofun (by fail "q") nofun rfl rfl rfl rfl)
 refine aj (cE (C:=506) (r:=x) (dx:=dx) ok (dO fun tp gt=>.mk [_] 1 _ rfl (.tail _ (.tail _ (.head _))) (.tail _ (.tail _ (.tail _ (.head _)))) rfl (fun O=>rfl) (fun t=>.tail (Nat.ne_of_lt (gt _ (.tail _ (.tail _ (.head _))))).symm (.tail (Nat.ne_of_lt (gc _ (.tail _ (.head _)))).symm (.tail (Nat.ne_of_lt l2).symm (.head k1)))) (Nat.le_of_ble_eq_true rfl) fun t2=>?_) (by fail "p") nofun (by fail "q") nofun rfl rfl rfl rfl)
 have c1:@Ne Nat x ch:=Nat.ne_of_lt (gc _ (.head _))
 have c2:@Ne Nat dx ch:=Nat.ne_of_lt (gc _ (.tail _ (.head _)))
 have c3:∀ p∈rest,@Ne Nat p.1 ch:=fun p hp=>Nat.ne_of_lt (gc p (.tail _ (.tail _ hp)))
 have d0:@Ne Nat ch tp:=Nat.ne_of_lt (gt _ (.head _))
 have d1:@Ne Nat x tp:=Nat.ne_of_lt (gt _ (.tail _ (.head _)))
 have d2:@Ne Nat dx tp:=Nat.ne_of_lt (gt _ (.tail _ (.tail _ (.head _))))
 have d3:∀ p∈rest,@Ne Nat p.1 tp:=fun p hp=>Nat.ne_of_lt (gt p (.tail _ (.tail _ (.tail _ hp))))
 refine sx_forL (l:=pl) (items:=vs) (n:=n) decl_name% (MJ w rest x dx ch tp od vs t1 t2) (fun i m' nw h=>by cases h;exact .tail _ (.tail _ (.tail _ (.tail _ hl)))) (.mk 0 _ #[] #[] 0 0 rfl rfl rfl rfl) (fun i v m₁ led₁ I o hv hJ hI Φ hΦ hR=>?_) (fun m' led' hJ=>?_) rfl rfl (fun O=>rfl)
 ·obtain ⟨cv,tops,nc,nt,e1,e2,hc,ht⟩:=hJ
  have hi:i < vs.size:=(Array.getElem?_eq_some_iff.mp hv).1
  have i1:=hI _ (.head _)
  have i2:=hI _ (.tail _ (.head _))
  have hcz:cv.size = i:=by
   have:=congrArg List.length hc
   simpa [Nat.min_eq_left (Nat.le_of_lt hi)] using this
  refine aO (lx_append (l:=ch) (items:=cv) (n:=nc) ((ag ok e1 (.tail _ (.tail _ (.tail _ (.head _)))) (.tail _ (.tail _ (.tail _ (.tail _ (.head _))))) rfl rfl (by fail "p") nofun (by fail "q") nofun rfl rfl rfl rfl)) (.tail _ (.tail _ (.head _))) (Px.lx decl_name% fun a1 ha=>.mk cv nc _ (.tail _ (.tail _ (.head _))) (.tail (fun e=>i2 e.symm) (.tail d0.symm (.head fun p hp=>?_))) (by omega) ?_) rfl rfl) rfl rfl
  ·fail "c"
   ·exact c1
   ·fail "c"
    ·exact c2
    ·exact c3 p hp
  subst ha
  refine aO (lx_append (l:=tp) (items:=tops) (n:=nt) ((ag ok e1 (.tail _ (.tail _ (.tail _ (.head _)))) (.tail _ (.tail _ (.tail _ (.tail _ (.head _))))) rfl rfl (by fail "p") nofun (by fail "q") nofun rfl rfl rfl rfl)) (.tail _ (.head _)) (Px.lx bQ fun a ha=>.mk tops nt _ (.tail _ (.head _)) (.tail (fun e=>i1 e.symm) (.head fun p hp=>?_)) (by omega) ?_) rfl rfl) rfl rfl
  ·fail "c"
   ·exact d0
   ·fail "c"
    ·exact d1
    ·fail "c"
     ·exact d2
     ·exact d3 p hp
  subst ha
  refine ae (hΦ .next _ _ _ (.inl rfl) (.mk (i + 1) _ (cv.push a1) (tops.push .none) (nc + 1) (nt + 1) e1 e2 ?_ (by rw [Array.size_push,ht])) (fun p hp=>.tail _ hp) (.head _) fun p hp=>?_)
  ·have hv2:vs.toList[i]? = some a1:=by simpa using hv
   rw [List.take_add_one,hv2,Array.toList_push,hc]
   rfl
  ·fail "c"
   ·exact i1
   ·fail "c"
    ·exact i2
    ·exact hI p (.tail _ (.tail _ hp))
 ·obtain ⟨cv,tops,nc,nt,e1,e2,hc,ht⟩:=hJ
  have hU:∀ {es:List DictEntry} {n:Nat} {o':Obj},Upd dx (dictOf es n) o' ((tp,listOf tops nt)::(ch,listOf cv nc)::(x,instObj 506 dx)::(dx,dictOf es n)::rest) ((tp,listOf tops nt)::(ch,listOf cv nc)::(x,instObj 506 dx)::(dx,o')::rest):=.tail d2.symm (.tail c2.symm (.tail (Nat.ne_of_lt l2).symm (.head k1)))
  refine aj (cE (C:=506) (r:=x) (dx:=dx) ok (Px.lx (af e2 rfl rfl rfl) fun v hv=>.mk _ 2 _ e1 (.tail _ (.tail _ (.head _))) (.tail _ (.tail _ (.tail _ (.head _)))) rfl (fun O=>rfl) (fun t=>hU) (Nat.le_of_ble_eq_true rfl) fun t3=>?_) (by fail "p") nofun (by fail "q") nofun rfl rfl rfl rfl)
  subst hv
  refine aj (cE (C:=506) (r:=x) (dx:=dx) ok (Px.lx (cQ ab) fun v hv=>.mk _ 3 _ e1 (.tail _ (.tail _ (.head _))) (.tail _ (.tail _ (.tail _ (.head _)))) rfl (fun O=>rfl) (fun t=>hU) (Nat.le_of_ble_eq_true rfl) fun t4=>?_) (by fail "p") nofun (by fail "q") nofun rfl rfl rfl rfl)
  obtain ⟨tc,rfl⟩:=hv
  refine aj (cE (C:=506) (r:=x) (dx:=dx) ok (Px.lx (au ok nofun rfl rfl rfl) fun v hv=>.mk _ 4 _ e1 (.tail _ (.tail _ (.head _))) (.tail _ (.tail _ (.tail _ (.head _)))) rfl (fun O=>rfl) (fun t=>hU) (Nat.le_of_ble_eq_true rfl) fun t5=>?_) (by fail "p") nofun (by fail "q") nofun rfl rfl rfl rfl)
  obtain ⟨tg,rfl⟩:=hv
  have hcv:cv = vs:=Array.toList_inj.mp (by rw [hc,List.take_of_length_le (by simp)])
  subst hcv
  refine ae (kφ .next _ [(tp,listOf tops nt),(ch,listOf cv nc),(x,instObj 506 dx),(dx,MD ⟨PyData.keyHash w.params "children",PyData.keyHash w.params "tops",PyData.keyHash w.params "order",PyData.keyHash w.params "current",PyData.keyHash w.params "going",t1,t2,t3,t4,t5⟩ ch tp od (-1) tc 0 tg)] rfl (.mk x dx ch tp ⟨PyData.keyHash w.params "children",PyData.keyHash w.params "tops",PyData.keyHash w.params "order",PyData.keyHash w.params "current",PyData.keyHash w.params "going",t1,t2,t3,t4,t5⟩ tc tg nc nt tops _ ht ⟨(Nat.ne_of_lt l2).symm,c1,d1,c2,d2,d0⟩ (fun p hp=>⟨k2 p hp,k1 p hp,c3 p hp,d3 p hp⟩) fun p hp=>?_))
  fail "c"
  ·exact .tail _ (.tail _ (.head _))
  ·fail "c"
   ·exact .tail _ (.tail _ (.tail _ (.head _)))
   ·fail "c"
    ·exact .tail _ (.head _)
    ·fail "c"
     ·exact .head _
     ·exact .tail _ (.tail _ (.tail _ (.tail _ hp)))
end
end
section
open PySem PySem.W PyProof.Rows PySem.SeqAt
set_option genInjectivity true
set_option maxRecDepth 100000
inductive FD where
 | i (n:Int)
 | b (x:Array UInt8)
deriving DecidableEq
noncomputable def FIs (v:Value):FD→Prop
 | .i n=>∃ t,v = .int n t
 | .b x=>∃ t,v = .bytes x t
noncomputable def dG:FD→FD→Prop
 | .i _,.i _=>True
 | .b _,.b _=>True
 | _,_=>False
section
variable {A:Around} {s:Shared}
theorem eqAt_bytes (x y:Array UInt8) (t u:Tok):EqAt A s (.bytes x t) (.bytes y u) (x == y):=fun prog w E Q hq=>by
 unfold eqBool
 refine wpAny_holding ?_
 refine wpAny_ite_split (fun hab=>?_) (fun O=>?_)
 ·have e:=eq_of_beq hab
  injection e with e1 e2
  subst e1
  rw [show (x == x) = true by simp] at hq
  exact wpAny_bind (wpAny_rule (wpAny_pure hq))
 ·have e:(x == y) = (x.toList == y.toList):=by
   by_cases h:x = y
   ·subst h;simp
   ·have:x.toList≠y.toList:=fun g=>h (Array.toList_inj.mp g)
    simp [h,this]
  rw [e] at hq
  exact wpAny_bind (eq_bytes (wpAny_truthy_bool hq))
theorem eqAt_FD {v v':Value} {d d':FD} (h:FIs v d) (h':FIs v' d') (hk:dG d d'):EqAt A s v v' (decide (d = d')):=by
 cases d <;> cases d' <;> try exact hk.elim
 ·obtain ⟨t,rfl⟩:=h
  obtain ⟨u,rfl⟩:=h'
  rename_i n n'
  have:(decide (FD.i n = FD.i n')) = (n == n'):=by by_cases e:n = n' <;> simp [e]
  rw [this]
  exact (MeetsSeq.EqGives.int n n' t u).at A s
 ·obtain ⟨t,rfl⟩:=h
  obtain ⟨u,rfl⟩:=h'
  rename_i n n'
  have:(decide (FD.b n = FD.b n')) = (n == n'):=by by_cases e:n = n' <;> simp [e]
  rw [this]
  exact eqAt_bytes n n' t u
end
noncomputable def db:List Value→List FD→Prop
 | [],[]=>True
 | v::vs,d::ds=>FIs v d∧db vs ds
 | _,_=>False
noncomputable def bf:List FD→List FD→Prop
 | [],[]=>True
 | d::ds,e::es=>dG d e∧bf ds es
 | _,_=>False
theorem db.len:∀ {vs:List Value} {ds:List FD},db vs ds→vs.length = ds.length
 | [],[],_=>rfl
 | _::_,_::_,h=>by simp [db.len h.2]
 | [],_::_,h=>h.elim
 | _::_,[],h=>h.elim
theorem bf.len:∀ {ds es:List FD},bf ds es→ds.length = es.length
 | [],[],_=>rfl
 | _::_,_::_,h=>by simp [bf.len h.2]
 | [],_::_,h=>h.elim
 | _::_,[],h=>h.elim
theorem db.at:∀ {vs:List Value} {ds:List FD},db vs ds→∀ (j:Nat) (h:j < vs.length) (h':j < ds.length),FIs vs[j] ds[j]
 | [],_,_,_,h,_=>absurd h (Nat.not_lt_zero _)
 | _::_,[],_,_,_,h=>absurd h (Nat.not_lt_zero _)
 | _::_,_::_,h,0,_,_=>h.1
 | _::_,_::_,h,j + 1,h1,h2=>db.at h.2 j (by simpa using h1) (by simpa using h2)
theorem bf.at:∀ {ds es:List FD},bf ds es→∀ (j:Nat) (h:j < ds.length) (h':j < es.length),dG ds[j] es[j]
 | [],_,_,_,h,_=>absurd h (Nat.not_lt_zero _)
 | _::_,[],_,_,_,h=>absurd h (Nat.not_lt_zero _)
 | _::_,_::_,h,0,_,_=>h.1
 | _::_,_::_,h,j + 1,h1,h2=>bf.at h.2 j (by simpa using h1) (by simpa using h2)
section
variable {prog:Program} {w:World} {A:Around} {E:VS} {s:Shared} {h₀:Heap} {L a b:Addr} {news:List (Addr × Obj)} {vs ws:List Value} {ds es:List FD} {n m:Nat}
theorem rc_tuples (N:News h₀ L s.heap news) (ma:(a,({ cls:=.type "tuple",data:=.seq vs.toArray n }:Obj))∈news) (mb:(b,({ cls:=.type "tuple",data:=.seq ws.toArray m }:Obj))∈news)
  (Fa:db vs ds) (Fb:db ws es) (K:bf ds es) (hu:A.units < cLine):RcAt A s (.ref a) (.ref b) (decide (ds = es)):=by
 have l1:=Fa.len
 have l2:=Fb.len
 have l3:=K.len
 have r:=RcAt.tuples (A:=A) (e:=fun j=>decide (ds[j]? = es[j]?)) (News.isTup N ma) (News.isTup N mb) hu fun j h1 h2=>by
  have g1:j < vs.length:=by simpa using h1
  have g2:j < ws.length:=by simpa using h2
  have:=eqAt_FD (A:=A.in1) (s:=s) (Fa.at j g1 (by omega)) (Fb.at j g2 (by omega)) (K.at j (by omega) (by omega))
  have e1:ds[j]? = some ds[j]:=List.getElem?_eq_getElem (by omega)
  have e2:es[j]? = some es[j]:=List.getElem?_eq_getElem (by omega)
  rw [e1,e2]
  simpa using this
 have e:((List.range (min vs.toArray.size ws.toArray.size)).all (fun j=>decide (ds[j]? = es[j]?)) && vs.toArray.size == ws.toArray.size) = decide (ds = es):=by
  by_cases h:ds = es
  ·subst h
   simp;omega
  ·have:¬ ∀ j,j < ds.length→ds[j]? = es[j]?:=fun g=>h (List.ext_getElem? fun j=>by
    by_cases hj:j < ds.length
    ·exact g j hj
    ·rw [List.getElem?_eq_none (by omega),List.getElem?_eq_none (by omega)])
   rw [decide_eq_false h]
   apply Bool.eq_false_iff.mpr
   intro g
   rw [Bool.and_eq_true,List.all_eq_true] at g
   exact this fun j hj=>by simpa using g.1 j (by simp;omega)
 rw [e] at r
 exact r
theorem eq_tuples {Q:VS} (N:News h₀ L s.heap news) (ma:(a,({ cls:=.type "tuple",data:=.seq vs.toArray n }:Obj))∈news) (mb:(b,({ cls:=.type "tuple",data:=.seq ws.toArray m }:Obj))∈news)
  (Fa:db vs ds) (Fb:db ws es) (K:bf ds es) (hu:A.units < cLine) (h:Q (.bool (decide (ds = es))) s):wpAny (model prog w) A (compareOp .Eq (.ref a) (.ref b)) Q E s :=
 rc_tuples N ma mb Fa Fb K hu prog w E Q h
end
theorem fall_nil:db [] []:=trivial
theorem fall_b {x:Array UInt8} {t:Tok} {vs:List Value} {ds:List FD} (h:db vs ds):db (.bytes x t::vs) (.b x::ds):=⟨⟨t,rfl⟩,h⟩
theorem kinds_nil:bf [] []:=trivial
theorem kinds_b {x y:Array UInt8} {ds es:List FD} (h:bf ds es):bf (.b x::ds) (.b y::es):=⟨trivial,h⟩
end
section
open PySem PySem.W PyProof.Rows PySem.SeqAt
set_option maxRecDepth 100000
noncomputable def ltFD:FD→FD→Bool
 | .i a,.i b=>decide (a < b)
 | .b x,.b y=>ltB x y
 | _,_=>false
noncomputable def ltL:List FD→List FD→Bool
 | d::ds,e::es=>if d = e then ltL ds es else ltFD d e
 | _,_=>false
section
variable {prog:Program} {w:World} {A:Around} {E:VS} {s:Shared}
theorem call_bytes_lt {b c:Array UInt8} {t u:Tok} {Q:VS} (h:Q (.bool (ltB b c)) s):wpAny (model prog w) A (call (.builtin "bytes.__lt__") [.bytes b t,.bytes c u]) Q E s:=by
 refine wpAny_call_entry slot_lt (typeIs_bytes s b t) entry_lt ?_ (args_lt _ _)
 show wpAny _ _ (isInstance (.bytes c u) (.type "bytes") >>= fun r=>_) _ _ s
 refine wpAny_bind (wpAny_isInstance (typeIs_bytes s c u) F.sub_bytes_bytes ?_)
 exact wpAny_pure ⟨_,rfl,h⟩
theorem oneLt_bytes {b c:Array UInt8} {t u:Tok} {Q:Bool→Shared→Prop} (h:Q (ltB b c) s):wpAny (model prog w) A (oneLt' true (.bytes b t) (.bytes c u)) Q E s:=by
 rw [oneLt'_eq]
 simp only [if_true]
 refine wpAny_bind (wpAny_cRoomFor_byValue rfl ?_)
 refine wpAny_bind (wpAny_callSpecialIfBound?_slot (typeIs_bytes s b t) slot_lt (call_bytes_lt ?_))
 exact wpAny_truthy_bool h
theorem oneLt_FD {v v':Value} {d d':FD} {Q:Bool→Shared→Prop} (h:FIs v d) (h':FIs v' d') (hk:dG d d') (hq:Q (ltFD d d') s):wpAny (model prog w) A (oneLt' false v v') Q E s:=by
 refine kat_one v v' ?_
 cases d <;> cases d' <;> try exact hk.elim
 ·obtain ⟨t,rfl⟩:=h
  obtain ⟨u,rfl⟩:=h'
  exact lt_int hq
 ·obtain ⟨t,rfl⟩:=h
  obtain ⟨u,rfl⟩:=h'
  exact lt_bytes hq
theorem lex_FD {Q:Bool→Shared→Prop}:∀ {vs ws:List Value} {ds es:List FD} (i:Nat),db vs ds→db ws es→bf ds es→(i = 0→∃ x r,ds = .b x::r)→Q (ltL ds es) s →
  KatLex prog w A true false Q (vs.zip ws) i s
 | [],[],[],[],_,_,_,_,_,h=>h
 | v::vs,w'::ws,d::ds,e::es,i,h1,h2,h3,h4,h=>by
  rw [List.zip_cons_cons]
  refine kat_cons (eqAt_FD (A:=A) (s:=s) h1.1 h2.1 h3.1 prog w _ _ ?_)
  refine kat_go (fun he=>kat_yes ?_) fun he=>kat_no ?_
  ·have e1:d = e:=of_decide_eq_true he
   refine lex_FD (i + 1) h1.2 h2.2 h3.2 (fun hi=>absurd hi (Nat.succ_ne_zero i)) ?_
   rw [ltL,if_pos e1] at h
   exact h
  ·have e1:d≠e:=of_decide_eq_false he
   rw [ltL,if_neg e1] at h
   cases i with
   | zero =>
    obtain ⟨x,r,hx⟩:=h4 rfl
    injection hx with hx1 hx2
    subst hx1
    cases e with
    | i n=>exact h3.1.elim
    | b y =>
     obtain ⟨t,rfl⟩:=h1.1
     obtain ⟨u,rfl⟩:=h2.1
     exact oneLt_bytes h
   | succ i =>
    have e2:(true && (i + 1 == 0)) = false:=by simp
    rw [e2]
    exact oneLt_FD h1.1 h2.1 h3.1 h
 | [],_::_,[],_::_,_,_,_,h,_,_=>h.elim
 | _::_,[],_::_,[],_,_,_,h,_,_=>h.elim
 | [],_,_::_,_,_,h,_,_,_,_=>h.elim
 | _::_,_,[],_,_,h,_,_,_,_=>h.elim
 | _,[],_,_::_,_,_,h,_,_,_=>h.elim
 | _,_::_,_,[],_,_,h,_,_,_=>h.elim
end
theorem ltFD_irrefl (d:FD):ltFD d d = false:=by cases d <;> simp [ltFD,bj]
theorem ltFD_trans {a b c:FD} (h:ltFD a b = true) (g:ltFD b c = true):ltFD a c = true:=by
 cases a <;> cases b <;> cases c <;> simp_all [ltFD]
 ·omega
 ·exact cw h g
theorem ltFD_total {a b:FD} (k:dG a b) (h:a≠b):ltFD a b = true ∨ ltFD b a = true:=by
 cases a <;> cases b <;> simp_all [ltFD,dG]
 ·omega
 ·rename_i x y
  cases e1:ltB x y with
  | true=>exact .inl rfl
  | false =>
   cases e2:ltB y x with
   | true=>exact .inr rfl
   | false=>exact absurd (bZ e1 e2) h
theorem ltL_irrefl:∀ d:List FD,ltL d d = false
 | []=>rfl
 | d::ds=>by rw [ltL,if_pos rfl];exact ltL_irrefl ds
theorem ltL_trans:∀ {a b c:List FD},ltL a b = true→ltL b c = true→ltL a c = true
 | [],_,_,h,_=>by simp [ltL] at h
 | _::_,[],_,h,_=>by simp [ltL] at h
 | _::_,_::_,[],_,h=>by simp [ltL] at h
 | a::as,b::bs,c::cs,h,g=>by
  rw [ltL] at h g ⊢
  by_cases e1:a = b
  ·subst e1
   rw [if_pos rfl] at h
   by_cases e2:a = c
   ·subst e2
    rw [if_pos rfl] at g ⊢
    exact ltL_trans h g
   ·rw [if_neg e2] at g ⊢
    exact g
  ·rw [if_neg e1] at h
   by_cases e2:b = c
   ·subst e2
    rw [if_pos rfl] at g
    rw [if_neg e1]
    exact h
   ·rw [if_neg e2] at g
    have ht:=ltFD_trans h g
    have:a≠c:=fun e=>by subst e;rw [ltFD_irrefl] at ht;cases ht
    rw [if_neg this]
    exact ht
theorem ltL_total:∀ {a b:List FD},bf a b→a≠b→ltL a b = true ∨ ltL b a = true
 | [],[],_,h=>absurd rfl h
 | a::as,b::bs,k,h=>by
  rw [ltL,ltL]
  by_cases e:a = b
  ·subst e
   rw [if_pos rfl,if_pos rfl]
   exact ltL_total k.2 fun g=>h (by rw [g])
  ·rw [if_neg e,if_neg fun g=>e g.symm]
   exact ltFD_total k.1 e
 | [],_::_,k,_=>k.elim
 | _::_,[],k,_=>k.elim
noncomputable def kasRun {α:Type} (lt:Nat→Nat→Bool):KasT α→α
 | .ret a=>a
 | .ask i j k=>kasRun lt (k (lt i j))
noncomputable def kasOk {α:Type} (lt:Nat→Nat→Bool) (n:Nat):KasT α→Bool
 | .ret _=>true
 | .ask i j k=>decide (i < n) && decide (j < n) && kasOk lt n (k (lt i j))
theorem kas_run {α:Type} {cmp:Nat→Nat→(Bool→Shared→Prop)→Shared→Prop} {lt:Nat→Nat→Bool} {n:Nat} {s:Shared} (hc:∀ i j C,i < n→j < n→C (lt i j) s→cmp i j C s) {Q:α→Shared→Prop} :
  ∀ t:KasT α,kasOk lt n t = true→Q (kasRun lt t) s→t.kasWp cmp Q s
 | .ret _,_,h=>h
 | .ask i j k,ho,h=>by
  rw [kasOk,Bool.and_eq_true,Bool.and_eq_true] at ho
  exact hc i j _ (of_decide_eq_true ho.1.1) (of_decide_eq_true ho.1.2) (kas_run hc (k (lt i j)) ho.2 h)
noncomputable def ltR (r:List Nat) (i j:Nat):Bool:=decide (r.getD i 0 < r.getD j 0)
noncomputable def sortOk (n:Nat) (r:List Nat):Bool :=
 kasOk (ltR r) n (kas_sort n) && ((kasRun (ltR r) (kas_sort n)).toList.length == n) && ((kasRun (ltR r) (kas_sort n)).toList.all fun x=>decide (x < n)) && decide ((kasRun (ltR r) (kas_sort n)).toList.map (fun x=>r.getD x 0) = List.range n)
noncomputable def nodupB:List Nat→Bool
 | []=>true
 | x::l=>!l.contains x && nodupB l
set_option maxHeartbeats 4000000 in
theorem sortOk2:∀ a b:Fin 2,nodupB [a.1,b.1] = true→sortOk 2 [a.1,b.1] = true:=by decide +kernel
set_option maxHeartbeats 4000000 in
theorem sortOk3:∀ a b c:Fin 3,nodupB [a.1,b.1,c.1] = true→sortOk 3 [a.1,b.1,c.1] = true:=by decide +kernel
set_option maxHeartbeats 4000000 in
theorem sortOk4:∀ a b c d:Fin 4,nodupB [a.1,b.1,c.1,d.1] = true→sortOk 4 [a.1,b.1,c.1,d.1] = true:=by decide +kernel
set_option maxHeartbeats 4000000 in
theorem sortOk5:∀ a b c d e:Fin 5,nodupB [a.1,b.1,c.1,d.1,e.1] = true→sortOk 5 [a.1,b.1,c.1,d.1,e.1] = true:=by decide +kernel
theorem nodupB_of:∀ {l:List Nat},l.Pairwise (·≠·)→nodupB l = true
 | [],_=>rfl
 | x::l,h=>by
  have h1:=List.pairwise_cons.mp h
  rw [nodupB,Bool.and_eq_true]
  refine ⟨?_,nodupB_of h1.2⟩
  have:¬ x∈l:=fun hx=>h1.1 x hx rfl
  simp [this]
theorem len1 {α:Type} {r:List α} {n:Nat} (h:r.length = n + 1):∃ a t,r = a::t∧t.length = n:=by
 cases r with
 | nil=>cases h
 | cons a t=>exact ⟨a,t,rfl,Nat.succ.inj h⟩
theorem sortOk_all {n:Nat} {r:List Nat} (h2:2≤n) (h5:n≤5) (hl:r.length = n) (hr:∀ x∈r,x < n) (hd:r.Pairwise (·≠·)):sortOk n r = true:=by
 have hb:=nodupB_of hd
 have m0 {a:Nat} {l:List Nat}:a∈a::l:=.head _
 have mt {a b:Nat} {l:List Nat} (h:b∈l):b∈a::l:=.tail _ h
 have hn:n = 2 ∨ n = 3 ∨ n = 4 ∨ n = 5:=by omega
 rcases hn with rfl | rfl | rfl | rfl <;> obtain ⟨a,r,rfl,i1⟩:=len1 hl <;> obtain ⟨b,r,rfl,i2⟩:=len1 i1
 ·obtain rfl:=List.eq_nil_of_length_eq_zero i2
  exact sortOk2 ⟨a,hr a m0⟩ ⟨b,hr b (mt m0)⟩ hb
 all_goals obtain ⟨c,r,rfl,i3⟩:=len1 i2
 ·obtain rfl:=List.eq_nil_of_length_eq_zero i3
  exact sortOk3 ⟨a,hr a m0⟩ ⟨b,hr b (mt m0)⟩ ⟨c,hr c (mt (mt m0))⟩ hb
 all_goals obtain ⟨d,r,rfl,i4⟩:=len1 i3
 ·obtain rfl:=List.eq_nil_of_length_eq_zero i4
  exact sortOk4 ⟨a,hr a m0⟩ ⟨b,hr b (mt m0)⟩ ⟨c,hr c (mt (mt m0))⟩ ⟨d,hr d (mt (mt (mt m0)))⟩ hb
 obtain ⟨e,r,rfl,i5⟩:=len1 i4
 obtain rfl:=List.eq_nil_of_length_eq_zero i5
 exact sortOk5 ⟨a,hr a m0⟩ ⟨b,hr b (mt m0)⟩ ⟨c,hr c (mt (mt m0))⟩ ⟨d,hr d (mt (mt (mt m0)))⟩ ⟨e,hr e (mt (mt (mt (mt m0))))⟩ hb
end
section
open PySem PySem.W PyProof.Rows PySem.SeqAt
set_option maxRecDepth 100000
set_option tactic.hygienic false
theorem countP_lt {α:Type} {p q:α→Bool}:∀ {l:List α},(∀ x∈l,p x = true→q x = true)→(∃ x∈l,q x = true∧p x = false)→l.countP p < l.countP q
 | [],_,⟨x,hx,_⟩=>by cases hx
 | a::l,h1,⟨x,hx,h2,h3⟩=>by
  have hle:l.countP p≤l.countP q:=by
   clear hx
   have h1':∀ x∈l,p x = true→q x = true:=fun x hx=>h1 x (.tail _ hx)
   exact List.countP_mono_left h1'
  rw [List.countP_cons,List.countP_cons]
  have ha:=h1 a (.head _)
  rcases List.mem_cons.mp hx with rfl | hx
  ·rw [h2,h3];simp;omega
  ·have ih:=countP_lt (l:=l) (fun x hx=>h1 x (.tail _ hx)) ⟨x,hx,h2,h3⟩
   cases hp:p a with
   | true=>rw [ha hp];simp;omega
   | false=>simp;omega
noncomputable def rk (lt:Nat→Nat→Bool) (n i:Nat):Nat:=(List.range n).countP fun j=>lt j i
section
variable {lt:Nat→Nat→Bool} {n:Nat} (irr:∀ i,lt i i = false) (tr:∀ i j k,lt i j = true→lt j k = true→lt i k = true)
include irr tr
theorem rk_lt {i j:Nat} (hi:i < n) (h:lt i j = true):rk lt n i < rk lt n j :=
 countP_lt (fun x O hx=>tr x i j hx h) ⟨i,List.mem_range.mpr hi,h,irr i⟩
omit tr in
theorem rk_n {i:Nat} (hi:i < n):rk lt n i < n:=by
 have:rk lt n i < (List.range n).countP fun O=>true:=countP_lt (fun O O O=>rfl) ⟨i,List.mem_range.mpr hi,rfl,irr i⟩
 simpa using this
theorem rk_iff (tot:∀ i j,i < n→j < n→i≠j→lt i j = true ∨ lt j i = true) {i j:Nat} (hi:i < n) (hj:j < n):lt i j = decide (rk lt n i < rk lt n j):=by
 cases h:lt i j with
 | true=>exact (decide_eq_true (rk_lt irr tr hi h)).symm
 | false =>
  symm
  apply decide_eq_false
  by_cases e:i = j
  ·subst e;omega
  ·rcases tot i j hi hj e with g | g
   ·rw [h] at g;cases g
   ·have:=rk_lt irr tr hj g;omega
end
section
variable {prog:Program} {w:World} {A:Around} {E:VS} {s:Shared} {h₀:Heap} {L l:Addr} {m:MM} {news:List (Addr × Obj)} {vs:List Value} {n:Nat} {Q:VS}
theorem sorted_tuples (F:Fr h₀ L s.heap m) (N:News h₀ L s.heap news) (hl:(l,({ cls:=.type "list",data:=.seq vs.toArray n }:Obj))∈news) (h2:2≤vs.length) (h5:vs.length≤5) (ds:Nat→List FD)
  (hel:∀ (i:Nat) v,vs[i]? = some v→∃ a xs k,v = .ref a∧(a,({ cls:=.type "tuple",data:=.seq (List.toArray xs) k }:Obj))∈news∧db xs (ds i))
  (hk:∀ i j,i < vs.length→j < vs.length→bf (ds i) (ds j)) (hb:∀ i,i < vs.length→∃ x r,ds i = .b x::r) (hd:∀ i j,i < vs.length→j < vs.length→i≠j→ds i≠ds j)
  (k:∀ D c h' (p:List Nat),p.length = vs.length→(∀ x∈p,x < vs.length)→p.Pairwise (fun a b=>ltL (ds a) (ds b) = true)→(∀ q∈news,q.1 < D)→Fr h₀ L h' m →
   News h₀ L h' ((D,listOf (List.toArray (p.map fun i=>vs.getD i .none)) c)::news)→Q (.ref D) { s with heap:=h' }) :
  wpAny (model prog w) A (call (.builtin "sorted") [.ref l]) Q E s:=by
 refine kat_sorted F N (News.isList N hl) h2 (by omega) fun D e1 h' F' N' hlt=>?_
 have N2:News h₀ L h' news:=fun p hp=>N' p (.tail _ hp)
 obtain ⟨fs,hfs,hfb,hfl⟩:∃ fs,KatTups h' vs fs∧(∀ v∈fs,∃ x t,v = .bytes x t)∧fs.length = vs.length:=by
  have gen:∀ (us:List Value) (b:Nat),(∀ (i:Nat) v,us[i]? = some v→∃ a xs k,v = .ref a∧(a,({ cls:=.type "tuple",data:=.seq (List.toArray xs) k }:Obj))∈news∧db xs (ds (b + i))∧∃ x r,ds (b + i) = .b x::r) →
    ∃ fs,KatTups h' us fs∧(∀ v∈fs,∃ x t,v = .bytes x t)∧fs.length = us.length:=by
   intro us
   induction us with
   | nil=>exact fun O O=>⟨[],KatTups.nil,fun v hv=>(nomatch hv),rfl⟩
   | cons u us ih =>
    intro b h
    obtain ⟨a,xs,kk,rfl,hm,hF,x,r,hx⟩:=h 0 u rfl
    obtain ⟨fs,g1,g2,g3⟩:=ih (b + 1) fun i v hv=>by
     obtain ⟨a,xs,kk,e,hm,hF,hx⟩:=h (i + 1) v hv
     rw [show b + 1 + i = b + (i + 1) by omega]
     exact ⟨a,xs,kk,e,hm,hF,hx⟩
    have hF':db xs (.b x::r):=by rw [← hx];exact hF
    cases xs with
    | nil=>exact hF'.elim
    | cons f xs =>
     obtain ⟨t,rfl⟩:=hF'.1
     exact ⟨.bytes x t::fs,KatTups.cons (N2 _ hm).1 rfl rfl (by simp) g1,fun v hv=>by
      rcases List.mem_cons.mp hv with rfl | hv
      ·exact ⟨x,t,rfl⟩
      ·exact g2 v hv,by simp [g3]⟩
  refine gen vs 0 fun i v hv=>?_
  obtain ⟨a,xs,kk,e,hm,hF⟩:=hel i v hv
  rw [Nat.zero_add]
  exact ⟨a,xs,kk,e,hm,hF,hb i (List.getElem?_eq_some_iff.mp hv).1⟩
 refine kat_kind (s:={ s with heap:=h' }) (T:=.type "bytes") hfs (by omega) (fun v hv=>?_) (by decide) ?_
 ·obtain ⟨x,t,rfl⟩:=hfb v hv
  exact .now
 have hb2:(Value.type "bytes" != Value.type "tuple") = true:=by decide
 rw [hb2]
 let lt:Nat→Nat→Bool:=fun i j=>ltL (ds i) (ds j)
 have irr:∀ i,lt i i = false:=fun i=>ltL_irrefl _
 have tr:∀ i j k,lt i j = true→lt j k = true→lt i k = true:=fun i j k=>ltL_trans
 have tot:∀ i j,i < vs.length→j < vs.length→i≠j→lt i j = true ∨ lt j i = true:=fun i j hi hj e=>ltL_total (hk i j hi hj) (hd i j hi hj e)
 let r:=(List.range vs.length).map (rk lt vs.length)
 have hrl:r.length = vs.length:=by simp [r]
 have hrat:∀ i,i < vs.length→r.getD i 0 = rk lt vs.length i:=fun i hi=>by simp [r,hi]
 have hok:=sortOk_all (r:=r) h2 h5 hrl (fun x hx=>by
  obtain ⟨i,hi,rfl⟩:=List.mem_map.mp hx
  exact rk_n irr (List.mem_range.mp hi)) (by
  rw [List.pairwise_map]
  refine List.Pairwise.imp_of_mem (R:=(· < ·)) (fun {a b} ha hb' hab=>?_) List.pairwise_lt_range
  have ha:=List.mem_range.mp ha
  have hb':=List.mem_range.mp hb'
  rcases tot a b ha hb' (Nat.ne_of_lt hab) with g | g
  ·have:=rk_lt irr tr ha g;omega
  ·have:=rk_lt irr tr hb' g;omega)
 unfold sortOk at hok
 rw [Bool.and_eq_true,Bool.and_eq_true,Bool.and_eq_true] at hok
 obtain ⟨⟨⟨o1,o2⟩,o3⟩,o4⟩:=hok
 have o2:_ = _:=eq_of_beq o2
 have o4:=of_decide_eq_true o4
 rw [List.all_eq_true] at o3
 generalize hp:kasRun (ltR r) (kas_sort vs.length) = p at *
 refine kas_run (lt:=ltR r) (n:=vs.length) (fun i j C hi hj hC=>?_) (kas_sort vs.length) o1 ?_
 ·show wpAny (model prog w) A.in1.in1 (keyLt' (tuples' true) (vs.getD i .none) (vs.getD j .none)) C (fun O O=>False) { s with heap:=h' }
  obtain ⟨a1,xs,k1,ea,ma,fa⟩:=hel i _ (List.getElem?_eq_getElem hi)
  obtain ⟨a2,ys,k2,eb,mb,fb⟩:=hel j _ (List.getElem?_eq_getElem hj)
  have ei:vs.getD i .none = .ref a1:=by rw [← ea];simp [hi]
  have ej:vs.getD j .none = .ref a2:=by rw [← eb];simp [hj]
  rw [ei,ej]
  refine kat_lt (s:={ s with heap:=h' }) (N2 _ ma).1 rfl (N2 _ mb).1 rfl ?_
  have hlen:xs.length = ys.length:=by rw [fa.len,fb.len,(hk i j hi hj).len]
  have hfin:decide ((List.toArray xs).size < (List.toArray ys).size) = false:=by simp [hlen]
  rw [hfin]
  refine lex_FD 0 fa fb (hk i j hi hj) (fun O=>hb i hi) ?_
  have e9:ltL (ds i) (ds j) = ltR r i j:=by
   unfold ltR
   rw [hrat i hi,hrat j hj]
   exact rk_iff irr tr tot hi hj
  rw [e9]
  exact hC
 ·rw [hp]
  refine KasFin.intro F' N' (.head fun q hq=>Nat.ne_of_lt (hlt q hq)) fun h'' c F'' N''=>?_
  refine k D c h'' p.toList o2 (fun x hx=>of_decide_eq_true (o3 x hx)) ?_ hlt F'' N''
  rw [List.pairwise_iff_getElem]
  intro a b ha hb' hab
  have h1:p.toList[a] < vs.length:=of_decide_eq_true (o3 _ (List.getElem_mem ha))
  have h3:p.toList[b] < vs.length:=of_decide_eq_true (o3 _ (List.getElem_mem hb'))
  have ga:r.getD (p.toList[a]) 0 = a:=by
   have:=congrArg (fun l=>l[a]?) o4
   simp only [List.getElem?_map,List.getElem?_eq_getElem ha,Option.map_some] at this
   rw [List.getElem?_range (by omega)] at this
   exact Option.some.inj this
  have gb:r.getD (p.toList[b]) 0 = b:=by
   have:=congrArg (fun l=>l[b]?) o4
   simp only [List.getElem?_map,List.getElem?_eq_getElem hb',Option.map_some] at this
   rw [List.getElem?_range (by omega)] at this
   exact Option.some.inj this
  show lt (p.toList[a]) (p.toList[b]) = true
  rw [rk_iff irr tr tot h1 h3,← hrat _ h1,← hrat _ h3,ga,gb]
  exact decide_eq_true hab
end
section
variable {prog:Program} {w:World} {A:Around} {E:VS} {s:Shared}
theorem rich_FD {v v':Value} {d d':FD} {Q:VS} (h:FIs v d) (h':FIs v' d') (hk:dG d d') (hq:Q (.bool (ltFD d d')) s):wpAny (model prog w) A (richCompare .Lt v v') Q E s:=by
 cases d <;> cases d' <;> try exact hk.elim
 ·obtain ⟨t,rfl⟩:=h
  obtain ⟨u,rfl⟩:=h'
  exact (lt_int hq:wpAny (model prog w) A (compareOp .Lt (.int _ t) (.int _ u)) Q E s)
 ·obtain ⟨t,rfl⟩:=h
  obtain ⟨u,rfl⟩:=h'
  exact (lt_bytes hq:wpAny (model prog w) A (compareOp .Lt (.bytes _ t) (.bytes _ u)) Q E s)
theorem tuple_lt_tree {a b:Addr} {oa ob:Obj} {xs ys:List Value} {na nb:Nat} {ds es:List FD} {P:Fin→Shared→Prop} (hoa:s.heap.get? a = some oa) (hda:oa.data = .seq (List.toArray xs) na) (hob:s.heap.get? b = some ob) (hcb:ob.cls = .type "tuple") (hdb:ob.data = .seq (List.toArray ys) nb)
  (h1:db xs ds) (h2:db ys es) (hk:bf ds es) (h:P (.done (.ret (.bool (ltL ds es)))) s) :
  wpAny (model prog w) A (Builtin.«tuple.__lt__» ⟨[.ref a,.ref b],[]⟩) P E s:=by
 revert prog w A E s a b oa ob xs ys na nb ds es P
 refine no_implicit_lambda% (e16 ?n fun T0=>(?_:bp T0) _ _ _ _ _ _ _ _ _ _ _ _ _ _ _ _)
 case n=>fail "n"
 intro prog w A E s a b oa ob xs ys na nb ds es P
 intros
 clear T0
 have hTb:s.TypeIs (.ref b) "tuple":=⟨_,hob,hcb⟩
 show wpAny _ _ (isInstance (.ref b) (.type "tuple") >>= _) _ _ s
 refine wpAny_bind (wpAny_isInstance hTb isSubtype_tuple_tuple ?_)
 simp only [Bool.not_true,Bool.false_eq_true,if_false]
 refine wpAny_bind (wpAny_tupleItemsOf hoa hda ?_)
 refine wpAny_bind (wpAny_tupleItemsOf hob hdb ?_)
 refine wpAny_bind ?_
 refine wpAny_forIn_list _
  (fun rest r s'=>r.1 = none∧s' = s∧∃ xs' ys' ds' es',rest = List.zip xs' ys'∧db xs' ds'∧db ys' es'∧bf ds' es'∧ltL ds' es' = ltL ds es)
  _ ?_ ?_ _ _ ⟨rfl,rfl,xs,ys,ds,es,by simp,h1,h2,hk,rfl⟩
 ·intro hx1 rest r s' hx2
  obtain ⟨u,v⟩:=hx1
  obtain ⟨hr,rfl,xs',ys',ds',es',hz,g1,g2,g3,g4⟩:=hx2
  match xs',ys',ds',es',g1,g2,g3,g4,hz with
  | x::xs',y::ys',d::ds',e::es',g1,g2,g3,g4,hz =>
   simp only [List.zip_cons_cons,List.cons.injEq,Prod.mk.injEq] at hz
   obtain ⟨⟨rfl,rfl⟩,rfl⟩:=hz
   refine wpAny_bind (eqAt_FD (A:=A) (s:=s') g1.1 g2.1 g3.1 prog w _ _ ?_)
   rw [ltL] at g4
   by_cases hde:d = e
   ·rw [decide_eq_true hde]
    rw [if_pos hde] at g4
    simp only [Bool.not_true,Bool.false_eq_true,if_false]
    exact wpAny_pure ⟨rfl,rfl,xs',ys',ds',es',rfl,g1.2,g2.2,g3.2,g4⟩
   ·rw [decide_eq_false hde]
    rw [if_neg hde] at g4
    simp only [Bool.not_false,if_true]
    refine wpAny_bind (wpAny_rule ?_)
    refine wpAny_bind ?_
    refine rich_FD g1.1 g2.1 g3.1 ?_
    rw [g4]
    exact wpAny_bind (wpAny_pure (wpAny_pure (wpAny_pure h)))
  | [],_,_,_,_,_,_,_,hz=>simp at hz
  | _::_,[],_,_,_,_,_,_,hz=>simp at hz
  | _::_,_::_,[],_,g,_,_,_,_=>exact g.elim
  | _::_,_::_,_::_,[],_,g,_,_,_=>exact g.elim
 ·intro hx3 s' hx4
  obtain ⟨r1,r2⟩:=hx3
  obtain ⟨hr,rfl,xs',ys',ds',es',hz,g1,g2,g3,g4⟩:=hx4
  simp only at hr
  subst hr
  refine wpAny_pure ?_
  have hlen:xs.length = ys.length:=by rw [h1.len,h2.len,hk.len]
  have hfin:decide ((List.toArray xs).size < (List.toArray ys).size) = ltL ds es:=by
   have e0:ltL ds' es' = false:=by
    match xs',ys',ds',es',g1,g2,g3,hz with
    | [],[],[],[],_,_,_,_=>rfl
    | [],_::_,[],[],_,g,_,_=>exact g.elim
    | [],_,[],_::_,_,_,g,_=>exact g.elim
    | [],_,_::_,_,g,_,_,_=>exact g.elim
    | _::_,[],[],[],g,_,_,_=>exact g.elim
    | _::_,[],_::_,[],_,_,g,_=>exact g.elim
    | _::_,[],_,_::_,_,g,_,_=>exact g.elim
    | _::_,_::_,_,_,_,_,_,hz=>simp at hz
   rw [← g4,e0]
   simp [hlen]
  show P (.done (.ret (.bool (decide ((List.toArray xs).size < (List.toArray ys).size))))) s'
  rw [hfin];exact h
theorem lt_tuples {h₀:Heap} {L a b:Addr} {news:List (Addr × Obj)} {vs ws:List Value} {ds es:List FD} {n m:Nat} {Q:VS} (N:News h₀ L s.heap news) (ma:(a,({ cls:=.type "tuple",data:=.seq vs.toArray n }:Obj))∈news) (mb:(b,({ cls:=.type "tuple",data:=.seq ws.toArray m }:Obj))∈news)
  (Fa:db vs ds) (Fb:db ws es) (K:bf ds es) (hu:A.units < cLine) (h:Q (.bool (ltL ds es)) s):wpAny (model prog w) A (compareOp .Lt (.ref a) (.ref b)) Q E s:=by
 have ta:s.TypeIs (.ref a) "tuple":=⟨_,(N _ ma).1,rfl⟩
 have tb:s.TypeIs (.ref b) "tuple":=⟨_,(N _ mb).1,rfl⟩
 show wpAny _ _ (richCompare .Lt (.ref a) (.ref b)) _ _ _
 refine wpAny_richCompare_same_room ta tb F.slot_tuple_lt ?_ hu
 refine wpAny_call_entry F.slot_tuple_lt ta F.entry_tuple_lt ?_ (F.args_tuple_lt_2 _ _)
 exact tuple_lt_tree (N _ ma).1 rfl (N _ mb).1 rfl rfl Fa Fb K ⟨_,rfl,(fun x=>nomatch x),h⟩
end
section
variable {prog:Program} {w:World} {A:Around} {E:VS} {s:Shared}
theorem adjust_to (b n:Nat) (hb:b≤n):Builtin.Slice.sliceAdjust none (some (b:Int)) 1 (n:Int) = ((0:Int),(b:Int)):=by
 unfold Builtin.Slice.sliceAdjust
 have h1:¬ ((1:Int) < 0):=by omega
 have h2:¬ ((b:Int) < 0):=by omega
 simp only [h1,h2,if_false]
 congr 1
 omega
theorem places_to (b:Nat):Builtin.Slice.slicePlaces (0:Int) (b:Int) 1 = b:=by
 unfold Builtin.Slice.slicePlaces
 have h1:(1:Int) > 0:=by omega
 simp only [h1,if_true,Int.ediv_one]
 split <;> omega
theorem sliceApplied_to {sl:Addr} {b n:Nat} {u:Tok} {Q:Int × Int × Nat→Shared→Prop} (hs:s.heap.IsSliceOf sl .none (.int b u) .none) (hb:b≤n) (h:Q ((0:Int),1,b) s) :
  wpAny (model prog w) A (Builtin.Slice.sliceApplied (.ref sl) (pure (n:Int))) Q E s:=by
 obtain ⟨os,hos,hcs,hds⟩:=id hs
 unfold Builtin.Slice.sliceApplied Builtin.Slice.sliceFields
 refine wpAny_bind (wpAny_bind (wpAny_field hos hds (x:=.none) rfl (wpAny_bind (wpAny_field hos hds (x:=.int b u) rfl (wpAny_bind (wpAny_field hos hds (x:=.none) rfl (wpAny_pure ?_)))))))
 refine wpAny_bind (slicePart_none ?_)
 show wpAny _ _ (if ((1:Int) == 0) = true then _ else _) _ _ s
 rw [if_neg (by decide)]
 refine wpAny_bind (slicePart_none (wpAny_bind (slicePart_int (wpAny_bind (wpAny_pure ?_)))))
 show wpAny _ _ (match Builtin.Slice.sliceAdjust none (some (b:Int)) 1 (n:Int) with | (lo,hi)=>pure (lo,(1:Int),Builtin.Slice.slicePlaces lo hi 1)) _ _ s
 rw [adjust_to b n hb]
 show wpAny _ _ (pure ((0:Int),(1:Int),Builtin.Slice.slicePlaces (0:Int) (b:Int) 1)) _ _ s
 rw [places_to b]
 exact wpAny_pure h
theorem pick_to (xs:Array Value) (b:Nat) (hb:b≤xs.size):((List.range b).filterMap fun (k:Nat)=>xs[((0:Int) + (k:Int) * 1).toNat]?).toArray = (xs.toList.take b).toArray:=by
 have e:(fun (k:Nat)=>xs[((0:Int) + (k:Int) * 1).toNat]?) = fun k=>xs[k]?:=by
  funext k
  have:((0:Int) + (k:Int) * 1).toNat = k:=by omega
  rw [this]
 rw [e]
 congr 1
 induction b with
 | zero=>rfl
 | succ b ih =>
  rw [List.range_succ,List.filterMap_append,ih (by omega)]
  have h1:xs[b]? = some xs[b]:=Array.getElem?_eq_getElem (by omega)
  rw [List.filterMap_cons,h1]
  show _++[xs[b]] = _
  rw [List.take_add_one]
  congr 1
  rw [Array.getElem?_toList,h1]
  rfl
theorem eA {t sl:Addr} {items:Array Value} {b:Nat} {u:Tok} {Q:VS} (ht:IsTup s.heap t items) (hs:s.heap.IsSliceOf sl .none (.int b u) .none) (hb:b < items.size)
  (h:Q (.ref s.heap.objs.size) { s with heap:=s.heap.push { cls:=.type "tuple",data:=.seq (items.toList.take b).toArray } })
  (hsz:items.size≤sizeLine):wpAny (model prog w) A (getItem (.ref t) (.ref sl)) Q E s:=by
 revert prog w A E s t sl items b u Q
 refine no_implicit_lambda% (aW ?_)
 refine no_implicit_lambda% (e12 ?n fun T0=>(?_:bp T0) () _ _ _ _ _ _ _ _ _ _ _)
 case n=>fail "n"
 intro O prog w A E s t sl items b u Q
 intros
 clear T0
 have hdrop:sizeOk (.seq (items.toList.take b).toArray):=by
  show (items.toList.take b).toArray.size≤sizeLine
  rw [List.size_toArray,List.length_take,Array.length_toList]
  omega
 obtain ⟨os,hos,hcs,hds⟩:=id hs
 have hTs:s.TypeIs (.ref sl) "slice":=⟨os,hos,hcs⟩
 unfold getItem
 try with_reducible refine wpAny_holding ?_
 first | refine wpAny_bind (wpAny_pure ?_) | skip
 refine wpAny_bind (wpAny_sequenceKey ht.typeIs (by decide) ?_)
 refine wpAny_bind (wpAny_callSpecial?_slot (name:=Str.ofString "__getitem__") ht.typeIs slot_tuple_getitem
  (wpAny_call_entry slot_tuple_getitem ht.typeIs entry_tuple_getitem ?_ (args_tuple_getitem _ _)))
 show wpAny _ _ (Builtin.Tuple.tupleItemsOf (.ref t) >>= _) _ _ s
 refine wpAny_bind (tupleItemsOf_ ht ?_)
 refine wpAny_bind (wpAny_typeOf hTs ?_)
 rw [if_pos (by decide)]
 refine wpAny_bind (sliceApplied_to hs (Nat.le_of_lt hb) ?_)
 have hno:¬ (((0:Int) == 0 && (1:Int) == 1 && b == items.size) = true):=by
  have:(b == items.size) = false:=by rw [beq_eq_false_iff_ne];omega
  rw [this];simp
 show wpAny _ _ (if ((0:Int) == 0 && (1:Int) == 1 && b == items.size) = true then _ else _) _ _ s
 rw [if_neg hno,pick_to items b (Nat.le_of_lt hb)]
 first
  | exact wpAny_bind (m:=Builtin.Tuple.tupleExact _) (wpAny_newObj_type (wpAny_pure ⟨_,rfl,wpAny_pure h⟩) hdrop)
  | exact wpAny_bind (m:=Builtin.Tuple.tupleExact _) (wpAny_newObj_type (wpAny_bind (wpAny_pure (wpAny_pure ⟨_,rfl,wpAny_pure h⟩))) hdrop)
  | exact wpAny_bind (wpAny_bind (m:=Builtin.Tuple.tupleExact _) (wpAny_newObj_type (wpAny_pure (wpAny_pure ⟨_,rfl,wpAny_pure h⟩)) hdrop))
  | exact wpAny_bind (wpAny_bind (m:=Builtin.Tuple.tupleExact _) (wpAny_newObj_type (wpAny_pure ⟨_,rfl,wpAny_pure h⟩) hdrop))
end
section
variable {prog:Program} {w:World} {A:Around} {E:VS} {s:Shared} {h₀:Heap} {L:Addr} {m:MM} {news:List (Addr × Obj)}
theorem slice_tup {value slice:Expr} {t:Addr} {vs zs:List Value} {b:Int} {u:Tok} {n:Nat} {Q:VS}
  (F:Fr h₀ L s.heap m) (N:News h₀ L s.heap news) (hm:(t,aS vs n)∈news) (h0:0≤b) (hb:b < (vs.length:Int)) (hz:vs.length≤1000) (e:vs.take b.toNat = zs)
  (h:∀ D h',Fr h₀ L h' m→News h₀ L h' ((D,aS zs 0)::news)→(∀ p∈news,p.1 < D)→Q (.ref D) { s with heap:=h' })
  (hs:subscripted slice false (.ref t) (.ref s.heap.objs.size) = operate [.ref s.heap.objs.size,.ref t] (getItem (.ref t) (.ref s.heap.objs.size)):=by with_unfolding_all rfl)
  (hg:∀ r,letTemporaryGo value (.ref t) r = pure ():=by intro _;with_unfolding_all rfl) :
  wpAny (model prog w) A (subscriptTail value slice (.ref t) (.ref s.heap.objs.size)) Q E { s with heap:=s.heap.push { cls:=.type "slice",data:=.fields #[.none,.int b u,.none] } }:=by
 obtain ⟨b,rfl⟩:=Int.eq_ofNat_of_zero_le h0
 have ht:IsTup s.heap t vs.toArray:=⟨_,(N _ hm).1,rfl,n,rfl⟩
 have ht':IsTup (s.heap.push { cls:=.type "slice",data:=.fields #[.none,.int b u,.none] }) t vs.toArray:=ht.keeps fun O O e=>Heap.get?_push_of_some _ e
 refine subscriptTail_ops (s:={ s with heap:=s.heap.push { cls:=.type "slice",data:=.fields #[.none,.int b u,.none] } }) ht'.typeIs slot_tuple_getitem.lookup
  (eA ht' (Heap.IsSliceOf.new ..) (by rw [List.size_toArray];omega) ?_ (by rw [List.size_toArray,sizeLine_eq];omega)) hs hg
 have N1:=News.push (F.push { cls:=.type "slice",data:=.fields #[.none,.int b u,.none] }) (N.grown fun O O e=>Heap.get?_push_of_some _ e) (aS zs 0)
 rw [Heap.size_push] at N1
 have ez:vs.toArray.toList.take b = zs:=e
 rw [ez]
 show Q (.ref (s.heap.push _).objs.size) _
 rw [Heap.size_push]
 exact h _ _ ((F.push _).push _) N1 fun p hp=>Nat.lt_succ_of_lt (Heap.lt_size (N p hp).1)
theorem add_tup {t b:Addr} {vs ws:List Value} {n k:Nat} {Q:VS} (F:Fr h₀ L s.heap m) (N:News h₀ L s.heap news) (hm:(t,aS vs n)∈news) (hb:(b,aS ws k)∈news) (hv:vs≠[]) (hw:ws≠[]) (hz:vs.length + ws.length≤16384)
  (h:∀ D h',Fr h₀ L h' m→News h₀ L h' ((D,aS (vs++ws) 0)::news)→(∀ p∈news,p.1 < D)→Q (.ref D) { s with heap:=h' }):wpAny (model prog w) A (binaryOp .Add (.ref t) (.ref b)) Q E s :=
 kde_addT (its:=vs.toArray) (its2:=ws.toArray) F N ⟨_,(N _ hm).1,rfl,n,rfl⟩ ⟨_,(N _ hb).1,rfl,k,rfl⟩ hv hw hz rfl h
open Classical in
end
end
section
open PySem PySem.W PyProof.Rows PyProof.Rows.LCg PyProof.Rows.LCt
set_option maxRecDepth 100000
set_option tactic.hygienic false
section
variable {prog:Program} {w:World} {A:Around} {s:Shared} {h₀:Heap} {L:Addr} {m:MM} {env:Env} {ct elt:Expr} {x:Str} {scope:Scope} {cl:List (Str × Addr)} {S:Led→Prop} {P:Nat→Value→Prop} {Fin:List Value→Led→Prop}
theorem CompEnd.mono {s₁:Shared} {I C D:Addr} {oI oC oD:Obj} {rest rest':Value→Led→Prop} {y:Value} {s₂:Shared} (h:CompEnd h₀ L m s₁ I oI C oC D oD S rest y s₂) (hr:∀ n,rest y n→rest' y n):CompEnd h₀ L m s₁ I oI C oC D oD S rest' y s₂:=by
 obtain ⟨h',tk,news',a,b,c,d,e,f⟩:=h
 exact ⟨h',tk,news',a,b,c,d,e,hr _ f⟩
theorem compRest_inv (J:Nat→List Value→Led→Prop) (n:Nat)
  (step:∀ i ys news v I oI C oC D m₂ h tk (E':VS),i < n→J i ys news→P i v→NsObj oC m₂→m₂ x = some v→Fr h₀ L h m→News h₀ L h ((I,oI)::(C,oC)::(D,lst ys)::news)→Off3 I C D news→((@Ne Nat I C)∧(@Ne Nat I D)∧(@Ne Nat C D)) →
   wpAny (model prog w) A (eval elt (compEnvC scope cl C env)) (CompEnd h₀ L m { s with heap:=h,toks:=tk } I oI C oC D (lst ys) S (fun y news'=>J (i + 1) (ys++[y]) news')) E' { s with heap:=h,toks:=tk })
  (fin:∀ ys news,J n ys news→Fin ys news):∀ k i ys news,i + k = n→J i ys news→CompRest prog w A h₀ L m env elt x scope cl s S P Fin k i ys news
 | 0,i,ys,news,hi,hJ=>.zero (fin ys news (by rw [← hi,Nat.add_zero];exact hJ))
 | k + 1,i,ys,news,hi,hJ=>.succ fun v I oI C oC D m₂ h tk E' hP hN hx F N hO hne =>
  wpAny_mono (step i ys news v I oI C oC D m₂ h tk E' (by omega) hJ hP hN hx F N hO hne) (fun O O hc=>CompEnd.mono hc fun n' hn=>compRest_inv J n step fin k (i + 1) _ n' (by omega) hn) fun O O e=>e
theorem d9 (J:Nat→List Value→Led→Prop) (n:Nat)
  (step:∀ i ys news v I oI C oC D m₂ h tk (E':VS),i < n→J i ys news→P i v→NsObj oC m₂→m₂ x = some v→Fr h₀ L h m→News h₀ L h ((I,oI)::(C,oC)::(D,lst ys)::news)→Off3 I C D news→((@Ne Nat I C)∧(@Ne Nat I D)∧(@Ne Nat C D)) →
   wpAny (model prog w) A (isTrue ct (compEnvC scope cl C env) (eval ct (compEnvC scope cl C env))) (fun ok s'=>if ok = true then
    wpAny (model prog w) A (eval elt (compEnvC scope cl C env)) (CompEnd h₀ L m { s with heap:=h,toks:=tk } I oI C oC D (lst ys) S (fun y news'=>J (i + 1) (ys++[y]) news')) E' s'
    else CompEnd h₀ L m { s with heap:=h,toks:=tk } I oI C oC D (lst ys) S (fun O news'=>J (i + 1) ys news') Value.none s') E' { s with heap:=h,toks:=tk })
  (fin:∀ ys news,J n ys news→Fin ys news):∀ k i ys news,i + k = n→J i ys news→CompRestT prog w A h₀ L m env ct elt x scope cl s S P Fin k i ys news
 | 0,i,ys,news,hi,hJ=>.zero (fin ys news (by rw [← hi,Nat.add_zero];exact hJ))
 | k + 1,i,ys,news,hi,hJ=>.succ fun v I oI C oC D m₂ h tk E' hP hN hx F N hO hne =>
  wpAny_mono (step i ys news v I oI C oC D m₂ h tk E' (by omega) hJ hP hN hx F N hO hne) (fun ok s' hc=>by
   cases ok with
   | true =>
    simp only [if_true] at hc ⊢
    exact wpAny_mono hc (fun O O hc=>CompEnd.mono hc fun n' hn=>d9 J n step fin k (i + 1) _ n' (by omega) hn) fun O O e=>e
   | false =>
    simp only [Bool.false_eq_true,if_false] at hc ⊢
    exact CompEnd.mono hc fun n' hn=>d9 J n step fin k (i + 1) _ n' (by omega) hn) fun O O e=>e
end
end
section
open PySem PySem.W PyProof.Rows PyProof.Rows.LCg PyProof.Rows.LCt
set_option maxHeartbeats 8000000
set_option maxRecDepth 100000
set_option tactic.hygienic false
inductive EltP (J:List Value→Led→Prop) (m:MM) (ys:List Value) (nw T:Led):Value→MM→Led→Prop
 | mk (y:Value) (fp:Led) (hf:∀ q∈fp,∀ p∈T,@Ne Nat p.1 q.1) (h:J (ys++[y]) (fp++nw)):EltP J m ys nw T y m (fp++T)
noncomputable def OwnV (w:World) (F:FnC) (b:Bx) (env:Env) (x:Str) (v:Value) (m:MM) (T:Led):Prop:=∀ T' p,(∀ q∈T,q∈T')→Px w F b (eval (.Name x p) env) (fun a=>a = v) m T'
inductive TurnR (w:World) (F:FnC) (b:Bx) (env:Env) (ct elt:Expr) (m:MM) (ys:List Value) (nw T:Led) (J:List Value→Led→Prop):Prop
 | mk (c:Bool) (h1:Px w F b (isTrue ct env (eval ct env)) (fun a=>a = c) m T) (h2:c = true→Lx w F b (eval elt env) (EltP J m ys nw T) m T) (h3:c = false→J ys nw):TurnR w F b env ct elt m ys nw T J
noncomputable def TurnT (w:World) (F:FnC) (b:Bx) (sc:Scope) (cl:List (Str × Addr)) (ct elt:Expr) (x:Str) (m:MM) (led:Led) (P:Nat→Value→Prop) (n:Nat) (J:Nat→List Value→Led→Prop):Prop :=
 ∀ i v ys nw T C,i < n→P i v→J i ys nw→(∀ p∈led,p∈nw)→(∀ p∈nw,p∈T)→OwnV w F b (compEnvC sc cl C (evx F b)) x v m T→TurnR w F b (compEnvC sc cl C (evx F b)) ct elt m ys nw T (J (i + 1))
noncomputable def TurnU (w:World) (F:FnC) (b:Bx) (sc:Scope) (cl:List (Str × Addr)) (elt:Expr) (x:Str) (m:MM) (led:Led) (P:Nat→Value→Prop) (n:Nat) (J:Nat→List Value→Led→Prop):Prop :=
 ∀ i v ys nw T C,i < n→P i v→J i ys nw→(∀ p∈led,p∈nw)→(∀ p∈nw,p∈T)→OwnV w F b (compEnvC sc cl C (evx F b)) x v m T→Lx w F b (eval elt (compEnvC sc cl C (evx F b))) (EltP (J (i + 1)) m ys nw T) m T
section
variable {w:World} {D:Nat} {F:FnC} {b:Bx} {m:MM} {led:Led} {ct elt:Expr} {x y:Str} {sc:Scope} {cl:List (Str × Addr)} {P:Nat→Value→Prop} {S:Led→Prop} {n:Nat} {J:Nat→List Value→Led→Prop} {Fin:List Value→Led→Prop} {s:Shared}
theorem off3_app {I C D:Addr} {fp nw:Led} (h:∀ q∈fp,@Ne Nat I q.1∧@Ne Nat C q.1∧@Ne Nat D q.1) (g:Off3 I C D nw):Off3 I C D (fp++nw):=Off3.of fun p hp=>by
 fail "a"
 ·have:=h p hp;exact ⟨fun e=>this.1 e.symm,fun e=>this.2.1 e.symm,fun e=>this.2.2 e.symm⟩
 ·exact g.mem p hp
theorem sub_app {a c e:Addr × Obj} {fp nw:Led}:∀ p∈a::c::e::(fp++nw),p∈fp++(a::c::e::nw):=fun p hp=>by
 simp only [List.mem_cons,List.mem_append] at hp ⊢
 rcases hp with h | h | h | h | h
 ·exact .inr (.inl h)
 ·exact .inr (.inr (.inl h))
 ·exact .inr (.inr (.inr (.inl h)))
 ·exact .inl h
 ·exact .inr (.inr (.inr (.inr h)))
theorem elt_end {I C D:Addr} {oI oC:Obj} {ys:List Value} {nw:Led} {i:Nat} {a:Value} {m':MM} {led':Led} {h':Heap} {tk':Nat} (hS:∀ nw,(∀ p∈led,p∈nw)→S nw) (hsub:∀ p∈led,p∈nw) (hO:Off3 I C D nw) (hp:EltP (J (i + 1)) m ys nw ((I,oI)::(C,oC)::(D,lst ys)::nw) a m' led') (F':Fr b.g b.L h' m') (N':News b.g b.L h' led') :
  CompEnd b.g b.L m s I oI C oC D (lst ys) S (fun y news'=>(∀ p∈led,p∈news')∧J (i + 1) (ys++[y]) news') a { s with heap:=h',toks:=tk' }:=by
 cases hp with
 | mk fp hf h =>
  have hs2:∀ p∈led,p∈fp++nw:=fun p hp=>aR (hsub p hp)
  exact CompEnd.intro F' N' (fp++nw) sub_app (off3_app (fun q hq=>⟨hf q hq _ (.head _),hf q hq _ (.tail _ (.head _)),hf q hq _ (.tail _ (.tail _ (.head _)))⟩) hO) (hS _ hs2) ⟨hs2,h⟩
theorem own_v {I C D:Addr} {oI oC oD:Obj} {nw:Led} {m₂:MM} {v:Value} (hN:NsObj oC m₂) (hx:m₂ x = some v) (hk:∀ C,(compEnvC sc cl C (evx F b)).scope.kind = .function) (hl:∀ C,(compEnvC sc cl C (evx F b)).kindOf x = some .local) (hd:(x == ("__debug__":Str)) = false) :
  OwnV w F b (compEnvC sc cl C (evx F b)) x v m ((I,oI)::(C,oC)::(D,oD)::nw):=fun T' p hs s Q E f N q=>LCgL.ld_own N (hs _ (.tail _ (.head _))) hN hx (q _ s.heap s.toks rfl f N) (hk C) (hl C) hd
theorem rest_T (turn:TurnT w F b sc cl ct elt x m led P n J) (hS:∀ nw,(∀ p∈led,p∈nw)→S nw) (h0:J 0 [] led) (fin:∀ ys nw,J n ys nw→(∀ p∈led,p∈nw)→Fin ys nw)
  (hk:∀ C,(compEnvC sc cl C (evx F b)).scope.kind = .function) (hl:∀ C,(compEnvC sc cl C (evx F b)).kindOf x = some .local) (hd:(x == ("__debug__":Str)) = false):CompRestT PG w (tpx F b) b.g b.L m (evx F b) ct elt x sc cl s S P Fin n 0 [] led :=
 d9 (fun i ys nw=>(∀ p∈led,p∈nw)∧J i ys nw) n (fun i ys nw v I oI C oC D m₂ h tk E' hi hJ hP hN hx FF NN hO hne=>by
  obtain ⟨c,h1,h2,h3⟩:=turn i v ys nw _ C hi hP hJ.2 hJ.1 (fun p hp=>.tail _ (.tail _ (.tail _ hp))) (own_v (I:=I) (oI:=oI) (D:=D) (oD:=lst ys) hN hx hk hl hd)
  refine h1 _ _ _ FF NN fun a h' tk' pa F' N'=>?_
  subst pa
  cases a with
  | true=>rw [if_pos rfl];exact h2 rfl _ _ _ F' N' fun y m' led' h'' tk'' hp F'' N''=>elt_end hS hJ.1 hO hp F'' N''
  | false =>
   rw [if_neg (by simp)]
   exact CompEnd.intro F' N' nw (fun p hp=>hp) hO (hS _ hJ.1) ⟨hJ.1,h3 rfl⟩) (fun ys nw h=>fin ys nw h.2 h.1) n 0 [] led (Nat.zero_add _) ⟨fun O h=>h,h0⟩
theorem rest_U (turn:TurnU w F b sc cl elt x m led P n J) (hS:∀ nw,(∀ p∈led,p∈nw)→S nw) (h0:J 0 [] led) (fin:∀ ys nw,J n ys nw→(∀ p∈led,p∈nw)→Fin ys nw)
  (hk:∀ C,(compEnvC sc cl C (evx F b)).scope.kind = .function) (hl:∀ C,(compEnvC sc cl C (evx F b)).kindOf x = some .local) (hd:(x == ("__debug__":Str)) = false):CompRest PG w (tpx F b) b.g b.L m (evx F b) elt x sc cl s S P Fin n 0 [] led :=
 compRest_inv (fun i ys nw=>(∀ p∈led,p∈nw)∧J i ys nw) n (fun i ys nw v I oI C oC D m₂ h tk E' hi hJ hP hN hx FF NN hO hne =>
  turn i v ys nw _ C hi hP hJ.2 hJ.1 (fun p hp=>.tail _ (.tail _ (.tail _ hp))) (own_v (I:=I) (oI:=oI) (D:=D) (oD:=lst ys) hN hx hk hl hd) _ _ _ FF NN fun y m' led' h'' tk'' hp F'' N''=>elt_end hS hJ.1 hO hp F'' N'') (fun ys nw h=>fin ys nw h.2 h.1) n 0 [] led (Nat.zero_add _) ⟨fun O h=>h,h0⟩
theorem eM {D:Addr}:∀ {l:Led},Off1 D l→∀ p∈l,@Ne Nat p.1 D
 | [],_,_,h=>nomatch h
 | _::_,x,p,h=>by
  rcases List.mem_cons.mp h with rfl | h
  ·exact x.1
  ·exact eM x.2 p h
end
section
variable {w:World} {D:Nat} {F:FnC} {b:Bx} {m:MM} {led:Led} {ct elt iter g e:Expr} {x y:Str} {sc:Scope} {cl:List (Str × Addr)} {J:Nat→List Value→Led→Prop} {px py pos spos cp:Pos} {ax:Addr} {its:Array Value} {k n:Nat} {φ:VP} {ψ:FP}
theorem lx_compT (hi:Px w F b (eval iter (evx F b)) (fun a=>a = .ref ax) m led) (hm:(ax,listOf its k)∈led) (hz:its.size≤1000) (h0:J 0 [] led) (turn:TurnT w F b sc cl ct elt x m led (fun i v=>its[i]? = some v) its.size J)
  (hq:∀ D ys nw,J its.size ys nw→(∀ p∈led,p∈nw)→(∀ p∈nw,@Ne Nat p.1 D)→φ (.ref D) m ((D,lst ys)::nw))
  (hclos:closureFor sc (evx F b) = pure cl) (hcell:∀ y∈sc.names,y.2≠.cell) (hkind:sc.kind = .function) (hnames:∀ y∈sc.names,y.2 = .local→sc.names.lookup y.1 = some .local) (hx:sc.names.lookup x = some .local)
  (hk:∀ C,(compEnvC sc cl C (evx F b)).scope.kind = .function) (hl:∀ C,(compEnvC sc cl C (evx F b)).kindOf x = some .local) (hd:(x == ("__debug__":Str)) = false) (hs:∀ x,foldedSetIterable iter (evx F b) x = pure x) :
  Lx w F b (eval (.ListComp elt [⟨.Name x px,iter,[ct],0⟩] sc pos) (evx F b)) φ m led:=fun s Q E f N q =>
 ListComp_T f hclos hcell hkind hnames hx (hi s _ E f N fun a h' tk' pa F' N'=>by
  subst pa
  exact CompSrcT.ledger (by exact rfl) F' N' hm (Nat.le_trans hz (by decide)) fun g=>rest_T turn (fun nw h=>.inr ⟨_,h _ hm,rfl,_,rfl⟩) h0 (fun ys nw hJ hsub D h tk F2 N2 o=>q _ _ _ h tk (hq D ys nw hJ hsub (eM o)) F2 N2) hk hl hd) hs
theorem lx_compU (hi:Px w F b (eval iter (evx F b)) (fun a=>a = .ref ax) m led) (hm:(ax,listOf its k)∈led) (hz:its.size≤1000) (h0:J 0 [] led) (turn:TurnU w F b sc cl elt x m led (fun i v=>its[i]? = some v) its.size J)
  (hq:∀ D ys nw,J its.size ys nw→(∀ p∈led,p∈nw)→(∀ p∈nw,@Ne Nat p.1 D)→φ (.ref D) m ((D,lst ys)::nw))
  (hclos:closureFor sc (evx F b) = pure cl) (hcell:∀ y∈sc.names,y.2≠.cell) (hkind:sc.kind = .function) (hnames:∀ y∈sc.names,y.2 = .local→sc.names.lookup y.1 = some .local) (hx:sc.names.lookup x = some .local)
  (hk:∀ C,(compEnvC sc cl C (evx F b)).scope.kind = .function) (hl:∀ C,(compEnvC sc cl C (evx F b)).kindOf x = some .local) (hd:(x == ("__debug__":Str)) = false) (hs:∀ x,foldedSetIterable iter (evx F b) x = pure x) :
  Lx w F b (eval (.ListComp elt [⟨.Name x px,iter,[],0⟩] sc pos) (evx F b)) φ m led:=fun s Q E f N q =>
 ListComp_U f hclos hcell hkind hnames hx (hi s _ E f N fun a h' tk' pa F' N'=>by
  subst pa
  exact CompSrc.ledger (by exact rfl) F' N' hm (Nat.le_trans hz (by decide)) fun g=>rest_U turn (fun nw h=>.inr ⟨_,h _ hm,rfl,_,rfl⟩) h0 (fun ys nw hJ hsub D h tk F2 N2 o=>q _ _ _ h tk (hq D ys nw hJ hsub (eM o)) F2 N2) hk hl hd) hs
theorem lx_asgT (hi:Px w F b (eval iter (evx F b)) (fun a=>a = .ref ax) m led) (hm:(ax,listOf its k)∈led) (hz:its.size≤1000) (h0:J 0 [] led) (turn:TurnT w F b sc cl ct elt x m led (fun i v=>its[i]? = some v) its.size J)
  (hq:∀ D ys nw,J its.size ys nw→(∀ p∈led,p∈nw)→(∀ p∈nw,@Ne Nat p.1 D)→ψ .next (ms m y (.ref D)) ((D,lst ys)::nw))
  (hsw:swapsWith (.ListComp elt [⟨.Name x px,iter,[ct],0⟩] sc pos) (some (.Name y py)) spos.line (evx F b) = pure true)
  (hclos:closureFor sc (evx F b) = pure cl) (hcell:∀ y∈sc.names,y.2≠.cell) (hkind:sc.kind = .function) (hnames:∀ y∈sc.names,y.2 = .local→sc.names.lookup y.1 = some .local) (hx:sc.names.lookup x = some .local)
  (hy:(evx F b).kindOf y = some .local) (hp:(((evx F b).scope.kind == .class) || (((evx F b).scope.kind == .module) && (evx F b).locals != (evx F b).globals)) = false)
  (hk:∀ C,(compEnvC sc cl C (evx F b)).scope.kind = .function) (hl:∀ C,(compEnvC sc cl C (evx F b)).kindOf x = some .local) (hd:(x == ("__debug__":Str)) = false) (hs:∀ x,foldedSetIterable iter (evx F b) x = pure x) :
  Lx w F b (exec (.Assign [.Name y py] (.ListComp elt [⟨.Name x px,iter,[ct],0⟩] sc pos) spos) (evx F b)) ψ m led:=fun s Q E f N q =>
 Assign_ListComp_T f rfl hsw hclos hcell hkind hnames hx hy hp (hi s _ E f N fun a h' tk' pa F' N'=>by
  subst pa
  exact CompSrcT.ledger (by exact rfl) F' N' hm (Nat.le_trans hz (by decide)) fun g=>rest_T turn (fun nw h=>.inr ⟨_,h _ hm,rfl,_,rfl⟩) h0 (fun ys nw hJ hsub D h tk F2 N2 o=>q _ _ _ h tk (hq D ys nw hJ hsub (eM o)) F2 N2) hk hl hd) hs
end
section
variable {w:World} {D:Nat} {F:FnC} {b:Bx} {m:MM} {led:Led} {x:Str} {sc:Scope} {cl:List (Str × Addr)} {C c:Addr} {o:Obj} {v:Value} {p:Pos}
theorem cD (hm:(c,o)∈led) (hd:o.data = .cell (some v)) (hc:cl.lookup x = some c) (hk:(compEnvC sc cl C (evx F b)).scope.kind = .function) (hx:(compEnvC sc cl C (evx F b)).kindOf x = some .cell) (hb:(x == ("__debug__":Str)) = false) :
  Px w F b (eval (.Name x p) (compEnvC sc cl C (evx F b))) (fun a=>a = v) m led:=fun s Q E f N q=>lcf_cell N hc hm hd (q _ s.heap s.toks rfl f N) hk hx hb
theorem px_cglob (ok:Okx w D b) (e:nsIn (Mine.hd.heap_39 w.params) mainGlobals x = some (some v)) (hk:(compEnvC sc cl C (evx F b)).scope.kind = .function) (hx:(compEnvC sc cl C (evx F b)).kindOf x = some .globalImplicit) (hd:(x == ("__debug__":Str)) = false) :
  Px w F b (eval (.Name x p) (compEnvC sc cl C (evx F b))) (fun a=>a = v) m led:=fun s Q E f N q=>LCgL.ld_global f ok.X ok.T e (q _ s.heap s.toks rfl f N) rfl hk hx hd
theorem px_cell (hm:(c,o)∈led) (hd:o.data = .cell (some v)) (hc:b.cl.lookup x = some c) (hk:F.cs.kind = .function) (hx:(evx F b).kindOf x = some .cell) (hb:(x == ("__debug__":Str)) = false) :
  Px w F b (eval (.Name x p) (evx F b)) (fun a=>a = v) m led:=fun s Q E f N q=>nameX_C N hc hm hd (q _ s.heap s.toks rfl f N) hk hx hb
theorem lx_augname {value:Expr} {op:Operator} {pos pos':Pos} {P P':Value→Prop} {old:Value} {φ:FP} (ho:m x = some old) (h:Px w F b (eval value (evx F b)) P m led) (hop:∀ u,P u→Px w F b (inplaceOp op old u) P' m led) (hq:∀ v,P' v→φ .next (ms m x v) led) (hk:F.cs.kind = .function) (hx:(evx F b).kindOf x = some .local):Lx w F b (exec (.AugAssign (.Name x pos') op value pos) (evx F b)) φ m led:=fun s Q E f N q =>
 wpAny_AugAssign_Name (wpAny_loadName_local hk hx f.ns ho (h s _ E f N fun u h' tk' pa F' N'=>hop u pa _ _ E F' N' fun v h2 tk2 pv F2 N2=>storeX_L F2 N2 (fun h3 F3 N3=>q _ _ _ h3 _ (hq v pv) F3 N3) hk hx))
end
end
section
open PySem PySem.W PyProof.Rows
set_option maxHeartbeats 8000000
set_option maxRecDepth 100000
set_option tactic.hygienic false
noncomputable abbrev cb (sc:Scope) (b:Bx):Bx:={ b with cl:=cellsFrom (b.L + 1) sc.names [] }
section
variable {w:World} {D:Nat} {f:Addr} {args:List Value} {fp rest:Led} {post:Value→Led→Prop} {name qual:Str} {params:Arguments} {body:List Stmt} {scope:Scope} {dV kV doc pm cdv ct oc:Value} {an od:Option Addr} {osl:Array (Option Value)} {binds:List (Str × Value)}
theorem calls_ofC (ho:(Mine.hd.heap_39 w.params).lookup f = some ⟨oc,od,.func (fnOf name qual params body scope dV kV doc pm an cdv ct),osl⟩) (hcd:codeIn (Mine.hd.heap_39 w.params) cdv qual = true)
  (hbind:∀ s,BindsTo s (fnOf name qual params body scope dV kV doc pm an cdv ct) ⟨args,[]⟩ binds) (hkind:(binds.all fun y=>scope.names.lookup y.1 == some .local || scope.names.lookup y.1 == some .cell) = true) (hnd:((cellsFrom 0 scope.names []).map (·.1)).Nodup)
  (hco:scope.isCoroutine = false) (hgen:scope.isGenerator = false) (hk:scope.kind = .function)
  (h:∀ (b:Bx) (cells:Led),Okx w D (cb scope b)→CellsAre (bindC (evx ⟨qual,scope,f,cdv⟩ (cb scope b)).kindOf binds fun O=>none) (cellsFrom (b.L + 1) scope.names []) cells→(∀ p∈fp++rest,@LT.lt Nat _ p.1 b.L)→∀ φ:FP,(∀ fl m' fp',post (retv fl) fp'→φ fl m' (fp'++rest)) →
   Lx w ⟨qual,scope,f,cdv⟩ (cb scope b) (execs body (evx ⟨qual,scope,f,cdv⟩ (cb scope b))) φ (bindL (evx ⟨qual,scope,f,cdv⟩ (cb scope b)).kindOf binds fun O=>none) (cells++(fp++rest))) :
  am w (D + 1) f args fp rest post:=by
 intro dp un gd cn cs a ccd cl outer A₀ base h₀ L m mg mb mean s Q E B F X N T hkk hd hu k
 refine wpAny_call ?_
 refine code_defC (env:=envX cn cs L a ccd cl) (outer:=outer) B F X N T rfl rfl hkk ho hcd ?_ (hbind s) hkind hnd (fun g L' h' tk cells FG F' N' Y B' X' T' l1=>?_) hco hgen hk
 ·show dp < recursionLimit;omega
 ·refine h ⟨dp + 1,un + 3,gd,[],envX cn cs L a ccd cl::outer,_,base,g,L',mg,mb,mean⟩ cells ⟨B',X',T',by show dp + 1 + D < _;omega,by show un + 3 + 8 * D < _;omega⟩ Y l1 (fun fl O led'=>∃ fp',led' = fp'++rest∧post (retv fl) fp') (fun fl m' fp' hp=>⟨fp',rfl,hp⟩) _ _ _ F' N' ?_
  intro fl m' led' h'' tk' hp F'' N''
  obtain ⟨fp',rfl,hp⟩:=hp
  refine leaveK_ F'' N'' fun F3 N3=>?_
  exact k _ _ _ _ F3 N3 hp
end
end
section
open PySem PySem.W PyProof.Rows PySem.Spec PySem.Calls
set_option maxRecDepth 100000
set_option tactic.hygienic false
section
variable {K:Frag} {p:Program} {loose:List Str} {mean:ExcName→Option Value} {mg mb:MM} {prog:Program} {w:World} {A A₀:Around} {s:Shared} {base h₀:Heap} {L a:Addr} {m:MM} {news:Led} {cn:Str} {cs:Scope} {ccd:Value} {cl:List (Str × Addr)} {outer:List Env}
theorem enterX (B:Below A₀ base outer h₀) (F:Fr h₀ L s.heap m) (N:News h₀ L s.heap news) (hA:A.frames = some (envX cn cs L a ccd cl::outer)) (hck:cs.kind = .function) :
  ∃ oL es ep,(hideAll s.heap (news.map (·.1))).get? L = some oL∧oL.data = .dict es ep∧(∀ h',h'.get? L = some oL→Heap.Ns h' L m)∧(∀ (sl:Array (Option Value)) h',h'.get? L = some { oL with slots:=sl }→Heap.Ns h' L m) ∧
   h₀.StaysIn (hideAll s.heap (news.map (·.1)))∧Below A base (envX cn cs L a ccd cl::outer) (hideAll s.heap (news.map (·.1))):=by
 obtain ⟨oL,es,ep,h1,h2,h3,h4,h5,B₂⟩:=kts_enter (a:=a) (ccd:=ccd) (cn:=cn) (A:={ A with frames:=some (envOf cn cs L a ccd::outer) }) B F N rfl hck
 exact ⟨oL,es,ep,h1,h2,h3,h4,h5,⟨hA,B₂.stays,B₂.frames⟩⟩
theorem memX {b:Addr} (h:b∈[envX cn cs L a ccd cl].filterMap (·.frame)):b = L:=by
 rcases List.mem_filterMap.mp h with ⟨e,he,hf⟩
 rw [List.mem_singleton.mp he] at hf
 exact (Option.some.inj hf).symm
theorem code_defSX {R:Result→Shared→Prop} {name qual:Str} {params:Arguments} {body:List Stmt} {scope:Scope} {dV kV doc pm cdv ct oc:Value} {an od:Option Addr} {osl:Array (Option Value)} {f:Addr} {args:Args} {binds:List (Str × Value)}
  (B:Below A₀ base [] h₀) (F:Fr h₀ L s.heap m) (X₀:K.In h₀) (N:News h₀ L s.heap news) (T:Top p loose mean mg mb h₀) (hA:A.frames = some [envX cn cs L a ccd cl])
  (ho:K.lookup f = some ⟨oc,od,.func (fnOf name qual params body scope dV kV doc pm an cdv ct),osl⟩) (hcd:codeIn K cdv qual = true) (hroom:A.depth < recursionLimit)
  (hbind:BindsTo s (fnOf name qual params body scope dV kV doc pm an cdv ct) args binds) (hloc:∀ y∈binds,scope.names.lookup y.1 = some .local)
  (h:∀ g L' h₁,Fr h₀ L g m→Fr g L' h₁ (fun y=>binds.reverse.lookup y)→News g L' h₁ news→Below A base [envX cn cs L a ccd cl] g→K.In g→Top p loose mean mg mb g→KtsDicts ([envX cn cs L a ccd cl].filterMap (·.frame)) g →
   wpAny (model prog w) (A.deeper (envOf qual scope L' f cdv)) (execs body (envOf qual scope L' f cdv))
    (fun fl s'=>LeaveS0 ([envX cn cs L a ccd cl].filterMap (·.frame)) h₀ L m g R (match fl with | .ret v=>v | _=>.none) s')
    (fun e s'=>wpAny (model prog w) (A.deeper (envOf qual scope L' f cdv)) (leaving (envOf qual scope L' f cdv) e) (fun O s''=>R (.error e) s'') (fun e' s''=>R (.error e') s'') s')
    { s with heap:=h₁,toks:=s.toks + binds.length })
  (hck:cs.kind = .function) (hco:scope.isCoroutine = false) (hgen:scope.isGenerator = false) (hk:scope.kind = .function)
  (hcell:∀ x∈scope.names,x.2≠.cell):codeAny (model prog w) A (.call (.ref f) args) R s:=by
 have X:=X₀.keeps F.keep
 refine codeAny_call_def (fd:=fnOf name qual params body scope dV kV doc pm an cdv ct) (body:=body) (binds:=binds) hroom (X _ _ ho) rfl (T.nolimit.keeps F.keep) (codeRec_of X hcd) rfl hbind hcell hloc (fun h₁ hns hk₁=>?_) hco hgen hk
 obtain ⟨oL,es,ep,hLg,hLd,hN,hNs,st,B₂⟩:=enterX (cl:=cl) (a:=a) (ccd:=ccd) B F N hA hck
 have Fg:Fr h₀ L (hideAll s.heap (news.map (·.1))) m:=⟨hN _ hLg,st,F.above⟩
 have F1:Fr (hideAll s.heap (news.map (·.1))) s.heap.objs.size h₁ (fun y=>binds.reverse.lookup y):=⟨hns,fun b o e=>hk₁ b o (of_hideAll _ e),Nat.le_of_eq (hideAll_size _ _)⟩
 have N1:News (hideAll s.heap (news.map (·.1))) s.heap.objs.size h₁ news:=fun q hq=>⟨hk₁ _ _ (N q hq).1,Nat.ne_of_lt (Heap.lt_size (N q hq).1),hideAll_none _ (List.mem_map_of_mem hq)⟩
 have D1:KtsDicts ([envX cn cs L a ccd cl].filterMap (·.frame)) (hideAll s.heap (news.map (·.1))):=fun b hb=>by
  rw [memX hb]
  exact ⟨oL,es,ep,hLg,hLd⟩
 refine wpAny_mono (h _ s.heap.objs.size h₁ Fg F1 N1 B₂ (X₀.keeps st) (T.keeps st) D1) (fun fl s' hl=>?_) fun O O y=>y
 obtain ⟨g',L',m',news',T',F',N',k⟩:=hl
 have nL₀:h₀.get? L = none:=kts_self F
 obtain ⟨sl,hs⟩:=T'.up hLg
 refine k ⟨hNs sl _ (F'.keep _ _ hs),fun b o e=>F'.keep b o (T'.other b o (st b o e) fun q=>?_),F.above⟩ fun q hq=>⟨(N' q hq).1,fun e=>?_,?_⟩
 ·rw [memX q,nL₀] at e
  cases e
 ·have:=(N' q hq).2.2
  rw [e,hs] at this
  cases this
 ·cases z:h₀.get? q.1 with
  | none=>rfl
  | some o =>
   obtain ⟨sl',hs'⟩:=T'.up (st _ _ z)
   have:=(N' q hq).2.2
   rw [hs'] at this
   cases this
end
end
section
open PySem PySem.W PyProof.Rows PySem.Spec
set_option tactic.hygienic false
inductive TurnGN (G:Heap→Prop) (L:Addr) (J:MM→Led→Prop) (I:Addr) (o:Obj) (s s₂:Shared):Prop
 | mk (g h':Heap) (tk':Nat) (m':MM) (news' led:Led) (hg:G g) (e:s₂ = { s with heap:=h',toks:=tk' }) (F:Fr g L h' m') (N:News g L h' led) (hI:(I,o)∈led) (hs:∀ p∈news',p∈led) (hne:∀ p∈news',p.1≠I) (hj:J m' news'):TurnGN G L J I o s s₂
noncomputable def TurnG (G:Heap→Prop) (L:Addr) (J:MM→Led→Prop) (I:Addr) (o:Obj) (s:Shared) (Q:FS) (f:Flow) (s₂:Shared):Prop :=
 match f with
 | .ret v=>Q (.ret v) s₂
 | .brk=>Q .next s₂
 | _=>TurnGN G L J I o s s₂
inductive LoopAtG (prog:Program) (w:World) (A:Around) (G:Heap→Prop) (env:Env) (x:Str) (body:List Stmt) (Q:Flow→Shared→Prop) (E:Value→Shared→Prop) (it:Value) (s₂:Shared):Prop
 | mk (I:Addr) (n:Nat) (P:Nat→Value→Prop) (St:Nat→Heap→Prop) (m:MM) (news:Led) (J:Nat→MM→Led→Prop) (g:Heap)
  (e:it = .ref I) (W:Walks prog w A I [I] [I] n P St) (hL:@Ne Nat env.locals I) (hg:G g) (hGI:∀ g,G g→g.get? I = none) (hSt:∀ i h,St i h→∃ o,h.get? I = some o) (hnw:∀ p∈news,p.1≠I) (hst:St 0 s₂.heap) (F:Fr g env.locals s₂.heap m) (N:News g env.locals s₂.heap news) (h0:J 0 m news)
  (step:∀ i v m₁ news₁ h tk o g,i < n→P i v→G g→J i m₁ news₁→(∀ p∈news₁,p.1≠I)→Fr g env.locals h (fun y=>if y = x then some v else m₁ y)→News g env.locals h ((I,o)::news₁) →
   wpAny (model prog w) A (execs body env) (TurnG G env.locals (J (i + 1)) I o { s₂ with heap:=h,toks:=tk } Q) E { s₂ with heap:=h,toks:=tk })
  (hQ:∀ g h' tk m' news',G g→Fr g env.locals h' m'→News g env.locals h' news'→J n m' news'→Q .next { s₂ with heap:=h',toks:=tk }):LoopAtG prog w A G env x body Q E it s₂
inductive FGs (G:Heap→Prop) (L I:Addr) (St:Nat→Heap→Prop) (J:Nat→MM→Led→Prop) (n:Nat) (s:Shared) (k:Nat) (s':Shared):Prop
 | mk (h':Heap) (tk:Nat) (m':MM) (news':Led) (i:Nat) (g:Heap) (e:s' = { s with heap:=h',toks:=tk }) (hst:St i h') (hg:G g) (F:Fr g L h' m') (N:News g L h' news') (hnw:∀ p∈news',p.1≠I) (hJ:J i m' news') (hi:i≤n) (hk:k = n + 1 - i):FGs G L I St J n s k s'
section
variable {prog:Program} {w:World} {A:Around} {s:Shared} {env:Env}
theorem For_G {E:VS} {Q:FS} {x:Str} {px pos:Pos} {iter:Expr} {body:List Stmt} (G:Heap→Prop) (hx:env.kindOf x = some .local)
  (hp:(env.scope.kind == .class || (env.scope.kind == .module && env.locals != env.globals)) = false)
  (h:wpAny (model prog w) A (eval iter env) (fun xv s₁=>wpAny (model prog w) A (pyIter xv) (fun it s₂=>LoopAtG prog w A G env x body Q E it s₂) E s₁) E s)
  (hs:∀ x,foldedSetIterable iter env x = pure x:=by intro _;rfl)
  (hE:PassesOwn (model prog w) A env E:=by passes_own) :
  wpAny (model prog w) A (exec (.For (.Name x px) iter body [] pos) env) Q E s:=by
 revert prog w A s env E Q x px pos iter body G
 refine no_implicit_lambda% (aW ?_)
 refine no_implicit_lambda% (aW ?_)
 refine no_implicit_lambda% (aW ?_)
 refine no_implicit_lambda% (e16 ?n fun T0=>(?_:bp T0) () () () _ _ _ _ _ _ _ _ _ _ _ _ _)
 case n=>fail "n"
 intro O O O prog w A s env E Q x px pos iter body G
 intros
 clear T0
 refine wpAny_For (wpAny_mono h (fun xv s₁ h₁=>wpAny_mono h₁ (fun it s₂ h₂=>?_) fun O O e=>e) fun O O e=>e) hs
 obtain ⟨I,n,P,St,m,news,J,g,rfl,W,hL,hg,hGI,hStI,hnw,hst,F,N,h0,step,hQ⟩:=h₂
 refine codeAny_forLoop (R:=fun r s'=>match r with | .ok f=>Q f s' | .error e=>cameBackBy (model prog w) A env E e s')
  (FGs G env.locals I St J n s₂) ?_ (n + 1)
  ⟨s₂.heap,s₂.toks,m,news,0,g,rfl,hst,hg,F,N,hnw,h0,Nat.zero_le _,rfl⟩
 intro k s' hx1
 obtain ⟨h',tk,m',news',i,g,rfl,hst',hg',F',N',hnw',hJ,hi,rfl⟩:=hx1
 have hI0:=hGI g hg'
 have ne_of:∀ {b:Addr},@Ne Nat b I→b ∉ [I]:=fun hne hm=>hne (List.mem_singleton.mp hm)
 have next:∀ h₁:Heap,(∀ b o,b ∉ [I]→h'.get? b = some o→h₁.get? b = some o)→Fr g env.locals h₁ m'∧News g env.locals h₁ news':=fun h₁ hk₁ =>
  ⟨⟨F'.ns.at' fun o e=>hk₁ _ o (ne_of hL) e,fun b o e=>hk₁ b o (ne_of fun q=>by rw [q,hI0] at e;cases e) (F'.keep b o e),F'.above⟩,fun p hp=>⟨hk₁ _ _ (ne_of (hnw' p hp)) (N' p hp).1,(N' p hp).2⟩⟩
 by_cases hlt:i < n
 ·refine W.item i _ _ _ hlt hst' fun v h₁ tk₁ hP hst₁ hk₁=>?_
  obtain ⟨F₁,N₁⟩:=next h₁ hk₁
  refine wpAny_assign_Name (wpAny_storeName_local hx F₁.ns (fun h₂ hn₂ hs₂=>?_) hp)
  have F₂:=F₁.set hn₂ hs₂
  obtain ⟨o,ho⟩:=hStI _ _ hst₁
  have ho₂:h₂.get? I = some o:=(hs₂.2 I fun q=>hL q.symm).trans ho
  have N₂:News g env.locals h₂ ((I,o)::news'):=fun p hp=>by
   fail "c"
   ·exact ⟨ho₂,fun q=>hL q.symm,hI0⟩
   ·exact (N₁.set hs₂) p hp
  refine wpAny_mono (wpAny_passesOwn hE (step i v m' news' h₂ _ o g hlt hP hg' hJ hnw' F₂ N₂)) (fun f s₃ h₃=>?_) fun O O e=>e
  have fin:TurnGN G env.locals (J (i + 1)) I o { s₂ with heap:=h₂,toks:=tk₁ + 1 } s₃→∃ m,m < n + 1 - i∧FGs G env.locals I St J n s₂ m s₃:=by
   intro hx2
   obtain ⟨g₃,h₃',tk₃,m₂,news₂,led,hg₃,rfl,F₃,N₃,hI,hsub,hne,hJ₃⟩:=hx2
   refine ⟨n + 1 - (i + 1),Nat.sub_lt_sub_left (Nat.lt_succ_of_lt hlt) (Nat.lt_succ_self i),h₃',tk₃,m₂,news₂,i + 1,g₃,rfl,?_,hg₃,F₃,fun p hp=>N₃ p (hsub p hp),hne,hJ₃,hlt,rfl⟩
   refine W.frame _ _ _ hst₁ fun b hb o' e=>?_
   rw [List.mem_singleton.mp hb] at e ⊢
   rw [ho] at e
   cases e
   exact (N₃ _ hI).1
  cases f with
  | ret v=>exact h₃
  | brk=>exact h₃
  | cont=>exact fin h₃
  | next=>exact fin h₃
 ·have hin:i = n:=by omega
  subst hin
  refine W.done _ _ _ hst' fun h₁ tk₁ hk₁=>wpAny_execs_nil ?_
  obtain ⟨F₁,N₁⟩:=next h₁ hk₁
  exact hQ g h₁ tk₁ m' news' hg' F₁ N₁ hJ
theorem iter_upG {E:VS} {Q:FS} {x:Str} {body:List Stmt} {r:Addr} {t₀ u₀ v₀:Tok} {n:Nat} {m₀:MM} {news:Led} {G:Heap→Prop} {g:Heap} (J:Nat→MM→Led→Prop)
  (hh:A.handled = none) (hr:IsRange s.heap r 0 (n:Int) 1 t₀ u₀ v₀) (hn:n≤1000000) (F:Fr g env.locals s.heap m₀) (N:News g env.locals s.heap news) (hg:G g) (hG:∀ g',G g'→∀ b,g.get? b = none→g'.get? b = none) (hj:J 0 m₀ news)
  (turn:∀ (i:Nat) t m₁ news₁ h tk I o g,i < n→G g→J i m₁ news₁→(∀ p∈news₁,p.1≠I)→Fr g env.locals h (fun y=>if y = x then some (.int (i:Int) t) else m₁ y)→News g env.locals h ((I,o)::news₁) →
   wpAny (model prog w) A (execs body env) (TurnG G env.locals (J (i + 1)) I o { s with heap:=h,toks:=tk } Q) E { s with heap:=h,toks:=tk })
  (done:∀ m₁ news₁ h tk g,G g→J n m₁ news₁→Fr g env.locals h m₁→News g env.locals h news₁→Q .next { s with heap:=h,toks:=tk }) :
  wpAny (model prog w) A (pyIter (.ref r)) (fun it s₂=>LoopAtG prog w A G env x body Q E it s₂) E s:=by
 revert prog w A s env E Q x body r t₀ u₀ v₀ n m₀ news G g J
 refine no_implicit_lambda% (aW ?_)
 refine no_implicit_lambda% (e20 ?n fun T0=>(?_:bp T0) () _ _ _ _ _ _ _ _ _ _ _ _ _ _ _ _ _ _ _)
 case n=>fail "n"
 intro O prog w A s env E Q x body r t₀ u₀ v₀ n m₀ news G g J
 intros
 clear T0
 refine wpAny_pyIter_range hr (small_up hn) ?_
 have W:=Walks.range (prog:=prog) (w:=w) hh s.heap.objs.size 0 1 n
 refine ⟨_,n,_,_,m₀,news,J,g,rfl,W,?_,hg,fun g' hg'=>hG g' hg' _ (next_is_new F),fun i h hs=>?_,fun p hp hI=>?_,(by show IsRangeIter _ _ _ _ _;rw [size_up];simpa using Heap.get?_push_size _ rfl),F.push _,(fun p hp=>⟨Heap.get?_push_of_some _ (N p hp).1,(N p hp).2⟩),hj,?_,?_⟩
 ·exact fun hm=>absurd F.ns.lt (hm ▸ Nat.lt_irrefl _)
 ·exact ⟨_,hs⟩
 ·exact absurd (Heap.lt_size (N p hp).1) (hI ▸ Nat.lt_irrefl _)
 ·intro i v m₁ news₁ h tk o g' hi hx3 hg' hJ hne F₁ N₁
  obtain ⟨t,rfl⟩:=hx3
  exact turn i t m₁ news₁ h tk _ o g' hi hg' hJ hne (by rw [show (0:Int) + i * 1 = i from by omega] at F₁;exact F₁) N₁
 ·intro g' h' tk m' news' hg' F' N' hJ
  exact done m' news' h' tk g' hg' hJ F' N'
end
end
section
open PySem PySem.W PyProof.Rows PySem.Spec
set_option maxRecDepth 100000
set_option tactic.hygienic false
noncomputable def lastBody (l:List Stmt):List Stmt:=match l.getLast? with | some (.FunctionDef _ _ b _ _ _ _ _ _ _)=>b | _=>[]
noncomputable def lastScope (l:List Stmt):Scope:=match l.getLast? with | some (.FunctionDef _ _ _ _ _ _ sc _ _ _)=>sc | _=>default
noncomputable def lawB:List Stmt:=lastBody PySem.Challenge.pw_no0415_02.main.body
noncomputable def lawSc:Scope:=lastScope PySem.Challenge.pw_no0415_02.main.body
noncomputable def dZ (n:Nat):List Stmt:=lawB.drop n
noncomputable def lawAt (n:Nat):Stmt:=(dZ n).head!
noncomputable def forBody:Stmt→List Stmt | .For _ _ b _ _=>b | _=>[]
noncomputable def forIter:Stmt→Expr | .For _ i _ _ _=>i | _=>default
noncomputable def lawBody (n j:Nat):Stmt:=((forBody (lawAt n)).drop j).head!
end
section
open PySem PySem.W PyProof.Rows PySem.Spec
set_option maxHeartbeats 8000000
set_option maxRecDepth 100000
set_option tactic.hygienic false
inductive XK | own | fly | held
inductive FlyT (F:FnC) (b:Bx) (C:Addr) (χ:MM→Led→Prop) (s:Shared) (e:Value) (s':Shared):Prop
 | mk (ea:Addr) (vs:List Value) (t:Addr) (G h':Heap) (tk':Nat) (m':MM) (led':Led) (e1:e = .ref ea) (e2:s' = { s with heap:=h',toks:=tk' }) (c:χ m' led') (f:Fr b.g b.L G m') (r:RaisedS b.base G (envOf F.cn F.cs b.L F.a F.cd::b.outer) ea (.ref C) t vs led' h') (u:G.UpToSlots h'):FlyT F b C χ s e s'
inductive HeldT (F:FnC) (b:Bx) (C:Addr) (χ:MM→Led→Prop) (s:Shared) (e:Value) (s':Shared):Prop
 | mk (ea:Addr) (vs:List Value) (t:Addr) (G h':Heap) (tk':Nat) (m':MM) (led':Led) (e1:e = .ref ea) (e2:s' = { s with heap:=h',toks:=tk' }) (c:χ m' led') (f:Fr b.g b.L G m') (r:RaisedH b.base G (envOf F.cn F.cs b.L F.a F.cd::b.outer) b.L ea (.ref C) t vs led' h') (u:G.UpToSlots h'):HeldT F b C χ s e s'
inductive OwnT (F:FnC) (b:Bx) (C:Addr) (χ:MM→Led→Prop) (s:Shared) (e:Value) (s':Shared):Prop
 | mk (ea:Addr) (vs:List Value) (h h':Heap) (tk':Nat) (m':MM) (led':Led) (e1:e = .ref ea) (e2:s' = { s with heap:=h',toks:=tk' }) (c:χ m' led') (f:Fr b.g b.L h m') (n:News b.g b.L h led') (x:Heap.MadeExcOf h h' ea (.ref C) vs):OwnT F b C χ s e s'
noncomputable def Xz (w:World) (F:FnC) (b:Bx) (C:Addr) (χ:MM→Led→Prop) (s:Shared):XK→VS
 | .own=>OwnT F b C χ s
 | .fly=>FlyT F b C χ s
 | .held=>fun e s'=>wpAny (model PG w) (tpx F b) (noteFrame e (evx F b)) (fun O s''=>HeldT F b C χ s e s'') (fun O O=>False) s'
noncomputable def Lz {α:Type} (k:XK) (w:World) (F:FnC) (b:Bx) (t:Sem α) (C:Addr) (χ:MM→Led→Prop) (φ:α→MM→Led→Prop) (m:MM) (led:Led):Prop :=
 ∀ (s:Shared) (Q:α→Shared→Prop) (E:VS),Fr b.g b.L s.heap m→News b.g b.L s.heap led →
  (∀ a m' led' h' tk',φ a m' led'→Fr b.g b.L h' m'→News b.g b.L h' led'→Q a { s with heap:=h',toks:=tk' }) →
  (∀ e s',Xz w F b C χ s k e s'→E e s')→wpAny (model PG w) (tpx F b) t Q E s
noncomputable def bc (w:World) (D:Nat) (f:Addr) (args:List Value) (fp rest:Led) (C:Addr) (xp:Led→Prop) (post:Value→Led→Prop):Prop :=
 ∀ (F:FnC) (b:Bx) (m:MM) (s:Shared) (Q E:VS),Okx w D b→b.cl = []→F.cs.kind = .function→Fr b.g b.L s.heap m→News b.g b.L s.heap (fp++rest) →
  (∀ r fp' h' tk',Fr b.g b.L h' m→News b.g b.L h' (fp'++rest)→post r fp'→Q r { s with heap:=h',toks:=tk' }) →
  (∀ ea t vs G h' tk' fp',Fr b.g b.L G m→RaisedS b.base G (envOf F.cn F.cs b.L F.a F.cd::b.outer) ea (.ref C) t vs (fp'++rest) h'→G.UpToSlots h'→xp fp'→E (.ref ea) { s with heap:=h',toks:=tk' }) →
  wpAny (model PG w) (ktrTop b.dp b.un b.gd F.cn F.cs b.L F.a F.cd [] b.outer) (call (.ref f) args) Q E s
noncomputable def inB (F:FnC) (b:Bx) (g:Heap) (L:Addr):Bx:=⟨b.dp + 1,b.un + 3,b.gd,[],envOf F.cn F.cs b.L F.a F.cd::b.outer,ktrTop b.dp b.un b.gd F.cn F.cs b.L F.a F.cd [] b.outer,b.base,g,L,b.mg,b.mb,b.mean⟩
section
variable {w:World} {D:Nat} {f C:Addr} {args:List Value} {fp rest:Led} {xp:Led→Prop} {post:Value→Led→Prop} {name qual:Str} {params:Arguments} {body:List Stmt} {scope:Scope} {dV kV doc pm cdv ct oc:Value} {an od:Option Addr} {osl:Array (Option Value)} {binds:List (Str × Value)}
theorem bB (k:XK) (ho:(Mine.hd.heap_39 w.params).lookup f = some ⟨oc,od,.func (fnOf name qual params body scope dV kV doc pm an cdv ct),osl⟩) (hcd:codeIn (Mine.hd.heap_39 w.params) cdv qual = true)
  (hbind:∀ s,BindsTo s (fnOf name qual params body scope dV kV doc pm an cdv ct) ⟨args,[]⟩ binds) (hloc:∀ y∈binds,scope.names.lookup y.1 = some .local)
  (hco:scope.isCoroutine = false) (hgen:scope.isGenerator = false) (hk:scope.kind = .function) (hcell:∀ x∈scope.names,x.2≠.cell)
  (h:∀ b:Bx,Okx w D b→b.cl = []→∀ (φ:FP) (χ:MM→Led→Prop),(∀ fl m' fp',post (retv fl) fp'→φ fl m' (fp'++rest))→(∀ {m':MM} (fp':Led),xp fp'→χ m' (fp'++rest)) →
   Lz k w ⟨qual,scope,f,cdv⟩ b (execs body (evx ⟨qual,scope,f,cdv⟩ b)) C χ φ (fun y=>binds.reverse.lookup y) (fp++rest)):bc w (D + 1) f args fp rest C xp post:=by
 revert w D f C args fp rest xp post name qual params body scope dV kV doc pm cdv ct oc an od osl binds k
 refine no_implicit_lambda% (aW ?_)
 refine no_implicit_lambda% (aW ?_)
 refine no_implicit_lambda% (e28 ?n fun T0=>(?_:bp T0) () () _ _ _ _ _ _ _ _ _ _ _ _ _ _ _ _ _ _ _ _ _ _ _ _ _ _)
 case n=>fail "n"
 intro O O w D f C args fp rest xp post name qual params body scope dV kV doc pm cdv ct oc an od osl binds k
 intros
 clear T0
 intro G0 b m s Q E ok hcl hkk F N kn kx
 have hd:=ok.hd
 have hu:=ok.hu
 refine wpAny_call ?_
 refine code_def (env:=envX G0.cn G0.cs b.L G0.a G0.cd []) (outer:=b.outer) ok.B F ok.X N ok.T rfl rfl hkk ho hcd ?_ (hbind s) hloc (fun g L' h' FG F' N' B' X' T'=>?_) hco hgen hk hcell
 ·show b.dp < recursionLimit;omega
 ·refine h (inB G0 b g L') ⟨B',X',T',by show b.dp + 1 + D < _;omega,by show b.un + 3 + 8 * D < _;omega⟩ rfl (fun fl O led'=>∃ fp',led' = fp'++rest∧post (retv fl) fp') (fun O led'=>∃ fp',led' = fp'++rest∧xp fp') (fun fl m' fp' hp=>⟨fp',rfl,hp⟩) (fun fp' hp=>⟨fp',rfl,hp⟩) _ _ _ F' N' ?_ ?_
  ·intro fl m' led' h'' tk' hp F'' N''
   obtain ⟨fp',rfl,hp⟩:=hp
   exact leaveK_ F'' N'' fun F3 N3=>kn _ _ _ _ F3 N3 hp
  ·intro e s' hx
   cases k with
   | own =>
    obtain ⟨ea,vs,h1,h2,tk',m1,_,rfl,rfl,⟨fp',rfl,hp⟩,F1,N1,hm⟩:=hx
    exact leave_raiseS B' hm F1 N1 (fun h3 t R O U=>kx _ _ _ _ h3 _ _ FG R U hp) hk
   | fly =>
    obtain ⟨ea,vs,t,G,h2,tk',m1,_,rfl,rfl,⟨fp',rfl,hp⟩,F1,R1,U1⟩:=hx
    exact leave_onS B' F1 R1 U1 fun h3 R O U=>kx _ _ _ _ h3 _ _ FG R U hp
   | held =>
    refine wpAny_bind (wpAny_mono hx (fun O s'' hh=>?_) fun O O z=>z.elim)
    obtain ⟨ea,vs,t,G,h2,tk',m1,_,rfl,rfl,⟨fp',rfl,hp⟩,F1,⟨⟨B0,hB,hBG,hl,hheld,hnew⟩,htup⟩,U1⟩:=hh
    have F2:Fr g L' G m1:=F1
    refine wpAny_landsW hheld fun h3 hfl hs=>?_
    obtain ⟨k1,k2,⟨_,_,k3⟩,k4⟩:=hfl
    have R:RaisedS b.base g (envOf G0.cn G0.cs b.L G0.a G0.cd::b.outer) ea (.ref C) t vs (fp'++rest) h3:=⟨⟨B0,hB,fun b o q nm=>hBG b o (F1.keep b o q) (fun hm=>by
     rcases kts_mem hm with z | z
     ·rw [z] at q;have q:g.get? L' = _:=q;rw [kts_self F2] at q
      cases q
     ·exact nm z),fun q hq=>⟨(hl q hq).1,kts_none F1.keep (hl q hq).2.1,(hl q hq).2.2⟩,⟨k1,k2,k3,k4⟩,hnew⟩,htup.of_slots hs⟩
    exact kx _ _ _ _ h3 _ _ FG R ((Heap.UpToSlots.of_keeps F1.keep).trans (U1.trans hs)) hp
end
noncomputable def kz (k:XK) (w:World) (F:FnC) (b:Bx) (env:Env) (rest:List Stmt) (C:Addr) (χ:MM→Led→Prop) (φ:FP):FP
 | .next,m',led'=>Lz k w F b (execs rest env) C χ φ m' led'
 | .brk,m',led'=>φ .brk m' led'
 | .cont,m',led'=>φ .cont m' led'
 | .ret v,m',led'=>φ (.ret v) m' led'
section
variable {w:World} {D D':Nat} {F:FnC} {b:Bx} {C f:Addr} {m:MM} {led:Led} {env:Env} {pos apos cpos np:Pos} {st:Stmt} {stmts body orelse:List Stmt} {test e o:Expr} {c:Bool} {name:Str} {pl:Sem Bool} {ov fv:Value} {first args:List Value} {k:XK} {χ:MM→Led→Prop} {φ:FP} {ψ:VP}
theorem Xz.at {s:Shared} {h₁:Heap} {tk₁:Nat} {e:Value} {s':Shared} (h:Xz w F b C χ { s with heap:=h₁,toks:=tk₁ } k e s'):Xz w F b C χ s k e s':=by
 cases k with
 | own=>obtain ⟨ea,vs,h1,h2,tk,m1,led',a,b,c,d,f,n⟩:=h;exact ⟨ea,vs,h1,h2,tk,m1,led',a,b,c,d,f,n⟩
 | fly=>obtain ⟨ea,vs,t,G,h2,tk,m1,led',a,b,c,d,f,n⟩:=h;exact ⟨ea,vs,t,G,h2,tk,m1,led',a,b,c,d,f,n⟩
 | held=>exact wpAny_mono h (fun O s'' hh=>by obtain ⟨ea,vs,t,G,h2,tk,m1,led',a,b,c,d,f,n⟩:=hh;exact ⟨ea,vs,t,G,h2,tk,m1,led',a,b,c,d,f,n⟩) fun O O z=>z
theorem Lx.lz {α:Type} {t:Sem α} {φ:α→MM→Led→Prop} (h:Lx w F b t φ m led):Lz k w F b t C χ φ m led:=fun s Q E f N q O=>h s Q E f N q
theorem cL (h:Lx w F b (exec st env) (kz k w F b env stmts C χ φ) m led):Lz k w F b (execs (st::stmts) env) C χ φ m led:=fun s Q E f N q x=>wpAny_execs_cons (h s _ E f N fun fl m' led' h' tk' hp F' N'=>by
  cases fl with
  | next=>exact hp _ _ _ F' N' q fun e s' z=>x e s' (Xz.at (s:=s) z)
  | ret v=>exact q _ _ _ _ _ hp F' N'
  | brk=>exact q _ _ _ _ _ hp F' N'
  | cont=>exact q _ _ _ _ _ hp F' N')
theorem bd (h:Lz k w F b (exec st env) C χ (kz k w F b env stmts C χ φ) m led):Lz k w F b (execs (st::stmts) env) C χ φ m led:=fun s Q E f N q x=>wpAny_execs_cons (h s _ E f N (fun fl m' led' h' tk' hp F' N'=>by
  cases fl with
  | next=>exact hp _ _ _ F' N' q fun e s' z=>x e s' (Xz.at (s:=s) z)
  | ret v=>exact q _ _ _ _ _ hp F' N'
  | brk=>exact q _ _ _ _ _ hp F' N'
  | cont=>exact q _ _ _ _ _ hp F' N') x)
theorem dw (h:Lz k w F b (eval e env) C χ (fun O=>φ .next) m led) (hi:interactive env = false) (hs:swapsWith e none pos.line env = pure false):Lz k w F b (exec (.Expr e pos) env) C χ φ m led :=
 fun s Q E f N q x=>wpAny_Expr_any (h s _ E f N (fun a m' led' h' tk' hp F' N'=>q _ _ _ h' tk' hp F' N') x) hi hs
theorem dN (hc:Px w F b (isTrue test env (eval test env)) (fun a=>a = c) m led) (h1:c = true→Lz k w F b (execs body env) C χ φ m led) (h2:c = false→Lz k w F b (execs orelse env) C χ φ m led):Lz k w F b (exec (.If test body orelse pos) env) C χ φ m led:=fun s Q E f N q x =>
 wpAny_If (hc s _ E f N fun a h' tk' pa F' N'=>by
  subst pa
  cases a with
  | true=>exact h1 rfl _ _ _ F' N' q fun e s' z=>x e s' (Xz.at (s:=s) z)
  | false=>exact h2 rfl _ _ _ F' N' q fun e s' z=>x e s' (Xz.at (s:=s) z))
theorem lz_m0 (ok:Okx w D b) (h1:Px w F b (eval o env) (fun a=>a = ov) m led) (h2:Px w F b (getMethod ov name pl) (fun a=>a = (fv,first)) m led) (h4:Lz k w F b (call fv (first++[])) C χ ψ m led) (hk:keepIn (Mine.hd.heap_39 w.params) fv = true)
  (he:eval (.Call (.Attribute o name apos) [] [] pos) env = (do
   let ov ← eval o env
   standAt apos.atName
   let (f,first) ← holding [ov] (getMethod ov name pl)
   callWith pos f first (backTo pos (starEach [] env)) [])):Lz k w F b (eval (.Call (.Attribute o name apos) [] [] pos) env) C χ ψ m led :=
 fun s Q E f N q x=>MethodCall_ (h1 s _ E f N fun a h' tk' pa F' N'=>by subst pa;exact h2 _ _ E F' N' fun a h2' tk2' pa F2' N2'=>by subst pa;exact callWith_K0 (ok.X.keeps F2'.keep) hk (h4 _ _ _ F2' N2' q fun e s' z=>x e s' (Xz.at (s:=s) z))) he
theorem lz_m1 {rest:List Expr} {A:List Value→Prop} (ok:Okx w D b) (h1:Px w F b (eval o env) (fun a=>a = ov) m led) (h2:Px w F b (getMethod ov name pl) (fun a=>a = (fv,first)) m led)
  (h3:Px w F b (spliced (backTo pos (starEach (e::rest) env))) A m led) (h4:∀ vs,A vs→Lz k w F b (call fv (first++vs)) C χ ψ m led) (hk:keepIn (Mine.hd.heap_39 w.params) fv = true)
  (ha:starEach (e::rest) env = (false,eval e env)::starEach rest env) (hp:(backTo pos (starEach rest env)).any (·.1) = false)
  (he:eval (.Call (.Attribute o name apos) (e::rest) [] pos) env = (do
   let ov ← eval o env
   standAt apos.atName
   let (f,first) ← holding [ov] (getMethod ov name pl)
   callWith pos f first (backTo pos (starEach (e::rest) env)) [])):Lz k w F b (eval (.Call (.Attribute o name apos) (e::rest) [] pos) env) C χ ψ m led :=
 fun s Q E f N q x=>MethodCall_ (h1 s _ E f N fun a h' tk' pa F' N'=>by
  subst pa
  exact h2 _ _ E F' N' fun a h2' tk2' pa F2' N2'=>by
   subst pa
   exact callWith_K ok.X hk (h3 _ _ E F2' N2' fun vs h3' tk3' pa F3' N3'=>⟨ok.X.keeps F3'.keep,h4 vs pa _ _ _ F3' N3' q fun e s' z=>x e s' (Xz.at (s:=s) z)⟩) ha hp) he
theorem lz_f1 {rest:List Expr} {A:List Value→Prop} (ok:Okx w D b) (h1:Px w F b (eval o env) (fun a=>a = fv) m led)
  (h3:Px w F b (spliced (backTo pos (starEach (e::rest) env))) A m led) (h4:∀ vs,A vs→Lz k w F b (call fv ([]++vs)) C χ ψ m led) (hk:keepIn (Mine.hd.heap_39 w.params) fv = true)
  (ha:starEach (e::rest) env = (false,eval e env)::starEach rest env) (hp:(backTo pos (starEach rest env)).any (·.1) = false)
  (he:eval (.Call o (e::rest) [] pos) env = (do callWith pos (← eval o env) [] (backTo pos (starEach (e::rest) env)) (backToKw pos (keywordEach [] env)))):Lz k w F b (eval (.Call o (e::rest) [] pos) env) C χ ψ m led :=
 fun s Q E f N q x=>Call_ (h1 s _ E f N fun a h' tk' pa F' N'=>by
  subst pa
  exact callWith_K ok.X hk (h3 _ _ E F' N' fun vs h3' tk3' pa F3' N3'=>⟨ok.X.keeps F3'.keep,h4 vs pa _ _ _ F3' N3' q fun e s' z=>x e s' (Xz.at (s:=s) z)⟩) ha hp) he
theorem eO {fp rest:Led} {xp:Led→Prop} {post:Value→Led→Prop} (ok:Okx w D b) (hcl:b.cl = []) (H:bc w D' f args fp rest C xp post) (hk:F.cs.kind = .function) (hD:D'≤D) (hs:∀ p∈fp++rest,p∈led) (hx:∀ fp',xp fp'→χ m (fp'++rest)) (hp:∀ r fp',post r fp'→ψ r m (fp'++rest)):Lz .fly w F b (call (.ref f) args) C χ ψ m led:=fun s Q E f' N q x=>by
 have hd:=ok.hd
 have hu:=ok.hu
 rw [show tpx F b = ktrTop b.dp b.un b.gd F.cn F.cs b.L F.a F.cd [] b.outer by unfold tpx;rw [hcl]]
 exact H F b m s Q E ⟨ok.B,ok.X,ok.T,by omega,by omega⟩ hcl hk f' (bJ N hs) (fun r fp' h' tk' F1 N1 hr=>q _ _ _ h' tk' (hp _ _ hr) F1 N1) fun ea t vs G h' tk' fp' F1 R U hr=>x _ _ ⟨ea,vs,t,G,h',tk',m,_,rfl,rfl,hx _ hr,F1,R,U⟩
theorem fly_held {s:Shared} {e:Value} {s':Shared} (ok:Okx w D b) (hcl:b.cl = []) (hk:F.cs.kind = .function) (h:FlyT F b C χ s e s'):Xz w F b C χ s .held e s':=by
 revert w D F b C χ s e s'
 refine no_implicit_lambda% (aW ?_)
 refine no_implicit_lambda% (aW ?_)
 refine no_implicit_lambda% (aW ?_)
 refine no_implicit_lambda% (e12 ?n fun T0=>(?_:bp T0) () () () _ _ _ _ _ _ _ _ _)
 case n=>fail "n"
 intro O O O w D F b C χ s e s'
 intros
 clear T0
 obtain ⟨ea,vs,t,G,h',tk',m',led',rfl,rfl,hχ,F1,⟨⟨B,hB,hBG,hl,hfl,hnew⟩,htup⟩,U⟩:=h
 obtain ⟨dp,un,gd,cl,outer,A₀,base,g,L,mg,mb,mean⟩:=b
 obtain rfl:cl = []:=hcl
 refine wpAny_looks_onW (s:={ s with heap:=h',toks:=tk' }) (L:=L) rfl rfl hfl fun h₄ hheld₄ hsm₄=>?_
 exact ⟨ea,vs,t,G,h₄,tk',m',led',rfl,rfl,hχ,F1,⟨⟨B,hB,hBG,hl,hheld₄,hnew⟩,htup.of_slots hsm₄⟩,U.trans hsm₄⟩
theorem lz_while {test:Expr} {body:List Stmt} (ok:Okx w D b) (hcl:b.cl = []) (hk:F.cs.kind = .function) (J:Nat→MM→Led→Prop) (n₀:Nat) (hJ:J n₀ m led)
  (turn:∀ n m₁ led₁,J n m₁ led₁→∀ Φ:FP,(∀ n' m' led',n' < n→J n' m' led'→Φ .next m' led')→(∀ n' m' led',n' < n→J n' m' led'→Φ .cont m' led')→(∀ m' led',φ .next m' led'→Φ .brk m' led')→(∀ v m' led',φ (.ret v) m' led'→Φ (.ret v) m' led') →
   ∃ c,Px w F b (isTrue test env (eval test env)) (fun a=>a = c) m₁ led₁∧(c = true→Lz .fly w F b (execs body env) C χ Φ m₁ led₁)∧(c = false→φ .next m₁ led₁)) (henv:env = evx F b) :
  Lz .held w F b (exec (.While test body [] pos) env) C χ φ m led:=fun s Q E f N q x=>by
 subst henv
 refine wpAny_mono (E:=Xz w F b C χ s .held) (While_inv2 J (n₀:=n₀) (Q:=Q) f N hJ (fun n m₁ news₁ h₁ tk₁ F₁ N₁ J₁=>?_) PassesOwn.looking) (fun O O x=>x) x
 obtain ⟨c,hc,h1,h2⟩:=turn n m₁ news₁ J₁ (turnφ φ J n) (fun n' O O h j=>⟨n',h,j⟩) (fun n' O O h j=>⟨n',h,j⟩) (fun O O h=>h) fun O O O h=>h
 refine hc _ _ _ F₁ N₁ fun a h' tk' pa F' N'=>?_
 subst pa
 cases a with
 | false=>exact q _ _ _ h' tk' (h2 rfl) F' N'
 | true =>
  show wpAny _ _ (execs body _) (WhileStep2 b.g b.L s J Q n) _ _
  refine h1 rfl _ _ _ F' N' (fun fl m2 led2 h2' tk2 hp2 F2 N2=>?_) fun e s' hx=>Xz.at (k:=.held) (s:=s) (fly_held ok hcl hk hx)
  cases fl with
  | next=>obtain ⟨n',hn,hJ'⟩:=hp2;exact ⟨h2',tk2,m2,led2,n',rfl,F2,N2,hn,hJ'⟩
  | cont=>obtain ⟨n',hn,hJ'⟩:=hp2;exact ⟨h2',tk2,m2,led2,n',rfl,F2,N2,hn,hJ'⟩
  | brk=>exact q _ _ _ h2' tk2 hp2 F2 N2
  | ret v=>exact q _ _ _ h2' tk2 hp2 F2 N2
theorem lz_raise {x:Str} {B newId initId:String} {bm:List Value} {P:Value→Prop} (ok:Okx w D b) (hcl:b.cl = []) (hm:Px w F b (eval e (evx F b)) P m led) (hχ:χ m led) (e1:nsIn (Mine.hd.heap_39 w.params) mainGlobals x = some (some (.ref C))) (q1:excIn (Mine.hd.heap_39 w.params) C bm newId = true) (FB:ExcBaseFacts B newId initId bm)
  (hk:F.cs.kind = .function) (hx:(evx F b).kindOf x = some .globalImplicit) (hd:(x == ("__debug__":Str)) = false)
  (he:starEach [e] (evx F b) = (false,eval e (evx F b))::starEach [] (evx F b)) :
  Lz .own w F b (exec (.Raise (some (.Call (.Name x np) [e] [] cpos)) none pos) (evx F b)) C χ φ m led:=fun s Q E f N O q=>by
 obtain ⟨dp,un,gd,cl,outer,A₀,base,g,L,mg,mb,mean⟩:=b
 obtain rfl:cl = []:=hcl
 refine Raise_own f (topRead_of ok.T).g (own_of_in ok.X (topRead_of ok.T) e1 q1) FB rfl ?_ he rfl hk hx hd
 exact az hm he _ _ _ f N fun vs h' tk' hv F' N'=>by
  obtain ⟨v,rfl,-⟩:=hv
  exact ⟨by show 1≤sizeLine;decide,fun b o e=>F'.keep b o e,fun h2 ea hmade=>q _ _ ⟨ea,_,h',h2,tk',m,led,rfl,rfl,hχ,F',N',hmade⟩⟩
theorem px_fstr {msg:Str} {kk:Nat} {i:Int} {p1 p2 p3:Pos} {v:Expr} (hv:Px w F b (eval v env) (IsI i) m led) (hi:i.natAbs.log2 < 1920) (h1:(Str.empty++msg).length≤sizeLine) (h2:(Str.empty++msg++toString i).length≤sizeLine):Px w F b (eval (.JoinedStr [.Constant (.str msg) kk p1,.FormattedValue v (-1) none p2] p3) env) (fun O=>True) m led:=fun s Q E f N q =>
 JoinedStr_many (joinParts_cons (wpAny_Constant_str ⟨h1,joinParts_cons (FormattedValue_plain (hv _ _ E f N fun a h' tk' pa F' N'=>by
  obtain ⟨t,rfl⟩:=pa
  exact formatField_int_small hi ⟨h2,joinParts_nil (q _ h' _ trivial F' N') h2⟩))⟩))
end
end
section
open PySem PySem.W PyProof.Rows
set_option maxHeartbeats 8000000
set_option maxRecDepth 100000
set_option tactic.hygienic false
section
variable {w:World} {D:Nat} {C:aN} {u du inner:Addr} {kd:Bool} {R:List Row} {st:Option Nat} {fpi rest:Led} {q:UP} {upto going:Int} {lo hi:Option (Array UInt8)} {tg tsk tsv:Tok} {good:Bool} {sk sv:Array UInt8}
theorem dS {b:Option (Array UInt8)} {t:Tok}:handedIn (bW b t) = true:=by cases b <;> rfl
theorem dC {b:Option (Array UInt8)} {t:Tok}:∀ v,v = bW b t→IsO b v:=fun v h=>by subst h;cases b with | none=>rfl | some x=>exact ⟨t,rfl⟩
theorem bnd_isB {b:Option (Array UInt8)} {t:Tok} {x:Array UInt8} (e:b = some x):∀ v,v = bW b t→IsB x v:=fun v h=>by subst h;subst e;exact ⟨t,rfl⟩
theorem past_and {hi:Option (Array UInt8)} {u:Array UInt8}:(hi.isSome && bI hi u) = bI hi u:=by cases hi <;> rfl
theorem open_or {b:Bool} {s u:Array UInt8}:(!b || ltB s u) = bg (if b then some s else none) u:=by cases b <;> rfl
theorem ev {F:FnC} {b:Bx} {m:MM} {φ:FP} {g:Int} {xp pos pos':Pos} {value:Expr} {x:Str} {rest:Led} (ok:Okx w D b) (m1:(u,instObj 611 du)∈rest) (off:∀ p∈rest,p.1≠du) (hv:m x = some (.ref u))
  (h:Px w F b (eval value (evx F b)) (IsI g) m ((du,UD q inner upto lo hi going tg good sk tsk sv tsv)::rest)) (hq:∀ t:Tok,φ .next m ((du,UD q inner upto lo hi g t good sk tsk sv tsv)::rest)) (hk:F.cs.kind = .function) (hx:(evx F b).kindOf x = some .local) (hd:(x == ("__debug__":Str)) = false) (hs:swapsWith value (some (.Attribute (.Name x xp) "going" pos')) pos.line (evx F b) = pure false) :
  Lx w F b (exec (.Assign [.Attribute (.Name x xp) "going" pos'] value pos) (evx F b)) φ m ((du,UD q inner upto lo hi going tg good sk tsk sv tsv)::rest) :=
 dQ (C:=611) (dx:=du) (r:=u) (es':=fun v=>[⟨q.h1,.str "inner" q.t1,.ref inner⟩,⟨q.h2,.str "seq" q.t2,.int upto q.tu⟩,⟨q.h3,.str "low" q.t3,bW lo q.tl⟩,⟨q.h4,.str "high" q.t4,bW hi q.th⟩,⟨q.h5,.str "going" q.t5,v⟩,⟨q.h6,.str "good" q.t6,.bool good⟩,⟨q.h7,.str "saved_key" q.t7,.bytes sk tsk⟩,⟨q.h8,.str "saved_value" q.t8,.bytes sv tsv⟩]) (n':=8) (led':=fun v=>(du,dictOf [⟨q.h1,.str "inner" q.t1,.ref inner⟩,⟨q.h2,.str "seq" q.t2,.int upto q.tu⟩,⟨q.h3,.str "low" q.t3,bW lo q.tl⟩,⟨q.h4,.str "high" q.t4,bW hi q.th⟩,⟨q.h5,.str "going" q.t5,v⟩,⟨q.h6,.str "good" q.t6,.bool good⟩,⟨q.h7,.str "saved_key" q.t7,.bytes sk tsk⟩,⟨q.h8,.str "saved_value" q.t8,.bytes sv tsv⟩] 8)::rest) ok h (di hv hk hx hd) (.tail _ m1) (.head _) nofun nofun nofun nofun
  rfl (fun O O=>rfl) (fun O=>.head off) (fun O=>by show 8≤1000;decide) hs (fun v hv=>by obtain ⟨t,rfl⟩:=hv;exact hq t)
theorem dP {F:FnC} {b:Bx} {m:MM} {φ:FP} {g:Bool} {xp pos pos':Pos} {value:Expr} {x:Str} {rest:Led} (ok:Okx w D b) (m1:(u,instObj 611 du)∈rest) (off:∀ p∈rest,p.1≠du) (hv:m x = some (.ref u))
  (h:Px w F b (eval value (evx F b)) (fun v=>v = .bool g) m ((du,UD q inner upto lo hi going tg good sk tsk sv tsv)::rest)) (hq:φ .next m ((du,UD q inner upto lo hi going tg g sk tsk sv tsv)::rest)) (hk:F.cs.kind = .function) (hx:(evx F b).kindOf x = some .local) (hd:(x == ("__debug__":Str)) = false) (hs:swapsWith value (some (.Attribute (.Name x xp) "good" pos')) pos.line (evx F b) = pure false) :
  Lx w F b (exec (.Assign [.Attribute (.Name x xp) "good" pos'] value pos) (evx F b)) φ m ((du,UD q inner upto lo hi going tg good sk tsk sv tsv)::rest) :=
 dQ (C:=611) (dx:=du) (r:=u) (es':=fun v=>[⟨q.h1,.str "inner" q.t1,.ref inner⟩,⟨q.h2,.str "seq" q.t2,.int upto q.tu⟩,⟨q.h3,.str "low" q.t3,bW lo q.tl⟩,⟨q.h4,.str "high" q.t4,bW hi q.th⟩,⟨q.h5,.str "going" q.t5,.int going tg⟩,⟨q.h6,.str "good" q.t6,v⟩,⟨q.h7,.str "saved_key" q.t7,.bytes sk tsk⟩,⟨q.h8,.str "saved_value" q.t8,.bytes sv tsv⟩]) (n':=8) (led':=fun v=>(du,dictOf [⟨q.h1,.str "inner" q.t1,.ref inner⟩,⟨q.h2,.str "seq" q.t2,.int upto q.tu⟩,⟨q.h3,.str "low" q.t3,bW lo q.tl⟩,⟨q.h4,.str "high" q.t4,bW hi q.th⟩,⟨q.h5,.str "going" q.t5,.int going tg⟩,⟨q.h6,.str "good" q.t6,v⟩,⟨q.h7,.str "saved_key" q.t7,.bytes sk tsk⟩,⟨q.h8,.str "saved_value" q.t8,.bytes sv tsv⟩] 8)::rest) ok h (di hv hk hx hd) (.tail _ m1) (.head _) nofun nofun nofun nofun
  rfl (fun O O=>rfl) (fun O=>.head off) (fun O=>by show 8≤1000;decide) hs (fun v hv=>by subst hv;exact hq)
theorem lx_skeyP {F:FnC} {b:Bx} {m:MM} {φ:FP} {g:Array UInt8} {xp pos pos':Pos} {value:Expr} {x:Str} {rest:Led} (ok:Okx w D b) (m1:(u,instObj 611 du)∈rest) (off:∀ p∈rest,p.1≠du) (hv:m x = some (.ref u))
  (h:Px w F b (eval value (evx F b)) (IsB g) m ((du,UD q inner upto lo hi going tg good sk tsk sv tsv)::rest)) (hq:∀ t:Tok,φ .next m ((du,UD q inner upto lo hi going tg good g t sv tsv)::rest)) (hk:F.cs.kind = .function) (hx:(evx F b).kindOf x = some .local) (hd:(x == ("__debug__":Str)) = false) (hs:swapsWith value (some (.Attribute (.Name x xp) "saved_key" pos')) pos.line (evx F b) = pure false) :
  Lx w F b (exec (.Assign [.Attribute (.Name x xp) "saved_key" pos'] value pos) (evx F b)) φ m ((du,UD q inner upto lo hi going tg good sk tsk sv tsv)::rest) :=
 dQ (C:=611) (dx:=du) (r:=u) (es':=fun v=>[⟨q.h1,.str "inner" q.t1,.ref inner⟩,⟨q.h2,.str "seq" q.t2,.int upto q.tu⟩,⟨q.h3,.str "low" q.t3,bW lo q.tl⟩,⟨q.h4,.str "high" q.t4,bW hi q.th⟩,⟨q.h5,.str "going" q.t5,.int going tg⟩,⟨q.h6,.str "good" q.t6,.bool good⟩,⟨q.h7,.str "saved_key" q.t7,v⟩,⟨q.h8,.str "saved_value" q.t8,.bytes sv tsv⟩]) (n':=8) (led':=fun v=>(du,dictOf [⟨q.h1,.str "inner" q.t1,.ref inner⟩,⟨q.h2,.str "seq" q.t2,.int upto q.tu⟩,⟨q.h3,.str "low" q.t3,bW lo q.tl⟩,⟨q.h4,.str "high" q.t4,bW hi q.th⟩,⟨q.h5,.str "going" q.t5,.int going tg⟩,⟨q.h6,.str "good" q.t6,.bool good⟩,⟨q.h7,.str "saved_key" q.t7,v⟩,⟨q.h8,.str "saved_value" q.t8,.bytes sv tsv⟩] 8)::rest) ok h (di hv hk hx hd) (.tail _ m1) (.head _) nofun nofun nofun nofun
  rfl (fun O O=>rfl) (fun O=>.head off) (fun O=>by show 8≤1000;decide) hs (fun v hv=>by obtain ⟨t,rfl⟩:=hv;exact hq t)
theorem lx_svalP {F:FnC} {b:Bx} {m:MM} {φ:FP} {g:Array UInt8} {xp pos pos':Pos} {value:Expr} {x:Str} {rest:Led} (ok:Okx w D b) (m1:(u,instObj 611 du)∈rest) (off:∀ p∈rest,p.1≠du) (hv:m x = some (.ref u))
  (h:Px w F b (eval value (evx F b)) (IsB g) m ((du,UD q inner upto lo hi going tg good sk tsk sv tsv)::rest)) (hq:∀ t:Tok,φ .next m ((du,UD q inner upto lo hi going tg good sk tsk g t)::rest)) (hk:F.cs.kind = .function) (hx:(evx F b).kindOf x = some .local) (hd:(x == ("__debug__":Str)) = false) (hs:swapsWith value (some (.Attribute (.Name x xp) "saved_value" pos')) pos.line (evx F b) = pure false) :
  Lx w F b (exec (.Assign [.Attribute (.Name x xp) "saved_value" pos'] value pos) (evx F b)) φ m ((du,UD q inner upto lo hi going tg good sk tsk sv tsv)::rest) :=
 dQ (C:=611) (dx:=du) (r:=u) (es':=fun v=>[⟨q.h1,.str "inner" q.t1,.ref inner⟩,⟨q.h2,.str "seq" q.t2,.int upto q.tu⟩,⟨q.h3,.str "low" q.t3,bW lo q.tl⟩,⟨q.h4,.str "high" q.t4,bW hi q.th⟩,⟨q.h5,.str "going" q.t5,.int going tg⟩,⟨q.h6,.str "good" q.t6,.bool good⟩,⟨q.h7,.str "saved_key" q.t7,.bytes sk tsk⟩,⟨q.h8,.str "saved_value" q.t8,v⟩]) (n':=8) (led':=fun v=>(du,dictOf [⟨q.h1,.str "inner" q.t1,.ref inner⟩,⟨q.h2,.str "seq" q.t2,.int upto q.tu⟩,⟨q.h3,.str "low" q.t3,bW lo q.tl⟩,⟨q.h4,.str "high" q.t4,bW hi q.th⟩,⟨q.h5,.str "going" q.t5,.int going tg⟩,⟨q.h6,.str "good" q.t6,.bool good⟩,⟨q.h7,.str "saved_key" q.t7,.bytes sk tsk⟩,⟨q.h8,.str "saved_value" q.t8,v⟩] 8)::rest) ok h (di hv hk hx hd) (.tail _ m1) (.head _) nofun nofun nofun nofun
  rfl (fun O O=>rfl) (fun O=>.head off) (fun O=>by show 8≤1000;decide) hs (fun v hv=>by obtain ⟨t,rfl⟩:=hv;exact hq t)
inductive SpP (e:IK) (rest:Led):Value→Led→Prop
 | mk (a:Addr) (tu t1 t2:Tok) (ha:∀ p∈rest,p.1 < a):SpP e rest (.ref a) [(a,({ cls:=.type "tuple",data:=.seq (List.toArray [.bytes e.u tu,.int (e.tag / 256) t1,.int (e.tag % 256) t2]) }:Obj))]
inductive FgP (q:UP) (du inner:Addr) (upto:Int) (lo hi:Option (Array UInt8)) (going:Int) (tg:Tok):Value→Led→Prop
 | mk (ta tb:Tok):FgP q du inner upto lo hi going tg .none [(du,UD q inner upto lo hi going tg false #[] ta #[] tb)]
theorem forget_p (m1:(u,instObj 611 du)∈rest) (off:∀ p∈rest,p.1≠du):am w (D + 1) 545 [.ref u] [(du,UD q inner upto lo hi going tg good sk tsk sv tsv)] rest (FgP q du inner upto lo hi going tg):=by
 refine' ai (binds:=[("self",.ref u)]) ?ho ?hcd ?hb ?hl ?c1 ?c2 ?c3 ?c4 ?_
 fail "e"
 intro bb ok φ kφ
 refine aj (dP ok m1 off rfl bX ?_ rfl rfl rfl rfl)
 refine aj (lx_skeyP ok m1 off rfl px_bytes (fun t2=>?_) rfl rfl rfl rfl)
 refine aj (lx_svalP ok m1 off rfl px_bytes (fun t3=>?_) rfl rfl rfl rfl)
 exact ae (kφ .next _ [_] (.mk t2 t3))
section
variable {F:FnC} {b:Bx} {m:MM} {φ:FP} {pl:Sem Bool} {xp ap ap2 pos:Pos} {stmts:List Stmt} {fp T:Led} {i:Nat} {y:Row} {od:Obj} {es:List DictEntry} {n:Nat}
theorem sx_forget (ok:Okx w D b) (m1:(u,instObj 611 du)∈T) (off:∀ p∈T,p.1≠du) (e1:m "self" = some (.ref u)) (hq:∀ ta tb,Lx w F b (execs stmts (evx F b)) φ m ((du,UD q inner upto lo hi going tg false #[] ta #[] tb)::T)) (hk:F.cs.kind = .function) (hx:(evx F b).kindOf "self" = some .local) (hD:1≤D) (hia:interactive (evx F b) = false)
  (hs:swapsWith (.Call (.Attribute (.Name "self" xp) "forget" ap) [] [] pos) none pos.line (evx F b) = pure false) (he:eval (.Call (.Attribute (.Name "self" xp) "forget" ap) [] [] pos) (evx F b) = (do
   let ov ← eval (.Name "self" xp) (evx F b)
   standAt ap.atName
   let (f,first) ← holding [ov] (getMethod ov "forget" pl)
   callWith pos f first (backTo pos (starEach [] (evx F b))) [])):Lx w F b (execs (.Expr (.Call (.Attribute (.Name "self" xp) "forget" ap) [] [] pos) pos::stmts) (evx F b)) φ m ((du,UD q inner upto lo hi going tg good sk tsk sv tsv)::T):=by
 refine aO (lm0 ok (af e1 hk hx rfl) (aw ok (.tail _ m1) (.head _) rfl nofun nofun nofun) (aX ok hk hD (forget_p (D:=0) m1 off) (fun O h=>h) fun r fp' hp=>?_) nofun he) hia hs
 obtain ⟨ta,tb⟩:=hp
 exact hq ta tb
theorem dD {st:Option Nat} {D':Nat} (ok:Okx w D' b) (S:al w D C) (hC:C fp rest inner kd R st) (e1:m "self" = some (.ref u)) (m1:(u,instObj 611 du)∈T) (hT:∀ p∈fp++rest,p∈T) (hk:F.cs.kind = .function) (hx:(evx F b).kindOf "self" = some .local)
  (hD:D≤D')
  (he:eval (.Call (.Attribute (.Attribute (.Name "self" xp) "inner" ap) "valid" ap2) [] [] pos) (evx F b) = (do
   let ov ← eval (.Attribute (.Name "self" xp) "inner" ap) (evx F b)
   standAt ap2.atName
   let (f,first) ← holding [ov] (getMethod ov "valid" pl)
   callWith pos f first (backTo pos (starEach [] (evx F b))) [])) :
  Px w F b (eval (.Call (.Attribute (.Attribute (.Name "self" xp) "inner" ap) "valid" ap2) [] [] pos) (evx F b)) (fun a=>a = .bool st.isSome) m ((du,UD q inner upto lo hi going tg good sk tsk sv tsv)::T) :=
 pm0 ok (ag ok e1 (.tail _ m1) (.head _) rfl rfl nofun nofun nofun nofun hk hx rfl rfl) (bD ok S hC (fun p hp=>.tail _ (hT p hp)) .valid) (ar ok (S.valid hC fun p hp=>.tail _ (hT p (aR hp))) (fun r fp' h=>h.1) (fun p hp=>.tail _ (hT p (aL hp))) hk hD) (aP _ _ _) he
theorem px_ikey {D':Nat} (ok:Okx w D' b) (S:al w D C) (hC:C fp rest inner kd R (some i)) (hy:R[i]? = some y) (e1:m "self" = some (.ref u)) (m1:(u,instObj 611 du)∈T) (hT:∀ p∈fp++rest,p∈T) (hk:F.cs.kind = .function) (hx:(evx F b).kindOf "self" = some .local)
  (hD:D≤D')
  (he:eval (.Call (.Attribute (.Attribute (.Name "self" xp) "inner" ap) "key" ap2) [] [] pos) (evx F b) = (do
   let ov ← eval (.Attribute (.Name "self" xp) "inner" ap) (evx F b)
   standAt ap2.atName
   let (f,first) ← holding [ov] (getMethod ov "key" pl)
   callWith pos f first (backTo pos (starEach [] (evx F b))) [])) :
  Px w F b (eval (.Call (.Attribute (.Attribute (.Name "self" xp) "inner" ap) "key" ap2) [] [] pos) (evx F b)) (IsB (ikb y.1)) m ((du,UD q inner upto lo hi going tg good sk tsk sv tsv)::T) :=
 pm0 ok (ag ok e1 (.tail _ m1) (.head _) rfl rfl nofun nofun nofun nofun hk hx rfl rfl) (bD ok S hC (fun p hp=>.tail _ (hT p hp)) .key) (ar ok (S.key hC hy fun p hp=>.tail _ (hT p (aR hp))) (fun r fp' h=>h.1) (fun p hp=>.tail _ (hT p (aL hp))) hk hD) (aP _ _ _) he
theorem px_ivalue {D':Nat} (ok:Okx w D' b) (S:al w D C) (hC:C fp rest inner kd R (some i)) (hy:R[i]? = some y) (e1:m "self" = some (.ref u)) (m1:(u,instObj 611 du)∈T) (hT:∀ p∈fp++rest,p∈T) (hk:F.cs.kind = .function) (hx:(evx F b).kindOf "self" = some .local)
  (hD:D≤D')
  (he:eval (.Call (.Attribute (.Attribute (.Name "self" xp) "inner" ap) "value" ap2) [] [] pos) (evx F b) = (do
   let ov ← eval (.Attribute (.Name "self" xp) "inner" ap) (evx F b)
   standAt ap2.atName
   let (f,first) ← holding [ov] (getMethod ov "value" pl)
   callWith pos f first (backTo pos (starEach [] (evx F b))) [])) :
  Px w F b (eval (.Call (.Attribute (.Attribute (.Name "self" xp) "inner" ap) "value" ap2) [] [] pos) (evx F b)) (IsB y.2) m ((du,UD q inner upto lo hi going tg good sk tsk sv tsv)::T) :=
 pm0 ok (ag ok e1 (.tail _ m1) (.head _) rfl rfl nofun nofun nofun nofun hk hx rfl rfl) (bD ok S hC (fun p hp=>.tail _ (hT p hp)) .value) (ar ok (S.value hC hy fun p hp=>.tail _ (hT p (aR hp))) (fun r fp' h=>h.1) (fun p hp=>.tail _ (hT p (aL hp))) hk hD) (aP _ _ _) he
end
end
section
variable {w:World} {D D':Nat} {F:FnC} {b:Bx} {C:Addr} {m:MM} {led:Led} {env:Env} {pos:Pos} {k:XK} {χ:MM→Led→Prop} {φ:FP} {x y z:Str} {P:Value→Prop} {c:Bool}
theorem lz_name {value:Expr} {pos':Pos} {rest:List Stmt} (h:Px w F b (eval value (evx F b)) P m led) (hq:∀ v,P v→Lz k w F b (execs rest (evx F b)) C χ φ (ms m x v) led) (hk:F.cs.kind = .function) (hx:(evx F b).kindOf x = some .local)
  (hs:swapsWith value (some (.Name x pos')) pos.line (evx F b) = pure false):Lz k w F b (execs (.Assign [.Name x pos'] value pos::rest) (evx F b)) C χ φ m led :=
 cL (aM (h.lx hq) hk hx hs)
theorem lz_if1 {test:Expr} {body rest:List Stmt} (h:Px w F b (isTrue test env (eval test env)) (fun a=>a = c) m led) (h1:c = true→Lz k w F b (execs body env) C χ (kz k w F b env rest C χ φ) m led) (h2:c = false→Lz k w F b (execs rest env) C χ φ m led) :
  Lz k w F b (execs (.If test body [] pos::rest) env) C χ φ m led:=bd (dN h h1 fun e=>(ae (φ:=kz k w F b env rest C χ φ) (h2 e)).lz)
theorem lz_ifj {test:Expr} {body orelse rest:List Stmt} (ψ:FP) (h:Px w F b (isTrue test env (eval test env)) (fun a=>a = c) m led)
  (h1:c = true→∀ ψ0:FP,(∀ f m' led',ψ f m' led'→ψ0 f m' led')→Lx w F b (execs body env) ψ0 m led) (h2:c = false→∀ ψ0:FP,(∀ f m' led',ψ f m' led'→ψ0 f m' led')→Lx w F b (execs orelse env) ψ0 m led)
  (hn:∀ m' led',ψ .next m' led'→Lz k w F b (execs rest env) C χ φ m' led') (ho:∀ f m' led',f≠.next→¬ ψ f m' led'):Lz k w F b (execs (.If test body orelse pos::rest) env) C χ φ m led :=
 cL (fun s Q E f N q=>wpAny_If (h s _ E f N fun a h' tk' pa F' N'=>by
  subst pa
  have q2:∀ fl m' led' h' tk',ψ fl m' led'→Fr b.g b.L h' m'→News b.g b.L h' led'→Q fl { s with heap:=h',toks:=tk' }:=fun fl m' led' h' tk' p F' N'=>by
   cases fl with
   | next=>exact q _ _ _ _ _ (hn _ _ p) F' N'
   | ret v=>exact absurd p (ho _ _ _ (by simp))
   | brk=>exact absurd p (ho _ _ _ (by simp))
   | cont=>exact absurd p (ho _ _ _ (by simp))
  cases a with
  | true=>exact h1 rfl ψ (fun O O O h=>h) _ _ _ F' N' q2
  | false=>exact h2 rfl ψ (fun O O O h=>h) _ _ _ F' N' q2))
theorem lz_tup3 {kk} {value:Expr} {px py pz tpos:Pos} (h:Lz k w F b (eval value (evx F b)) C χ (fun v m' led'=>∃ t v1 v2 v3 n,v = .ref t∧(t,({ cls:=.type "tuple",data:=.seq (List.toArray [v1,v2,v3]) n }:Obj))∈led'∧φ .next (ms (ms (ms m' x v1) y v2) z v3) led') m led)
  (hk:F.cs.kind = .function) (hx:(evx F b).kindOf x = some .local) (hy:(evx F b).kindOf y = some .local) (hz:(evx F b).kindOf z = some .local)
  (hs:swapsWithSole [.Tuple [.Name x px,.Name y py,.Name z pz] kk tpos] value pos.line (evx F b) = pure false) (hw:swappedStores [.Tuple [.Name x px,.Name y py,.Name z pz] kk tpos] value (evx F b) = pure none) :
  Lz k w F b (exec (.Assign [.Tuple [.Name x px,.Name y py,.Name z pz] kk tpos] value pos) (evx F b)) C χ φ m led:=fun s Q E f N q x =>
 Assign_Tuple (h s _ E f N (fun v m' led' h' tk' hp F' N'=>by
  obtain ⟨t,v1,v2,v3,n,rfl,ht,hp⟩:=hp
  refine unpackN_ F' N' (News.isTup N' ht) rfl rfl rfl fun h2 F2 N2=>?_
  refine assignInOrder_cons (assign_Name (storeX_L F2 N2 (fun h3 F3 N3=>?_) hk hx))
  refine assignInOrder_cons (assign_Name (storeX_L F3 N3 (fun h4 F4 N4=>?_) hk hy))
  refine assignInOrder_cons (assign_Name (storeX_L F4 N4 (fun h5 F5 N5=>?_) hk hz))
  exact assignInOrder_nil (q _ _ _ _ _ hp F5 N5)) x) hs hw
end
section
variable {w:World} {D:Nat} {C:aN} {u du inner:Addr} {kd:Bool} {R:List Row} {st:Option Nat} {fpi rest:Led} {q:UP} {upto going:Int} {lo hi:Option (Array UInt8)} {tg tsk tsv:Tok} {good:Bool} {sk sv:Array UInt8}
theorem split_z {e:IK} {t0:Tok} (he:e.Ok) (hk2:e.tag % 256≤2):bc w (3 + 1) 143 [.bytes (ikb e) t0] [] rest 56 (fun fp'=>1 < e.tag % 256∧fp' = []) (fun r fp'=>¬ 1 < e.tag % 256∧SpP e rest r fp'):=by
 revert w rest e t0
 refine no_implicit_lambda% (e4 ?n fun T0=>(?_:bp T0) _ _ _ _)
 case n=>fail "n"
 intro w rest e t0
 intros
 clear T0
 have h0:=tag_pos e
 refine' bB .own (binds:=[("ik",.bytes (ikb e) t0)]) ?ho ?hcd ?hb ?hl ?c1 ?c2 ?c3 ?c4 ?_
 fail "e"
 intro bb ok hcl φ χ kφ xφ
 refine lz_name (P:=IsB e.u) (pf1 ok (ao ok nofun rfl rfl rfl) (az decl_name% rfl) (ar1 ?_) nofun rfl rfl rfl) (fun v hv=>?_) rfl rfl rfl
 ·exact ar ok (en he) (fun r fp' h=>h) (fun O h=>nomatch h) rfl (by omega)
 refine lz_name (P:=IsI e.tag) (pf1 ok (ao ok nofun rfl rfl rfl) (az decl_name% rfl) (ar1 ?_) nofun rfl rfl rfl) (fun v2 hv2=>?_) rfl rfl rfl
 ·exact ar ok (tag_of_p he) (fun r fp' h=>h) (fun O h=>nomatch h) rfl (by omega)
 obtain ⟨tu,rfl⟩:=hv
 obtain ⟨tt,rfl⟩:=hv2
 refine lz_name (aG (Px.mono decl_name% isI) ab (op_and255 h0)) (fun v3 hv3=>?_) rfl rfl rfl
 obtain ⟨tk,rfl⟩:=hv3
 refine lz_if1 (cS (i:=e.tag % 256) (Px.mono decl_name% isI) (au ok nofun rfl rfl rfl) rfl) (fun h=>?_) fun h=>?_
 ·have h2:e.tag % 256 = 2:=by have:=of_decide_eq_true h;omega
  exact bd (lz_raise ok hcl (px_fstr (Px.mono decl_name% isI) (by rw [h2];decide) (by decide) (by rw [h2];decide)) (xφ [] ⟨by omega,rfl⟩) nofun nofun PySem.F.excBase_Exception rfl rfl rfl rfl)
 refine Lx.lz (aj (dB (fun s Q E f N q=>Tuple_ (bY decl_name% (aG (Px.mono decl_name% isI) ab op_shr8) decl_name% rfl rfl rfl s _ E f N fun vs h' tk' pa F' N'=>?_))))
 obtain ⟨_,_,_,rfl,rfl,⟨t1,rfl⟩,rfl⟩:=pa
 exact kup_newTuple F' N' (fun a h2' F2' N2' hlt=>q _ _ _ h2' _ (kφ (.ret (.ref a)) _ [_] ⟨of_decide_eq_false h,.mk a tu t1 tk hlt⟩) F2' N2') (by show 3≤sizeLine;decide)
end
noncomputable def fw (hi:Option (Array UInt8)) (upto:Int):List Row→Nat→Option (Array UInt8)→Option (Option Nat)
 | [],_,_=>some none
 | x::l,i,skip =>
  if 1 < x.1.tag % 256 then none
  else if bI hi x.1.u then some none
  else if x.1.tag / 256≤upto then
   if x.1.tag % 256 = 0 then fw hi upto l (i + 1) (if bg skip x.1.u then some x.1.u else skip)
   else if bg skip x.1.u then some (some i) else fw hi upto l (i + 1) skip
  else fw hi upto l (i + 1) skip
section
variable {hi lo:Option (Array UInt8)} {upto:Int} {x:Row} {l:List Row} {i:Nat} {skip:Option (Array UInt8)}
theorem fw_bad (h0:1 < x.1.tag % 256):fw hi upto (x::l) i skip = none:=by rw [fw,if_pos h0]
theorem fw_past (h0:¬ 1 < x.1.tag % 256) (h1:bI hi x.1.u = true):fw hi upto (x::l) i skip = some none:=by rw [fw,if_neg h0,if_pos h1]
theorem fw_inv (h0:¬ 1 < x.1.tag % 256) (h1:bI hi x.1.u = false) (h2:¬ x.1.tag / 256≤upto):fw hi upto (x::l) i skip = fw hi upto l (i + 1) skip:=by
 rw [fw,if_neg h0,if_neg (by rw [h1];decide),if_neg h2]
theorem fw_delO (h0:¬ 1 < x.1.tag % 256) (h1:bI hi x.1.u = false) (h2:x.1.tag / 256≤upto) (h3:x.1.tag % 256 = 0) (h4:bg skip x.1.u = true):fw hi upto (x::l) i skip = fw hi upto l (i + 1) (some x.1.u):=by
 rw [fw,if_neg h0,if_neg (by rw [h1];decide),if_pos h2,if_pos h3,if_pos h4]
theorem fw_delS (h0:¬ 1 < x.1.tag % 256) (h1:bI hi x.1.u = false) (h2:x.1.tag / 256≤upto) (h3:x.1.tag % 256 = 0) (h4:bg skip x.1.u = false):fw hi upto (x::l) i skip = fw hi upto l (i + 1) skip:=by
 rw [fw,if_neg h0,if_neg (by rw [h1];decide),if_pos h2,if_pos h3,if_neg (by rw [h4];decide)]
theorem fw_putO (h0:¬ 1 < x.1.tag % 256) (h1:bI hi x.1.u = false) (h2:x.1.tag / 256≤upto) (h3:x.1.tag % 256≠0) (h4:bg skip x.1.u = true):fw hi upto (x::l) i skip = some (some i):=by
 rw [fw,if_neg h0,if_neg (by rw [h1];decide),if_pos h2,if_neg h3,if_pos h4]
theorem fw_putS (h0:¬ 1 < x.1.tag % 256) (h1:bI hi x.1.u = false) (h2:x.1.tag / 256≤upto) (h3:x.1.tag % 256≠0) (h4:bg skip x.1.u = false):fw hi upto (x::l) i skip = fw hi upto l (i + 1) skip:=by
 rw [fw,if_neg h0,if_neg (by rw [h1];decide),if_pos h2,if_neg h3,if_neg (by rw [h4];decide)]
end
inductive OffP (C:aN) (q:UP) (du inner:Addr) (kd:Bool) (upto:Int) (lo hi:Option (Array UInt8)) (R:List Row) (fp rest:Led):Led→Prop
 | mk (going:Int) (tg:Tok) (sk sv:Array UInt8) (tk tv:Tok) (fp₁:Led) (st:Option Nat) (ha:ak fp₁ fp) (hC:C fp₁ rest inner kd R st):OffP C q du inner kd upto lo hi R fp rest ((du,UD q inner upto lo hi going tg false sk tk sv tv)::fp₁)
noncomputable def XoP (C:aN) (q:UP) (du inner:Addr) (kd:Bool) (upto:Int) (lo hi:Option (Array UInt8)) (R:List Row) (fp rest:Led) {α:Type} (r0:Option α) (fp':Led):Prop:=r0 = none∧OffP C q du inner kd upto lo hi R fp rest fp'
noncomputable def GvP {α:Type} (r0:Option α) (post:α→Value→Led→Prop) (v:Value) (fp':Led):Prop:=∃ a,r0 = some a∧post a v fp'
section
variable {w:World} {D:Nat} {C:aN} {u du inner:Addr} {kd:Bool} {R:List Row} {st:Option Nat} {fpi rest:Led} {q:UP} {upto going:Int} {lo hi:Option (Array UInt8)} {tg tsk tsv:Tok} {good:Bool} {sk sv:Array UInt8}
inductive FfJ (C:aN) (q:UP) (u du inner:Addr) (kd:Bool) (upto:Int) (lo hi:Option (Array UInt8)) (going:Int) (tg:Tok) (good:Bool) (sv:Array UInt8) (tsv:Tok) (R:List Row) (fp rest:Led) (r0:Option (Option Nat)):Nat→MM→Led→Prop
 | mk {n m} (i:Nat) (b':Bool) (sk':Array UInt8) (tk':Tok) (fp₁:Led) (e1:m "self" = some (.ref u)) (e2:m "skipping" = some (.bool b')) (ha:ak fp₁ fp) (hC:C fp₁ rest inner kd R (bi R i)) (hr:fw hi upto (R.drop i) i (if b' then some sk' else none) = r0) (hn:i + n = R.length) :
  FfJ C q u du inner kd upto lo hi going tg good sv tsv R fp rest r0 n m ((du,UD q inner upto lo hi going tg good sk' tk' sv tsv)::(fp₁++rest))
inductive FfX (C:aN) (q:UP) (u du inner:Addr) (kd:Bool) (upto:Int) (lo hi:Option (Array UInt8)) (going:Int) (tg:Tok) (good:Bool) (sv:Array UInt8) (tsv:Tok) (R:List Row) (fp rest:Led) (r0:Option (Option Nat)):MM→Led→Prop
 | mk {m} (st:Option Nat) (sk':Array UInt8) (tk':Tok) (fp₁:Led) (e1:m "self" = some (.ref u)) (hr:some none = r0) (ha:ak fp₁ fp) (hC:C fp₁ rest inner kd R st) :
  FfX C q u du inner kd upto lo hi going tg good sv tsv R fp rest r0 m ((du,UD q inner upto lo hi going tg good sk' tk' sv tsv)::(fp₁++rest))
inductive FfT (q:UP) (u du inner:Addr) (upto:Int) (lo hi:Option (Array UInt8)) (going:Int) (tg:Tok) (good:Bool) (sv:Array UInt8) (tsv:Tok) (R:List Row) (T:Led) (i:Nat) (r0:Option (Option Nat)):Flow→MM→Led→Prop
 | next {m} (b2:Bool) (sk2:Array UInt8) (tk2:Tok) (n1:m "self" = some (.ref u)) (n2:m "skipping" = some (.bool b2)) (hr:fw hi upto (R.drop (i + 1)) (i + 1) (if b2 then some sk2 else none) = r0):FfT q u du inner upto lo hi going tg good sv tsv R T i r0 .next m ((du,UD q inner upto lo hi going tg good sk2 tk2 sv tsv)::T)
 | ret {m} (ta tb:Tok) (hr:some (some i) = r0):FfT q u du inner upto lo hi going tg good sv tsv R T i r0 (.ret .none) m ((du,UD q inner upto lo hi going tg true #[] ta #[] tb)::T)
inductive FfP (C:aN) (q:UP) (du inner:Addr) (kd:Bool) (upto:Int) (lo hi:Option (Array UInt8)) (going:Int) (tg:Tok) (R:List Row) (fp rest:Led) (r0:Option Nat):Value→Led→Prop
 | mk (fp₁:Led) (st:Option Nat) (ta tb:Tok) (ha:ak fp₁ fp) (hC:C fp₁ rest inner kd R st) (hs:∀ j,r0 = some j→st = some j):FfP C q du inner kd upto lo hi going tg R fp rest r0 .none ((du,UD q inner upto lo hi going tg r0.isSome #[] ta #[] tb)::fp₁)
theorem lzs_while {w:World} {D:Nat} {F:FnC} {b:Bx} {C:Addr} {m:MM} {led:Led} {pos:Pos} {χ:MM→Led→Prop} {φ:FP} {test:Expr} {body rest:List Stmt} (ok:Okx w D b) (hcl:b.cl = []) (hk:F.cs.kind = .function) (J:Nat→MM→Led→Prop) (X:MM→Led→Prop) (n₀:Nat) (hJ:J n₀ m led)
  (turn:∀ n m₁ led₁,J n m₁ led₁→∀ Φ:FP,(∀ n' m' led',n' < n→J n' m' led'→Φ .next m' led')→(∀ n' m' led',n' < n→J n' m' led'→Φ .cont m' led')→(∀ m' led',X m' led'→Φ .brk m' led')→(∀ v m' led',φ (.ret v) m' led'→Φ (.ret v) m' led') →
   ∃ c,Px w F b (isTrue test (evx F b) (eval test (evx F b))) (fun a=>a = c) m₁ led₁∧(c = true→Lz .fly w F b (execs body (evx F b)) C χ Φ m₁ led₁)∧(c = false→X m₁ led₁))
  (hX:∀ m' led',X m' led'→Lz .held w F b (execs rest (evx F b)) C χ φ m' led'):Lz .held w F b (execs (.While test body [] pos::rest) (evx F b)) C χ φ m led :=
 bd (lz_while ok hcl hk J n₀ hJ (fun n m₁ led₁ j Φ h1 h2 h3 h4=>by
  obtain ⟨c,a,b,d⟩:=turn n m₁ led₁ j Φ h1 h2 (fun m' led' h=>h3 m' led' (hX _ _ h)) (fun v m' led' h=>h4 v m' led' h)
  exact ⟨c,a,b,fun e=>hX _ _ (d e)⟩) rfl)
theorem ff_c {b0:Bool} (S:al w D C) (hC:C fpi rest inner kd R st) (offi:Off fpi rest) (offd:∀ p∈fpi++rest,p.1≠du) (m1:(u,instObj 611 du)∈rest) (hkd:∀ x∈R,x.1.tag % 256≤2) (r0:Option (Option Nat)) (hr0:fw hi upto (R.drop (aQ R st)) (aQ R st) (if b0 then some sk else none) = r0) :
  bc w (D + 5 + 1) 573 [.ref u,.bool b0] ((du,UD q inner upto lo hi going tg false sk tsk sv tsv)::fpi) rest 56 (XoP C q du inner kd upto lo hi R fpi rest r0) (GvP r0 (FfP C q du inner kd upto lo hi going tg R fpi rest)):=by
 revert S hC offi offd m1 hkd hr0
 revert w D C u du inner kd R st fpi rest q upto going lo hi tg tsk tsv sk sv b0 r0
 refine no_implicit_lambda% (aW ?_)
 refine no_implicit_lambda% (e24 ?n fun T0=>(?_:bp T0) () _ _ _ _ _ _ _ _ _ _ _ _ _ _ _ _ _ _ _ _ _ _ _)
 case n=>fail "n"
 intro O w D C u du inner kd R st fpi rest q upto going lo hi tg tsk tsv sk sv b0 r0
 intros
 clear T0
 have hsz:=S.size hC
 have hle:=startOf_le hsz.2
 refine' bB .held (binds:=[("self",.ref u),("skipping",.bool b0)]) ?ho ?hcd ?hb ?hl ?c1 ?c2 ?c3 ?c4 ?_
 fail "e"
 intro bb ok hcl φ χ kφ xφ
 refine lzs_while ok hcl rfl (FfJ C q u du inner kd upto lo hi going tg false sv tsv R fpi rest r0) (FfX C q u du inner kd upto lo hi going tg false sv tsv R fpi rest r0) (R.length - aQ R st) (.mk (aQ R st) b0 sk tsk fpi rfl rfl rfl (by rw [placeOf_start hsz.2];exact hC) hr0 (by omega)) ?_ ?_
 rotate_left
 ·intro m' led' hx
  obtain ⟨st₁,sk₁,tk₁,fp₁,n1,hr,ha,hC⟩:=hx
  refine Lx.lz (sx_forget ok (aR m1) (bN offd ha) n1 (fun ta tb=>?_) rfl rfl (by omega) rfl rfl rfl)
  exact ae (kφ .next _ ((du,_)::_) ⟨none,hr.symm,_,_,ta,tb,ha,hC,fun j hj=>by cases hj⟩)
 clear hC
 intro n m₁ led₁ hx Φ kn kc kb kr
 obtain ⟨i,b',sk',tks,fp₁,e1,e2,ha,hC,hr1,hn⟩:=hx
 have offd1:=bN offd ha
 have offi1:Off fp₁ rest:=offi.adr ha
 have q1:(u,instObj 611 du)∈fp₁++rest:=aR m1
 refine ⟨(bi R i).isSome,bt (dD ok S hC e1 q1 (fun O h=>h) rfl rfl (by omega) rfl) rfl,fun hc=>?_,fun hc=>?_⟩
 ·have hi2:i < R.length:=by
   rcases Nat.lt_or_ge i R.length with h | h
   ·exact h
   ·rw [dI (Nat.not_lt.mpr h)] at hc;cases hc
  rw [cR hi2] at hC
  obtain ⟨y,hy⟩:∃ y,R[i]? = some y:=⟨_,List.getElem?_eq_getElem hi2⟩
  have hyo:y.1.Ok:=S.ok hC _ (List.mem_of_getElem? hy)
  have hyk:y.1.tag % 256≤2:=hkd _ (List.mem_of_getElem? hy)
  have hd1:R.drop i = y::R.drop (i + 1):=by rw [List.drop_eq_getElem_cons hi2,(List.getElem?_eq_some_iff.mp hy).2]
  rw [hd1] at hr1
  refine bd (lz_tup3 (lz_f1 ok (ao ok nofun rfl rfl rfl) (az (px_ikey ok S hC hy e1 q1 (fun O h=>h) rfl rfl (by omega) rfl) rfl) (fun vs hvs=>?_) nofun rfl rfl rfl) rfl rfl rfl rfl rfl rfl)
  obtain ⟨v,rfl,t,rfl⟩:=hvs
  refine eO ok hcl (split_z hyo hyk) rfl (by omega) (fun O h=>h) (fun fp' hp=>?_) fun r fp' hp=>?_
  ·obtain ⟨hg,rfl⟩:=hp
   exact xφ ((du,_)::_) ⟨hr1.symm.trans (fw_bad hg),.mk _ _ _ _ _ _ _ _ ha hC⟩
  obtain ⟨hg,a,tu,t1,t2,-⟩:=hp
  refine ⟨_,_,_,_,_,rfl,.head _,Lx.lz (Lx.sub (led':=(du,UD q inner upto lo hi going tg false sk' tks sv tsv)::(fp₁++rest)) (fun p hp=>.tail _ hp) ?_)⟩
  generalize hM:ms (ms (ms m₁ "user" _) "seq" _) "kind" _ = M
  have M1:M "self" = some (.ref u):=by rw [← hM];exact e1
  have M2:M "skipping" = some (.bool b'):=by rw [← hM];exact e2
  have M3:∃ v,M "user" = some v∧IsB y.1.u v:=⟨_,by rw [← hM];rfl,_,rfl⟩
  have M4:∃ v,M "seq" = some v∧IsI (y.1.tag / 256) v:=⟨_,by rw [← hM];rfl,_,rfl⟩
  have M5:∃ v,M "kind" = some v∧IsI (y.1.tag % 256) v:=⟨_,by rw [← hM];rfl,_,rfl⟩
  clear hM e1 e2
  refine aH (ck (dK (Px.mono (ag ok M1 (.tail _ q1) (.head _) rfl dS (by fail "p") nofun (by fail "q") nofun rfl rfl rfl rfl) dC) bQ rfl) (c2:=bI hi y.1.u) fun e=>?_) (fun hc=>?_) fun hc=>?_
  ·obtain ⟨hb,rfl⟩:=Option.isSome_iff_exists.mp e
   exact pc_geB (ac M3 rfl rfl rfl) (Px.mono (ag ok M1 (.tail _ q1) (.head _) rfl rfl (by fail "p") nofun (by fail "q") nofun rfl rfl rfl rfl) (bnd_isB rfl)) rfl
  ·rw [past_and] at hc
   obtain rfl:some none = r0:=(fw_past hg hc).symm.trans hr1
   exact aj (lx_break (kb _ _ ⟨_,_,_,_,M1,rfl,ha,hC⟩))
  ·rw [past_and] at hc
   refine dh (FfT q u du inner upto lo hi going tg false sv tsv R (fp₁++rest) i r0) (pc_leI (ac M4 rfl rfl rfl) (Px.mono (ag ok M1 (.tail _ q1) (.head _) rfl rfl (by fail "p") nofun (by fail "q") nofun rfl rfl rfl rfl) isI) rfl) (fun h2 ψ kψ=>?_) (fun h2 ψ kψ=>ae (kψ .next _ _ (.next b' _ _ M1 M2 ((fw_inv hg hc (of_decide_eq_false h2)).symm.trans hr1)))) (fun m' led' h=>?_) fun f m' led' hf h=>?_
   ·have h2:=of_decide_eq_true h2
    refine sx_if (bn (ac M5 rfl rfl rfl) (au ok nofun rfl rfl rfl) rfl) (fun h3=>?_) (fun h3=>?_)
    ·have h3:y.1.tag % 256 = 0:=of_decide_eq_true h3
     refine aH (cZ (dJ (bt (af M2 rfl rfl rfl) rfl)) (fun e=>pc_gtB (ac M3 rfl rfl rfl) (Px.mono (ag ok M1 (.tail _ q1) (.head _) rfl rfl (by fail "p") nofun (by fail "q") nofun rfl rfl rfl rfl) isB) rfl)) (fun h4=>?_) fun h4=>?_
     ·rw [open_or] at h4
      refine aj (lx_skeyP ok q1 offd1 M1 (ac M3 rfl rfl rfl) (fun tw=>?_) rfl rfl rfl rfl)
      refine aD bX (fun v hv=>?_) rfl rfl rfl
      subst hv
      exact ae (ae (ae (kψ .next _ _ (.next true _ _ M1 rfl ((fw_delO hg hc h2 h3 h4).symm.trans hr1)))))
     ·rw [open_or] at h4
      exact ae (ae (kψ .next _ _ (.next b' _ _ M1 M2 ((fw_delS hg hc h2 h3 h4).symm.trans hr1))))
    ·have h3:y.1.tag % 256≠0:=of_decide_eq_false h3
     refine aH (cZ (dJ (bt (af M2 rfl rfl rfl) rfl)) (fun e=>pc_gtB (ac M3 rfl rfl rfl) (Px.mono (ag ok M1 (.tail _ q1) (.head _) rfl rfl (by fail "p") nofun (by fail "q") nofun rfl rfl rfl rfl) isB) rfl)) (fun h4=>?_) fun h4=>?_
     ·rw [open_or] at h4
      obtain rfl:some (some i) = r0:=(fw_putO hg hc h2 h3 h4).symm.trans hr1
      refine sx_forget ok q1 offd1 M1 (fun ta tb=>?_) rfl rfl (by omega) rfl rfl rfl
      refine aj (dP ok q1 offd1 M1 bX ?_ rfl rfl rfl rfl)
      exact aj (lx_ret0 (kψ (.ret .none) _ _ (.ret ta tb rfl)))
     ·rw [open_or] at h4
      exact ae (ae (kψ .next _ _ (.next b' _ _ M1 M2 ((fw_putS hg hc h2 h3 h4).symm.trans hr1))))
   ·rcases h with ⟨b2,sk2,tk2,n1,n2,hr2⟩ | -
    refine aO (lm0 ok (ag ok n1 (.tail _ q1) (.head _) rfl rfl (by fail "p") nofun (by fail "q") nofun rfl rfl rfl rfl) (bD ok S hC (fun p hp=>.tail _ hp) .step) (aX (D':=D) ok rfl (by omega) (S.step hC (E0:=(du,UD q inner upto lo hi going tg false sk2 tk2 sv tsv)::rest) (fun p hp=>.tail _ hp) (off_cons (fun p hp e=>offd1 p (aL hp) e.symm) offi1)) (fun p hp=>?_) fun r fp' hp=>?_) (aP _ _ _) rfl) rfl rfl
    ·rcases List.mem_append.mp hp with h | h
     ·exact .tail _ (aL h)
     ·rcases List.mem_cons.mp h with rfl | h
      ·exact .head _
      ·exact .tail _ (aR h)
    ·obtain ⟨-,ha2,hC2⟩:=hp
     refine Lx.sub (led':=(du,UD q inner upto lo hi going tg false sk2 tk2 sv tsv)::(fp'++rest)) (fun p hp=>?_) (ae (kn (n - 1) _ _ (by omega) ⟨i + 1,b2,_,_,_,n1,n2,ha2.trans ha,by rw [← dE];exact hC2,hr2,by omega⟩))
     rcases List.mem_cons.mp hp with rfl | h
     ·exact aR (.head _)
     ·rcases List.mem_append.mp h with h | h
      ·exact aL h
      ·exact aR (.tail _ h)
   ·rcases h with - | ⟨ta,tb,hr⟩
    ·exact absurd rfl hf
    ·exact kr _ _ _ (kφ (.ret .none) _ ((du,_)::_) ⟨some i,hr.symm,_,_,ta,tb,ha,hC,fun j hj=>hj⟩)
 ·have hi2:¬ i < R.length:=fun h=>by rw [cR h] at hc;cases hc
  have hd0:R.drop i = []:=List.drop_eq_nil_of_le (by omega)
  rw [hd0] at hr1
  obtain rfl:some none = r0:=hr1
  exact ⟨_,_,_,_,e1,rfl,ha,hC⟩
end
end
section
open PySem PySem.W PyProof.Rows
set_option tactic.hygienic false
structure En where
 u:Array UInt8
 q:Nat
 k:Nat
 c:Nat
 i:Nat
noncomputable def En.row (e:En):Row:=(⟨e.u,e.q,e.k⟩,#[UInt8.ofNat (65 + e.i)])
noncomputable def En.vis (upto:Int) (e:En):Bool:=decide ((e.q:Int)≤upto)
noncomputable def En.vk (upto:Int) (e:En):Bool:=e.vis upto && decide (e.k < 2)
noncomputable def belowZ (ents:List En) (x:Array UInt8):Nat:=ents.countP fun e=>ltB e.u x
noncomputable def hasZ (ents:List En) (p:En→Bool) (i:Nat):Bool:=match ents[i]? with | none=>false | some e=>p e
noncomputable def bF (ents:List En) (upto:Int) (i:Nat):Bool:=hasZ ents (fun e=>e.vk upto && e.k == 1 && !((ents.take i).any fun d=>d.vk upto && d.u == e.u)) i
noncomputable def aI (ents:List En) (upto:Int):List Nat:=(List.range ents.length).filter (bF ents upto)
noncomputable def stopZ (ents:List En) (start:Nat) (hi:Option (Array UInt8)):Nat:=match hi with | none=>ents.length | some h=>max start (belowZ ents h)
noncomputable def cz (ents:List En) (newest:List Nat) (start:Nat) (past hi:Option (Array UInt8)):Option Nat:=newest.find? fun i=>decide (start≤i) && (decide (i < stopZ ents start hi) && hasZ ents (fun e=>bg past e.u) i)
noncomputable def badZ (ents:List En) (a b:Nat):Bool:=((ents.drop a).take (b - a)).any fun e=>e.k == 2
noncomputable def c9 (ents:List En) (newest:List Nat) (start:Nat) (past hi:Option (Array UInt8)):Bool × Option Nat :=
 (badZ ents start ((cz ents newest start past hi).getD (stopZ ents start hi) + 1),cz ents newest start past hi)
noncomputable def eu {α:Type} (r:Bool × α):Option α:=if r.1 = true then none else some r.2
noncomputable def dq (ents:List En):Prop:=ents.Pairwise fun a b=>ltB b.u a.u = false
theorem bu {ents:List En} {p:En→Bool} {i:Nat} {e:En} (h:ents[i]? = some e):hasZ ents p i = p e:=by unfold hasZ;rw [h]
theorem hasZ_none {ents:List En} {p:En→Bool} {i:Nat} (h:ents[i]? = none):hasZ ents p i = false:=by unfold hasZ;rw [h]
theorem tag_q {e:En} (h:e.k≤2):e.row.1.tag / 256 = (e.q:Int):=by show ((e.q:Int) * 256 + (e.k:Int)) / 256 = e.q;omega
theorem tag_k {e:En} (h:e.k≤2):e.row.1.tag % 256 = (e.k:Int):=by show ((e.q:Int) * 256 + (e.k:Int)) % 256 = e.k;omega
theorem dq.at {ents:List En} (hs:dq ents) {i j:Nat} {a b:En} (hi:ents[i]? = some a) (hj:ents[j]? = some b) (h:i≤j):ltB b.u a.u = false:=by
 rcases Nat.lt_or_ge i j with h1 | h1
 ·obtain ⟨h2,h3⟩:=List.getElem?_eq_some_iff.mp hi
  obtain ⟨h4,h5⟩:=List.getElem?_eq_some_iff.mp hj
  have:=List.pairwise_iff_getElem.mp hs i j h2 h4 h1
  rw [h3,h5] at this
  exact this
 ·obtain rfl:i = j:=by omega
  rw [hi] at hj;cases hj
  exact bj _
theorem bC {x:Array UInt8}:∀ {ents:List En} (hs:dq ents) {i:Nat} {e:En} (h:ents[i]? = some e),(ltB e.u x = true ↔ i < belowZ ents x)
 | [],_,i,e,h=>by simp at h
 | a::l,hs,i,e,h=>by
  have hp:=List.pairwise_cons.mp hs
  unfold belowZ
  rw [List.countP_cons]
  cases i with
  | zero =>
   simp only [List.getElem?_cons_zero,Option.some.injEq] at h
   subst h
   cases ha:ltB a.u x with
   | true=>simp
   | false =>
    have:l.countP (fun e=>ltB e.u x) = 0:=List.countP_eq_zero.mpr fun b hb hlt=>by
     have:=ltB_le_trans (hp.1 b hb) (c:=x) (by
      cases hx:ltB x b.u with
      | false=>rfl
      | true=>exact absurd (cw hx hlt) (by rw [bj];decide))
     have h2:=hp.1 b hb
     cases hab:ltB a.u b.u with
     | true=>rw [cw hab hlt] at ha;cases ha
     | false=>have e:=bZ h2 hab;rw [← e,hlt] at ha;cases ha
    rw [this];simp
  | succ i =>
   rw [List.getElem?_cons_succ] at h
   have ih:=bC (x:=x) hp.2 h
   unfold belowZ at ih
   cases ha:ltB a.u x with
   | true=>simp only [if_true];rw [ih];omega
   | false =>
    have hb:=List.mem_of_getElem? h
    have h1:ltB e.u x = false:=by
     cases hx:ltB e.u x with
     | false=>rfl
     | true =>
      have h2:=hp.1 e hb
      cases hab:ltB a.u e.u with
      | true=>rw [cw hab hx] at ha;cases ha
      | false=>have e9:=bZ h2 hab;rw [← e9,hx] at ha;cases ha
    rw [h1] at ih ⊢
    simp only [Bool.false_eq_true,if_false,false_iff,Nat.not_lt,Nat.add_zero] at ih ⊢
    omega
theorem cF (ents:List En) (x:Array UInt8):belowZ ents x≤ents.length:=List.countP_le_length
theorem eF {ents:List En} {a b:Nat}:badZ ents a b = true ↔ ∃ i e,a≤i∧i < b∧ents[i]? = some e∧e.k = 2:=by
 unfold badZ
 rw [List.any_eq_true]
 constructor
 ·rintro ⟨e,he,hk⟩
  obtain ⟨j,hj⟩:=List.mem_iff_getElem?.mp he
  rw [List.getElem?_take] at hj
  split at hj
  ·rw [List.getElem?_drop] at hj
   exact ⟨a + j,e,by omega,by omega,hj,by simpa using hk⟩
  ·cases hj
 ·rintro ⟨i,e,h1,h2,h3,h4⟩
  refine ⟨e,List.mem_iff_getElem?.mpr ⟨i - a,?_⟩,by simpa using h4⟩
  rw [List.getElem?_take,if_pos (Nat.sub_lt_sub_right h1 h2),List.getElem?_drop,show a + (i - a) = i from Nat.add_sub_of_le h1]
  exact h3
theorem mem_newest {ents:List En} {upto:Int} {i:Nat}:i∈aI ents upto ↔ bF ents upto i = true:=by
 unfold aI
 rw [List.mem_filter,List.mem_range]
 constructor
 ·exact fun h=>h.2
 ·intro h
  refine ⟨?_,h⟩
  rcases Nat.lt_or_ge i ents.length with h1 | h1
  ·exact h1
  ·unfold bF at h
   rw [hasZ_none (List.getElem?_eq_none h1)] at h
   cases h
theorem dF {ents:List En} {upto:Int} {i:Nat} {e:En} (h:ents[i]? = some e):bF ents upto i = true ↔ e.vk upto = true∧e.k = 1∧∀ j d,j < i→ents[j]? = some d→d.vk upto = true→d.u≠e.u:=by
 unfold bF
 rw [bu h,Bool.and_eq_true,Bool.and_eq_true,beq_iff_eq,Bool.not_eq_true',List.any_eq_false,and_assoc]
 refine and_congr Iff.rfl (and_congr Iff.rfl ?_)
 constructor
 ·intro g j d hj hd hv e9
  refine g d (List.mem_iff_getElem?.mpr ⟨j,by rw [List.getElem?_take,if_pos hj];exact hd⟩) ?_
  rw [hv,e9];simp
 ·intro g d hd hc
  obtain ⟨j,hj⟩:=List.mem_iff_getElem?.mp hd
  rw [List.getElem?_take] at hj
  split at hj
  ·rename_i hlt
   rw [Bool.and_eq_true,beq_iff_eq] at hc
   exact g j d hlt hj hc.1 hc.2
  ·cases hj
theorem dT {ents:List En} {upto:Int} {start:Nat} {past hi:Option (Array UInt8)}:cz ents (aI ents upto) start past hi = (List.range ents.length).find? fun i=>bF ents upto i && (decide (start≤i) && (decide (i < stopZ ents start hi) && hasZ ents (fun e=>bg past e.u) i)):=by
 unfold cz aI
 rw [List.find?_filter]
 congr 1
 funext a
 simp only [Bool.decide_and,Bool.decide_eq_true]
noncomputable def SkipOk (ents:List En) (upto:Int) (past skip:Option (Array UInt8)) (i:Nat):Prop:=∀ j e,i≤j→ents[j]? = some e→(bg skip e.u = true ↔ bg past e.u = true∧∀ m d,m < i→ents[m]? = some d→d.vk upto = true→d.u≠e.u)
theorem skip_same {ents:List En} {upto:Int} {past skip:Option (Array UInt8)} {i:Nat} {e:En} (h:SkipOk ents upto past skip i) (he:ents[i]? = some e) (hn:e.vk upto = true→bg skip e.u = false):SkipOk ents upto past skip (i + 1):=by
 intro j d hj hd
 have h1:=h j d (by omega) hd
 refine ⟨fun g=>⟨(h1.mp g).1,fun m c hm hc hv=>?_⟩,fun g=>h1.mpr ⟨g.1,fun m c hm hc hv=>g.2 m c (by omega) hc hv⟩⟩
 rcases Nat.lt_or_ge m i with h2 | h2
 ·exact (h1.mp g).2 m c h2 hc hv
 ·obtain rfl:m = i:=by omega
  rw [he] at hc;cases hc
  intro e9
  have:=hn hv
  rw [e9,g] at this
  cases this
theorem skip_del {ents:List En} {upto:Int} {past skip:Option (Array UInt8)} {i:Nat} {e:En} (hs:dq ents) (h:SkipOk ents upto past skip i) (he:ents[i]? = some e) (hv:e.vk upto = true) (ho:bg skip e.u = true):SkipOk ents upto past (some e.u) (i + 1):=by
 intro j d hj hd
 have h1:=h j d (by omega) hd
 have hle:=hs.at he hd (by omega)
 constructor
 ·intro g
  have g2:ltB e.u d.u = true:=g
  have hsk:bg skip d.u = true:=by
   cases skip with
   | none=>rfl
   | some s=>exact cw (show ltB s e.u = true from ho) g2
  refine ⟨(h1.mp hsk).1,fun m c hm hc hv2=>?_⟩
  rcases Nat.lt_or_ge m i with h2 | h2
  ·exact (h1.mp hsk).2 m c h2 hc hv2
  ·obtain rfl:m = i:=by omega
   rw [he] at hc;cases hc
   intro e9
   rw [e9,bj] at g2
   cases g2
 ·intro g
  show ltB e.u d.u = true
  cases hx:ltB e.u d.u with
  | true=>rfl
  | false=>exact absurd (bZ hx hle) (g.2 i e (by omega) he hv)
theorem drop_at {ents:List En} {i:Nat} {e:En} (h:ents[i]? = some e):(ents.map En.row).drop i = e.row::(ents.map En.row).drop (i + 1):=by
 have hi:=(List.getElem?_eq_some_iff.mp h)
 have h1:i < (ents.map En.row).length:=by rw [List.length_map];exact hi.1
 rw [List.drop_eq_getElem_cons h1,List.getElem_map,hi.2]
section
variable {ents:List En} {upto:Int} {start:Nat} {past hi:Option (Array UInt8)}
theorem stopZ_past (hs:dq ents) {i:Nat} {e:En} (he:ents[i]? = some e) (h1:start≤i):(bI hi e.u = true→stopZ ents start hi≤i)∧(bI hi e.u = false→i < stopZ ents start hi):=by
 have hl:=(List.getElem?_eq_some_iff.mp he).1
 cases hi with
 | none=>exact ⟨(fun h=>nomatch h),fun O=>hl⟩
 | some h =>
  have hb:=bC (x:=h) hs he
  show ((!ltB e.u h) = true→max start (belowZ ents h)≤i)∧((!ltB e.u h) = false→i < max start (belowZ ents h))
  constructor
  ·intro g
   have:¬ i < belowZ ents h:=fun g2=>by rw [hb.mpr g2] at g;cases g
   omega
  ·intro g
   have:i < belowZ ents h:=hb.mp (by cases hx:ltB e.u h with | true=>rfl | false=>rw [hx] at g;cases g)
   omega
theorem fw_scan (hs:dq ents) (hk:∀ e∈ents,e.k≤2) (hst:start≤ents.length):∀ (n i:Nat) (skip:Option (Array UInt8)),i + n = ents.length→start≤i→i≤stopZ ents start hi→SkipOk ents upto past skip i →
  (∀ j e,start≤j→j < i→ents[j]? = some e→e.k≠2∧¬ (bF ents upto j = true∧j < stopZ ents start hi∧bg past e.u = true)) →
  fw hi upto ((ents.map En.row).drop i) i skip = eu (c9 ents (aI ents upto) start past hi):=by
 have hstop:stopZ ents start hi≤ents.length:=by
  cases hi with
  | none=>exact Nat.le_refl _
  | some h=>exact Nat.max_le.mpr ⟨hst,cF _ _⟩
 intro n
 induction n with
 | zero =>
  intro i skip hn h1 h2 hsk hno
  have hd:(ents.map En.row).drop i = []:=List.drop_eq_nil_of_le (by rw [List.length_map];omega)
  rw [hd,fw]
  have hg:cz ents (aI ents upto) start past hi = none:=by
   rw [dT,List.find?_eq_none]
   intro j hj hc
   rw [List.mem_range] at hj
   simp only [Bool.and_eq_true,decide_eq_true_eq] at hc
   have he:=List.getElem?_eq_getElem hj
   rw [bu he] at hc
   exact (hno j _ hc.2.1 (by omega) he).2 ⟨hc.1,hc.2.2.1,hc.2.2.2⟩
  have hb:badZ ents start ((cz ents (aI ents upto) start past hi).getD (stopZ ents start hi) + 1) = false:=by
   rw [Bool.eq_false_iff]
   intro hb
   obtain ⟨j,e,a,b,c,d⟩:=eF.mp hb
   have:=(List.getElem?_eq_some_iff.mp c).1
   exact (hno j e a (by omega) c).1 d
  unfold eu c9
  rw [hb,hg]
  rfl
 | succ n ih =>
  intro i skip hn h1 h2 hsk hno
  have hil:i < ents.length:=by omega
  obtain ⟨e,he⟩:∃ e,ents[i]? = some e:=⟨_,List.getElem?_eq_getElem hil⟩
  have hek:=hk e (List.mem_of_getElem? he)
  have hq:=tag_q hek
  have hkk:=tag_k hek
  have hpast:=stopZ_past (hi:=hi) hs he h1
  have hgoal:∀ g,cz ents (aI ents upto) start past hi = some g→i≤g:=by
   intro g hg
   rw [dT,List.find?_range_eq_some] at hg
   obtain ⟨hc,hm,-⟩:=hg
   simp only [Bool.and_eq_true,decide_eq_true_eq] at hc
   rw [List.mem_range] at hm
   have h9:=List.getElem?_eq_getElem hm
   rw [bu h9] at hc
   rcases Nat.lt_or_ge g i with h8 | h8
   ·exact absurd ⟨hc.1,hc.2.2.1,hc.2.2.2⟩ (hno g _ hc.2.1 h8 h9).2
   ·exact h8
  rw [drop_at he]
  by_cases k2:e.k = 2
  ·rw [fw_bad (by rw [hkk];omega)]
   have hb:badZ ents start ((cz ents (aI ents upto) start past hi).getD (stopZ ents start hi) + 1) = true:=by
    refine eF.mpr ⟨i,e,h1,?_,he,k2⟩
    cases hg:cz ents (aI ents upto) start past hi with
    | none=>show i < stopZ ents start hi + 1;omega
    | some g=>have:=hgoal g hg;show i < g + 1;omega
   unfold eu c9
   rw [hb]
   rfl
  ·have hg0:¬ 1 < e.row.1.tag % 256:=by rw [hkk];omega
   have hall:∀ j d,start≤j→j < i + 1→ents[j]? = some d→d.k≠2:=fun j d a b c=>by
    rcases Nat.lt_or_ge j i with h8 | h8
    ·exact (hno j d a h8 c).1
    ·obtain rfl:j = i:=by omega
     rw [he] at c;cases c;exact k2
   have nobad:∀ m,m≤i + 1→badZ ents start m = false:=fun m hm=>by
    rw [Bool.eq_false_iff]
    intro hb
    obtain ⟨j,d,a,b,c,f⟩:=eF.mp hb
    exact hall j d a (by omega) c f
   cases hp:bI hi e.u with
   | true =>
    rw [fw_past hg0 hp]
    have hst2:stopZ ents start hi = i:=Nat.le_antisymm (hpast.1 hp) h2
    have hg:cz ents (aI ents upto) start past hi = none:=by
     cases hg:cz ents (aI ents upto) start past hi with
     | none=>rfl
     | some g =>
      have h8:=hgoal g hg
      rw [dT,List.find?_range_eq_some] at hg
      have hc:=hg.1
      simp only [Bool.and_eq_true,decide_eq_true_eq] at hc
      omega
    unfold eu c9
    rw [hg]
    show _ = if badZ ents start (stopZ ents start hi + 1) = true then none else some none
    rw [hst2,nobad _ (Nat.le_refl _)]
    rfl
   | false =>
    have hlt:=hpast.2 hp
    by_cases hT:bF ents upto i = true∧bg past e.u = true
    ·obtain ⟨hnew,hop⟩:=hT
     have hg:cz ents (aI ents upto) start past hi = some i:=by
      rw [dT,List.find?_range_eq_some]
      refine ⟨?_,List.mem_range.mpr hil,fun j hj=>?_⟩
      ·rw [hnew,bu he,hop,decide_eq_true h1,decide_eq_true hlt];rfl
      ·have h9:=List.getElem?_eq_getElem (show j < ents.length by omega)
       rw [bu h9,Bool.not_eq_true',Bool.eq_false_iff]
       intro hc
       simp only [Bool.and_eq_true,decide_eq_true_eq] at hc
       exact (hno j _ hc.2.1 hj h9).2 ⟨hc.1,hc.2.2.1,hc.2.2.2⟩
     have hn3:=(dF he).mp hnew
     have hv:e.vis upto = true:=by have:=hn3.1;unfold En.vk at this;rw [Bool.and_eq_true] at this;exact this.1
     have hv2:(e.q:Int)≤upto:=of_decide_eq_true hv
     have hosk:bg skip e.row.1.u = true:=(hsk i e (Nat.le_refl _) he).mpr ⟨hop,fun m d hm hd hv=>hn3.2.2 m d hm hd hv⟩
     rw [fw_putO hg0 hp (by rw [hq];exact hv2) (by rw [hkk];omega) hosk]
     unfold eu c9
     rw [hg]
     show _ = if badZ ents start (i + 1) = true then none else some (some i)
     rw [nobad _ (Nat.le_refl _)]
     rfl
    ·have hno2:∀ j d,start≤j→j < i + 1→ents[j]? = some d→d.k≠2∧¬ (bF ents upto j = true∧j < stopZ ents start hi∧bg past d.u = true):=fun j d a b c=>by
      refine ⟨hall j d a b c,?_⟩
      rcases Nat.lt_or_ge j i with h8 | h8
      ·exact (hno j d a h8 c).2
      ·obtain rfl:j = i:=by omega
       rw [he] at c;cases c
       exact fun h=>hT ⟨h.1,h.2.2⟩
     have hvk:e.vk upto = e.vis upto:=by unfold En.vk;rw [decide_eq_true (show e.k < 2 by omega),Bool.and_true]
     by_cases hv:(e.q:Int)≤upto
     ·have hvis:e.vk upto = true:=by rw [hvk];exact decide_eq_true hv
      by_cases k0:e.k = 0
      ·cases ho:bg skip e.u with
       | true =>
        rw [fw_delO hg0 hp (by rw [hq];exact hv) (by rw [hkk];omega) ho]
        exact ih (i + 1) _ (by omega) (by omega) (by omega) (skip_del hs hsk he hvis ho) hno2
       | false =>
        rw [fw_delS hg0 hp (by rw [hq];exact hv) (by rw [hkk];omega) ho]
        exact ih (i + 1) _ (by omega) (by omega) (by omega) (skip_same hsk he fun O=>ho) hno2
      ·have ho:bg skip e.u = false:=by
        cases ho:bg skip e.u with
        | false=>rfl
        | true =>
         have h9:=(hsk i e (Nat.le_refl _) he).mp ho
         exact absurd ⟨(dF he).mpr ⟨hvis,by omega,fun j d a b c=>h9.2 j d a b c⟩,h9.1⟩ hT
       rw [fw_putS hg0 hp (by rw [hq];exact hv) (by rw [hkk];omega) ho]
       exact ih (i + 1) _ (by omega) (by omega) (by omega) (skip_same hsk he fun O=>ho) hno2
     ·rw [fw_inv hg0 hp (by rw [hq];exact hv)]
      exact ih (i + 1) _ (by omega) (by omega) (by omega) (skip_same hsk he fun h=>by rw [hvk] at h;exact absurd (of_decide_eq_true h) hv) hno2
theorem fw_ahead (hs:dq ents) (hk:∀ e∈ents,e.k≤2) (hst:start≤ents.length) (h:∀ j e i d,j < start→start≤i→ents[j]? = some e→ents[i]? = some d→e.vk upto = true→bg past d.u = true→e.u≠d.u) :
  fw hi upto ((ents.map En.row).drop start) start past = eu (c9 ents (aI ents upto) start past hi) :=
 fw_scan hs hk hst (ents.length - start) start past (by omega) (Nat.le_refl _) (by
  cases hi with
  | none=>exact hst
  | some h=>exact Nat.le_max_left _ _) (fun j d hj hd=>⟨fun g=>⟨g,fun m c hm hc hv=>h m c j d hm hj hc hd hv g⟩,fun g=>g.1⟩) fun j e a b=>by omega
end
end
section
open PySem PySem.W PyProof.Rows
set_option maxHeartbeats 8000000
set_option maxRecDepth 100000
set_option tactic.hygienic false
noncomputable def bw (lo:Option (Array UInt8)) (upto:Int) (R:List Row):Nat→Option Nat→Option (Option Nat × Nat)
 | 0,have_=>some (have_,0)
 | n + 1,have_=>match R[n]? with
  | none=>some (have_,n + 1)
  | some x =>
   if 1 < x.1.tag % 256 then none
   else if bP lo x.1.u then some (have_,n + 1)
   else if x.1.tag / 256≤upto then
    if have_.isSome && ltB x.1.u (cC R have_) then some (have_,n + 1)
    else if x.1.tag % 256 = 0 then bw lo upto R n none else bw lo upto R n (some n)
   else bw lo upto R n have_
section
variable {lo:Option (Array UInt8)} {upto:Int} {R:List Row} {x:Row} {n:Nat} {hv:Option Nat}
theorem bw_bad (hx:R[n]? = some x) (h0:1 < x.1.tag % 256):bw lo upto R (n + 1) hv = none:=by rw [bw,hx];simp only;rw [if_pos h0]
theorem bw_past (hx:R[n]? = some x) (h0:¬ 1 < x.1.tag % 256) (h1:bP lo x.1.u = true):bw lo upto R (n + 1) hv = some (hv,n + 1):=by rw [bw,hx];simp only;rw [if_neg h0,if_pos h1]
theorem bw_inv (hx:R[n]? = some x) (h0:¬ 1 < x.1.tag % 256) (h1:bP lo x.1.u = false) (h2:¬ x.1.tag / 256≤upto):bw lo upto R (n + 1) hv = bw lo upto R n hv:=by
 rw [bw,hx];simp only;rw [if_neg h0,if_neg (by rw [h1];decide),if_neg h2]
theorem bw_brk (hx:R[n]? = some x) (h0:¬ 1 < x.1.tag % 256) (h1:bP lo x.1.u = false) (h2:x.1.tag / 256≤upto) (h3:(hv.isSome && ltB x.1.u (cC R hv)) = true):bw lo upto R (n + 1) hv = some (hv,n + 1):=by
 rw [bw,hx];simp only;rw [if_neg h0,if_neg (by rw [h1];decide),if_pos h2,if_pos h3]
theorem bw_del (hx:R[n]? = some x) (h0:¬ 1 < x.1.tag % 256) (h1:bP lo x.1.u = false) (h2:x.1.tag / 256≤upto) (h3:(hv.isSome && ltB x.1.u (cC R hv)) = false) (h4:x.1.tag % 256 = 0):bw lo upto R (n + 1) hv = bw lo upto R n none:=by
 rw [bw,hx];simp only;rw [if_neg h0,if_neg (by rw [h1];decide),if_pos h2,if_neg (by rw [h3];decide),if_pos h4]
theorem bw_put (hx:R[n]? = some x) (h0:¬ 1 < x.1.tag % 256) (h1:bP lo x.1.u = false) (h2:x.1.tag / 256≤upto) (h3:(hv.isSome && ltB x.1.u (cC R hv)) = false) (h4:x.1.tag % 256≠0):bw lo upto R (n + 1) hv = bw lo upto R n (some n):=by
 rw [bw,hx];simp only;rw [if_neg h0,if_neg (by rw [h1];decide),if_pos h2,if_neg (by rw [h3];decide),if_neg h4]
theorem dX (hx:R[n]? = some x):cC R (some n) = x.1.u:=by unfold cC;simp only [hx]
theorem savedV_some (hx:R[n]? = some x):eJ R (some n) = x.2:=by unfold eJ;simp only [hx]
end
noncomputable def dY (st:Option Nat):Nat:=match st with | none=>0 | some i=>i + 1
theorem befOf_len (st:Option Nat):bH (dY st) = st:=by cases st <;> rfl
section
variable {w:World} {D:Nat} {C:aN} {u du inner:Addr} {kd:Bool} {R:List Row} {st:Option Nat} {fpi rest:Led} {q:UP} {upto going:Int} {lo hi:Option (Array UInt8)} {tg tsk tsv:Tok} {good:Bool} {sk sv:Array UInt8}
theorem under_and {lo:Option (Array UInt8)} {u:Array UInt8}:(lo.isSome && bP lo u) = bP lo u:=by cases lo <;> rfl
theorem befOf_some {n:Nat}:bH (n + 1) = some n:=rfl
inductive MvP (C:aN) (rest:Led) (inner:Addr) (kd:Bool) (R:List Row) (fp:Led) (st:Option Nat):Value→Led→Prop
 | mk (fp':Led) (ha:ak fp' fp) (hC:C fp' rest inner kd R st):MvP C rest inner kd R fp st .none fp'
theorem lx_inner {F:FnC} {b:Bx} {m:MM} {ψ:VP} {D':Nat} {f:Addr} {args:List Value} {fp:Led} {od:Obj} {st':Option Nat} (ok:Okx w D b) (hk:F.cs.kind = .function) (hD:D'≤D) (offi:Off fp rest) (offd:∀ p∈fp++rest,p.1≠du)
  (H:∀ {E0:Led},(∀ p∈rest,p∈E0)→Off fp E0→am w D' f args fp E0 fun r fp'=>r = .none∧ak fp' fp∧C fp' rest inner kd R st')
  (hq:∀ fp',ak fp' fp→C fp' rest inner kd R st'→ψ .none m ((du,od)::(fp'++rest))):Lx w F b (call (.ref f) args) ψ m ((du,od)::(fp++rest)):=fun s Q E f' N q =>
 inner_call H offi offd ok.B f' ok.X N ok.T hk (by have:=ok.hd;omega) (by have:=ok.hu;omega) (.head _) (fun p hp=>.tail _ hp) fun fp' h' tk' F' N' ha hC=>q _ _ _ h' tk' (hq _ ha hC) F' N'
theorem eo {F:FnC} {b:Bx} {m:MM} {φ:FP} {pl:Sem Bool} {xp ap ap2 pos:Pos} {stmts:List Stmt} {fp:Led} {D':Nat} {mn:MN} {st':Option Nat} (ok:Okx w D' b) (S:al w D C) (hC:C fp rest inner kd R st) (offi:Off fp rest) (offd:∀ p∈fp++rest,p.1≠du) (e1:m "self" = some (.ref u)) (m1:(u,instObj 611 du)∈rest)
  (H:∀ {E0:Led},(∀ p∈rest,p∈E0)→Off fp E0→am w D (adr kd mn) [.ref inner] fp E0 fun r fp'=>r = .none∧ak fp' fp∧C fp' rest inner kd R st')
  (hq:∀ fp',ak fp' fp→C fp' rest inner kd R st'→Lx w F b (execs stmts (evx F b)) φ m ((du,UD q inner upto lo hi going tg good sk tsk sv tsv)::(fp'++rest))) (hk:F.cs.kind = .function) (hx:(evx F b).kindOf "self" = some .local) (hD:D≤D') (hia:interactive (evx F b) = false)
  (hs:swapsWith (.Call (.Attribute (.Attribute (.Name "self" xp) "inner" ap) mn.name ap2) [] [] pos) none pos.line (evx F b) = pure false)
  (he:eval (.Call (.Attribute (.Attribute (.Name "self" xp) "inner" ap) mn.name ap2) [] [] pos) (evx F b) = (do
   let ov ← eval (.Attribute (.Name "self" xp) "inner" ap) (evx F b)
   standAt ap2.atName
   let (f,first) ← holding [ov] (getMethod ov mn.name pl)
   callWith pos f first (backTo pos (starEach [] (evx F b))) [])) :
  Lx w F b (execs (.Expr (.Call (.Attribute (.Attribute (.Name "self" xp) "inner" ap) mn.name ap2) [] [] pos) pos::stmts) (evx F b)) φ m ((du,UD q inner upto lo hi going tg good sk tsk sv tsv)::(fp++rest)) :=
 aO (lm0 ok (ag ok e1 (.tail _ (aR m1)) (.head _) rfl rfl nofun nofun nofun nofun hk hx rfl rfl) (bD ok S hC (fun p hp=>.tail _ hp) mn) (lx_inner ok hk hD offi offd H hq) (aP _ _ _) he) hia hs
theorem zx_forget {F:FnC} {b:Bx} {m:MM} {k:XK} {Cx:Addr} {χ:MM→Led→Prop} {φ:FP} {pl:Sem Bool} {xp ap pos:Pos} {stmts:List Stmt} {T:Led} (ok:Okx w D b) (m1:(u,instObj 611 du)∈T) (off:∀ p∈T,p.1≠du) (e1:m "self" = some (.ref u)) (hq:∀ ta tb,Lz k w F b (execs stmts (evx F b)) Cx χ φ m ((du,UD q inner upto lo hi going tg false #[] ta #[] tb)::T)) (hk:F.cs.kind = .function) (hx:(evx F b).kindOf "self" = some .local) (hD:1≤D) (hia:interactive (evx F b) = false)
  (hs:swapsWith (.Call (.Attribute (.Name "self" xp) "forget" ap) [] [] pos) none pos.line (evx F b) = pure false) (he:eval (.Call (.Attribute (.Name "self" xp) "forget" ap) [] [] pos) (evx F b) = (do
   let ov ← eval (.Name "self" xp) (evx F b)
   standAt ap.atName
   let (f,first) ← holding [ov] (getMethod ov "forget" pl)
   callWith pos f first (backTo pos (starEach [] (evx F b))) [])):Lz k w F b (execs (.Expr (.Call (.Attribute (.Name "self" xp) "forget" ap) [] [] pos) pos::stmts) (evx F b)) Cx χ φ m ((du,UD q inner upto lo hi going tg good sk tsk sv tsv)::T):=by
 refine cL (lx_expr (lm0 ok (af e1 hk hx rfl) (aw ok (.tail _ m1) (.head _) rfl nofun nofun nofun) (aX ok hk hD (forget_p (D:=0) m1 off) (fun O h=>h) fun r fp' hp=>?_) nofun he) hia hs)
 obtain ⟨ta,tb⟩:=hp
 exact hq ta tb
theorem zx_imove {F:FnC} {b:Bx} {m:MM} {k:XK} {Cx:Addr} {χ:MM→Led→Prop} {φ:FP} {pl:Sem Bool} {xp ap ap2 pos:Pos} {stmts:List Stmt} {fp:Led} {D':Nat} {mn:MN} {st':Option Nat} (ok:Okx w D' b) (S:al w D C) (hC:C fp rest inner kd R st) (offi:Off fp rest) (offd:∀ p∈fp++rest,p.1≠du) (e1:m "self" = some (.ref u)) (m1:(u,instObj 611 du)∈rest)
  (H:∀ {E0:Led},(∀ p∈rest,p∈E0)→Off fp E0→am w D (adr kd mn) [.ref inner] fp E0 fun r fp'=>r = .none∧ak fp' fp∧C fp' rest inner kd R st')
  (hq:∀ fp',ak fp' fp→C fp' rest inner kd R st'→Lz k w F b (execs stmts (evx F b)) Cx χ φ m ((du,UD q inner upto lo hi going tg good sk tsk sv tsv)::(fp'++rest))) (hk:F.cs.kind = .function) (hx:(evx F b).kindOf "self" = some .local) (hD:D≤D') (hia:interactive (evx F b) = false)
  (hs:swapsWith (.Call (.Attribute (.Attribute (.Name "self" xp) "inner" ap) mn.name ap2) [] [] pos) none pos.line (evx F b) = pure false)
  (he:eval (.Call (.Attribute (.Attribute (.Name "self" xp) "inner" ap) mn.name ap2) [] [] pos) (evx F b) = (do
   let ov ← eval (.Attribute (.Name "self" xp) "inner" ap) (evx F b)
   standAt ap2.atName
   let (f,first) ← holding [ov] (getMethod ov mn.name pl)
   callWith pos f first (backTo pos (starEach [] (evx F b))) [])) :
  Lz k w F b (execs (.Expr (.Call (.Attribute (.Attribute (.Name "self" xp) "inner" ap) mn.name ap2) [] [] pos) pos::stmts) (evx F b)) Cx χ φ m ((du,UD q inner upto lo hi going tg good sk tsk sv tsv)::(fp++rest)) :=
 cL (lx_expr (lm0 ok (ag ok e1 (.tail _ (aR m1)) (.head _) rfl rfl nofun nofun nofun nofun hk hx rfl rfl) (bD ok S hC (fun p hp=>.tail _ hp) mn) (lx_inner ok hk hD offi offd H hq) (aP _ _ _) he) hia hs)
inductive FbJ (C:aN) (q:UP) (u du inner:Addr) (kd:Bool) (upto:Int) (lo hi:Option (Array UInt8)) (going:Int) (tg:Tok) (R:List Row) (fp rest:Led) (r0:Option (Option Nat × Nat)):Nat→MM→Led→Prop
 | mk {n m} (hv:Option Nat) (tk' tv':Tok) (fp₁:Led) (e1:m "self" = some (.ref u)) (e2:m "have" = some (.bool hv.isSome)) (hn:n≤R.length) (ha:ak fp₁ fp) (hC:C fp₁ rest inner kd R (bH n)) (hr:bw lo upto R n hv = r0) :
  FbJ C q u du inner kd upto lo hi going tg R fp rest r0 n m ((du,UD q inner upto lo hi going tg false (cC R hv) tk' (eJ R hv) tv')::(fp₁++rest))
inductive FbX (C:aN) (q:UP) (u du inner:Addr) (kd:Bool) (upto:Int) (lo hi:Option (Array UInt8)) (going:Int) (tg:Tok) (R:List Row) (fp rest:Led) (r0':Option (Option Nat × Nat)):MM→Led→Prop
 | mk {m} (r0:Option Nat × Nat) (hr0:r0' = some r0) (tk' tv':Tok) (fp₁:Led) (e1:m "self" = some (.ref u)) (e2:m "have" = some (.bool r0.1.isSome)) (ha:ak fp₁ fp) (hC:C fp₁ rest inner kd R (bH r0.2)) :
  FbX C q u du inner kd upto lo hi going tg R fp rest r0' m ((du,UD q inner upto lo hi going tg false (cC R r0.1) tk' (eJ R r0.1) tv')::(fp₁++rest))
inductive FbT (q:UP) (u du inner:Addr) (upto:Int) (lo hi:Option (Array UInt8)) (going:Int) (tg:Tok) (R:List Row) (T:Led) (n:Nat) (hv:Option Nat) (tk tv:Tok) (r0:Option (Option Nat × Nat)):Flow→MM→Led→Prop
 | next {m} (h2:Option Nat) (tk2 tv2:Tok) (n1:m "self" = some (.ref u)) (n2:m "have" = some (.bool h2.isSome)) (hr:bw lo upto R n h2 = r0):FbT q u du inner upto lo hi going tg R T n hv tk tv r0 .next m ((du,UD q inner upto lo hi going tg false (cC R h2) tk2 (eJ R h2) tv2)::T)
 | brk {m} (n1:m "self" = some (.ref u)) (n2:m "have" = some (.bool hv.isSome)) (hr:some (hv,n + 1) = r0):FbT q u du inner upto lo hi going tg R T n hv tk tv r0 .brk m ((du,UD q inner upto lo hi going tg false (cC R hv) tk (eJ R hv) tv)::T)
inductive FbP (C:aN) (q:UP) (du inner:Addr) (kd:Bool) (upto:Int) (lo hi:Option (Array UInt8)) (R:List Row) (fp rest:Led) (r0:Option Nat × Nat):Value→Led→Prop
 | mk (fp₁:Led) (tg ta tb:Tok) (ha:ak fp₁ fp) (hC:C fp₁ rest inner kd R (bH r0.2)):FbP C q du inner kd upto lo hi R fp rest r0 .none ((du,UD q inner upto lo hi 1 tg r0.1.isSome (cC R r0.1) ta (eJ R r0.1) tb)::fp₁)
theorem fb_c (S:al w D C) (hC:C fpi rest inner kd R st) (offi:Off fpi rest) (offd:∀ p∈fpi++rest,p.1≠du) (m1:(u,instObj 611 du)∈rest) (hkd:∀ x∈R,x.1.tag % 256≤2) (r0:Option (Option Nat × Nat)) (hr0:bw lo upto R (dY st) none = r0) :
  bc w (D + 5 + 1) 580 [.ref u] ((du,UD q inner upto lo hi going tg good sk tsk sv tsv)::fpi) rest 56 (XoP C q du inner kd upto lo hi R fpi rest r0) (GvP r0 (FbP C q du inner kd upto lo hi R fpi rest)):=by
 revert S hC offi offd m1 hkd hr0
 revert w D C u du inner kd R st fpi rest q upto going lo hi tg tsk tsv good sk sv r0
 refine no_implicit_lambda% (aW ?_)
 refine no_implicit_lambda% (e24 ?n fun T0=>(?_:bp T0) () _ _ _ _ _ _ _ _ _ _ _ _ _ _ _ _ _ _ _ _ _ _ _)
 case n=>fail "n"
 intro O w D C u du inner kd R st fpi rest q upto going lo hi tg tsk tsv good sk sv r0
 intros
 clear T0
 have hsz:=S.size hC
 have hle:dY st≤R.length:=by cases st with | none=>exact Nat.zero_le _ | some i=>exact hsz.2 i rfl
 refine' bB .held (binds:=[("self",.ref u)]) ?ho ?hcd ?hb ?hl ?c1 ?c2 ?c3 ?c4 ?_
 fail "e"
 intro bb ok hcl φ χ kφ xφ
 refine lz_name bX (fun v hv=>?_) rfl rfl rfl
 subst hv
 refine zx_forget ok (aR m1) offd rfl (fun ta tb=>?_) rfl rfl (by omega) rfl rfl rfl
 refine lzs_while ok hcl rfl (FbJ C q u du inner kd upto lo hi going tg R fpi rest r0) (FbX C q u du inner kd upto lo hi going tg R fpi rest r0) (dY st) (.mk none ta tb fpi rfl rfl hle rfl (by rw [befOf_len];exact hC) hr0) ?_ ?_
 rotate_left
 ·intro m' led' hx
  obtain ⟨r1,hr1,tk',tv',fp₁,e1,e2,ha,hC⟩:=hx
  refine Lx.lz ?_
  have q1:(u,instObj 611 du)∈fp₁++rest:=aR m1
  refine aj (dP ok q1 (bN offd ha) e1 (af e2 rfl rfl rfl) ?_ rfl rfl rfl rfl)
  refine aj (ev ok q1 (bN offd ha) e1 (au ok nofun rfl rfl rfl) (fun t=>?_) rfl rfl rfl rfl)
  exact ae (kφ .next _ ((du,_)::_) ⟨r1,hr1,_,t,tk',tv',ha,hC⟩)
 clear hC
 intro n m₁ led₁ hx Φ kn kc kb kr
 clear kc
 obtain ⟨hv,tk',tv',fp₁,e1,e2,hn,ha,hC,hr1⟩:=hx
 have offd1:=bN offd ha
 have offi1:Off fp₁ rest:=offi.adr ha
 have q1:(u,instObj 611 du)∈fp₁++rest:=aR m1
 refine ⟨(bH n).isSome,bt (dD ok S hC e1 q1 (fun O h=>h) rfl rfl (by omega) rfl) rfl,fun hc=>?_,fun hc=>?_⟩
 ·obtain ⟨n,rfl⟩:∃ k,n = k + 1:=by
   cases n with
   | zero=>cases hc
   | succ k=>exact ⟨k,rfl⟩
  rw [befOf_some] at hC
  obtain ⟨y,hy⟩:∃ y,R[n]? = some y:=⟨_,List.getElem?_eq_getElem (by omega)⟩
  have hyo:y.1.Ok:=S.ok hC _ (List.mem_of_getElem? hy)
  have hyk:y.1.tag % 256≤2:=hkd _ (List.mem_of_getElem? hy)
  refine bd (lz_tup3 (lz_f1 ok (ao ok nofun rfl rfl rfl) (az (px_ikey ok S hC hy e1 q1 (fun O h=>h) rfl rfl (by omega) rfl) rfl) (fun vs hvs=>?_) nofun rfl rfl rfl) rfl rfl rfl rfl rfl rfl)
  obtain ⟨v,rfl,t,rfl⟩:=hvs
  refine eO ok hcl (split_z hyo hyk) rfl (by omega) (fun O h=>h) (fun fp' hp=>?_) fun r fp' hp=>?_
  ·obtain ⟨hg,rfl⟩:=hp
   exact xφ ((du,_)::_) ⟨hr1.symm.trans (bw_bad hy hg),.mk _ _ _ _ _ _ _ _ ha hC⟩
  obtain ⟨hg,a,tu,t1,t2,-⟩:=hp
  refine ⟨_,_,_,_,_,rfl,.head _,Lx.lz (Lx.sub (led':=(du,UD q inner upto lo hi going tg false (cC R hv) tk' (eJ R hv) tv')::(fp₁++rest)) (fun p hp=>.tail _ hp) ?_)⟩
  generalize hM:ms (ms (ms m₁ "user" _) "seq" _) "kind" _ = M
  have M1:M "self" = some (.ref u):=by rw [← hM];exact e1
  have M2:M "have" = some (.bool hv.isSome):=by rw [← hM];exact e2
  have M3:∃ v,M "user" = some v∧IsB y.1.u v:=⟨_,by rw [← hM];rfl,_,rfl⟩
  have M4:∃ v,M "seq" = some v∧IsI (y.1.tag / 256) v:=⟨_,by rw [← hM];rfl,_,rfl⟩
  have M5:∃ v,M "kind" = some v∧IsI (y.1.tag % 256) v:=⟨_,by rw [← hM];rfl,_,rfl⟩
  clear hM e1 e2
  refine aH (ck (dK (Px.mono (ag ok M1 (.tail _ q1) (.head _) rfl dS (by fail "p") nofun (by fail "q") nofun rfl rfl rfl rfl) dC) bQ rfl) (c2:=bP lo y.1.u) fun e=>?_) (fun hc=>?_) fun hc=>?_
  ·obtain ⟨lb,rfl⟩:=Option.isSome_iff_exists.mp e
   exact pc_ltB (ac M3 rfl rfl rfl) (Px.mono (ag ok M1 (.tail _ q1) (.head _) rfl rfl (by fail "p") nofun (by fail "q") nofun rfl rfl rfl rfl) (bnd_isB rfl)) rfl
  ·rw [under_and] at hc
   obtain rfl:some (hv,n + 1) = r0:=(bw_past hy hg hc).symm.trans hr1
   exact aj (lx_break (kb _ _ ⟨_,rfl,_,_,_,M1,M2,ha,hC⟩))
  ·rw [under_and] at hc
   refine dh (FbT q u du inner upto lo hi going tg R (fp₁++rest) n hv tk' tv' r0) (pc_leI (ac M4 rfl rfl rfl) (Px.mono (ag ok M1 (.tail _ q1) (.head _) rfl rfl (by fail "p") nofun (by fail "q") nofun rfl rfl rfl rfl) isI) rfl) (fun h2 ψ kψ=>?_) (fun h2 ψ kψ=>ae (kψ .next _ _ (.next hv _ _ M1 M2 ((bw_inv hy hg hc (of_decide_eq_false h2)).symm.trans hr1)))) (fun m' led' h=>?_) fun f m' led' hf h=>?_
   ·have h2:=of_decide_eq_true h2
    refine aH (ck (bt (af M2 rfl rfl rfl) rfl) (fun e=>pc_ltB (ac M3 rfl rfl rfl) (Px.mono (ag ok M1 (.tail _ q1) (.head _) rfl rfl (by fail "p") nofun (by fail "q") nofun rfl rfl rfl rfl) isB) rfl)) (fun h3=>?_) fun h3=>?_
    ·exact aj (lx_break (kψ .brk _ _ (.brk M1 M2 ((bw_brk hy hg hc h2 h3).symm.trans hr1))))
    ·refine sx_if (bn (ac M5 rfl rfl rfl) (au ok nofun rfl rfl rfl) rfl) (fun h4=>?_) (fun h4=>?_)
     ·have h4:y.1.tag % 256 = 0:=of_decide_eq_true h4
      refine aD bX (fun v hv=>?_) rfl rfl rfl
      subst hv
      refine sx_forget ok q1 offd1 M1 (fun ta tb=>?_) rfl rfl (by omega) rfl rfl rfl
      exact ae (ae (kψ .next _ _ (.next none _ _ M1 rfl ((bw_del hy hg hc h2 h3 h4).symm.trans hr1))))
     ·have h4:y.1.tag % 256≠0:=of_decide_eq_false h4
      refine aD bX (fun v hv=>?_) rfl rfl rfl
      subst hv
      refine aj (lx_skeyP ok q1 offd1 M1 (ac M3 rfl rfl rfl) (fun tw=>?_) rfl rfl rfl rfl)
      refine aj (lx_svalP ok q1 offd1 M1 (px_ivalue ok S hC hy M1 q1 (fun O h=>h) rfl rfl (by omega) rfl) (fun tv=>?_) rfl rfl rfl rfl)
      refine ae (ae (kψ .next _ _ ?_))
      rw [← dX hy,← savedV_some hy]
      exact .next (some n) _ _ M1 rfl ((bw_put hy hg hc h2 h3 h4).symm.trans hr1)
   ·rcases h with ⟨h2,tk2,tv2,n1,n2,hr2⟩ | -
    refine eo (mn:=.back) ok S hC offi1 offd1 n1 m1 (fun a b=>S.back hC a b) (fun fp' ha2 hC2=>?_) rfl rfl (by omega) rfl rfl rfl
    exact ae (kn n _ _ (by omega) ⟨h2,_,_,_,n1,n2,by omega,ha2.trans ha,hC2,hr2⟩)
   ·rcases h with - | ⟨n1,n2,hr⟩
    ·exact absurd rfl hf
    ·subst hr
     exact kb _ _ ⟨_,rfl,_,_,_,n1,n2,ha,hC⟩
 ·obtain rfl:n = 0:=by
   cases n with
   | zero=>rfl
   | succ k=>cases hc
  obtain rfl:some (hv,0) = r0:=hr1
  exact ⟨_,rfl,_,_,_,e1,e2,ha,hC⟩
end
end
section
open PySem PySem.W PyProof.Rows
set_option tactic.hygienic false
noncomputable def c6 (p:Nat→Bool):Nat→Option Nat
 | 0=>none
 | n + 1=>if p n then some n else c6 p n
theorem df {p:Nat→Bool} {g:Nat}:∀ {n:Nat},c6 p n = some g ↔ g < n∧p g = true∧∀ j,g < j→j < n→p j = false
 | 0=>by simp [c6]
 | n + 1=>by
  rw [c6]
  by_cases h:p n = true
  ·rw [if_pos h,Option.some.injEq]
   constructor
   ·rintro rfl;exact ⟨by omega,h,fun j a b=>by omega⟩
   ·rintro ⟨a,b,c⟩
    rcases Nat.lt_or_ge g n with h1 | h1
    ·rw [c n h1 (by omega)] at h;cases h
    ·omega
  ·rw [if_neg h,df]
   constructor
   ·rintro ⟨a,b,c⟩
    refine ⟨by omega,b,fun j h1 h2=>?_⟩
    rcases Nat.lt_or_ge j n with h3 | h3
    ·exact c j h1 h3
    ·obtain rfl:j = n:=by omega
     simpa using h
   ·rintro ⟨a,b,c⟩
    refine ⟨?_,b,fun j h1 h2=>c j h1 (by omega)⟩
    rcases Nat.lt_or_ge g n with h3 | h3
    ·exact h3
    ·obtain rfl:g = n:=by omega
     exact absurd b h
theorem eR {p:Nat→Bool}:∀ {n:Nat},c6 p n = none ↔ ∀ j,j < n→p j = false
 | 0=>by simp [c6]
 | n + 1=>by
  rw [c6]
  by_cases h:p n = true
  ·rw [if_pos h]
   exact ⟨(fun h=>nomatch h),fun g=>by rw [g n (by omega)] at h;cases h⟩
  ·rw [if_neg h,eR]
   constructor
   ·intro g j hj
    rcases Nat.lt_or_ge j n with h3 | h3
    ·exact g j h3
    ·obtain rfl:j = n:=by omega
     simpa using h
   ·exact fun g j hj=>g j (by omega)
noncomputable def floorZ (ents:List En) (lo:Option (Array UInt8)):Nat:=match lo with | none=>0 | some l=>belowZ ents l
noncomputable def cg (ents:List En) (upto:Int) (edge:Nat) (lo:Option (Array UInt8)):Option Nat:=c6 (fun i=>bF ents upto i && (decide (floorZ ents lo≤i) && decide (i < edge))) ents.length
noncomputable def stopB (ents:List En) (upto:Int) (edge:Nat) (lo:Option (Array UInt8)):Nat:=match cg ents upto edge lo with
 | none=>min (floorZ ents lo) edge
 | some g=>match c6 (fun i=>hasZ ents (fun e=>e.vis upto) i && decide (min (floorZ ents lo) edge≤i)) (belowZ ents (((ents.map En.row)[g]?).elim #[] fun x=>x.1.u)) with
  | none=>min (floorZ ents lo) edge
  | some i=>i + 1
noncomputable def c8 (ents:List En) (upto:Int) (edge:Nat) (lo:Option (Array UInt8)):Bool × Option Nat:=(badZ ents (stopB ents upto edge lo - 1) edge,cg ents upto edge lo)
section
variable {ents:List En} {upto:Int} {edge:Nat} {lo:Option (Array UInt8)}
theorem cB (hs:dq ents) {i:Nat} {e:En} (he:ents[i]? = some e):bP lo e.u = true ↔ i < floorZ ents lo:=by
 cases lo with
 | none=>show false = true ↔ i < 0;simp
 | some l=>exact bC hs he
noncomputable def HeldOk (ents:List En) (upto:Int) (edge n:Nat) (h:Option Nat):Prop:=∀ j,h = some j ↔ n≤j∧j < edge∧∃ e,ents[j]? = some e∧e.vis upto = true∧e.k≠0∧∀ m d,n≤m→m < j→ents[m]? = some d→d.vis upto = false
theorem cm {g:Nat} (h:cg ents upto edge lo = some g):∃ e,ents[g]? = some e∧e.vk upto = true∧e.k = 1∧(∀ j d,j < g→ents[j]? = some d→d.vk upto = true→d.u≠e.u)∧floorZ ents lo≤g∧g < edge∧∀ j,g < j→floorZ ents lo≤j→j < edge→bF ents upto j = false:=by
 obtain ⟨h1,h2,h3⟩:=df.mp h
 simp only [Bool.and_eq_true,decide_eq_true_eq] at h2
 have he:=List.getElem?_eq_getElem h1
 obtain ⟨a,b,c⟩:=(dF he).mp h2.1
 refine ⟨_,he,a,b,c,h2.2.1,h2.2.2,fun j hj hf hb=>?_⟩
 rcases Nat.lt_or_ge j ents.length with h4 | h4
 ·have:=h3 j hj h4
  cases hn:bF ents upto j with
  | false=>rfl
  | true=>rw [hn,decide_eq_true hf,decide_eq_true hb] at this;cases this
 ·cases hn:bF ents upto j with
  | false=>rfl
  | true =>
   have:=mem_newest.mpr hn
   unfold aI at this
   have:=List.mem_range.mp (List.mem_filter.mp this).1
   omega
theorem goalB_none (h:cg ents upto edge lo = none):∀ j,floorZ ents lo≤j→j < edge→bF ents upto j = false:=by
 intro j hf hb
 cases hn:bF ents upto j with
 | false=>rfl
 | true =>
  have h4:=mem_newest.mpr hn
  unfold aI at h4
  have h5:=List.mem_range.mp (List.mem_filter.mp h4).1
  have:=eR.mp h j h5
  rw [hn,decide_eq_true hf,decide_eq_true hb] at this
  cases this
theorem stopB_ge:min (floorZ ents lo) edge≤stopB ents upto edge lo:=by
 unfold stopB
 split
 ·exact Nat.le_refl _
 ·split
  ·exact Nat.le_refl _
  ·rename_i i hi
   have:=(df.mp hi).2.1
   simp only [Bool.and_eq_true,decide_eq_true_eq] at this
   omega
theorem eI (h:cg ents upto edge lo = none):stopB ents upto edge lo = min (floorZ ents lo) edge:=by unfold stopB;rw [h]
theorem de (hs:dq ents) {g:Nat} {e:En} (h:cg ents upto edge lo = some g) (he:ents[g]? = some e) :
  (∀ j d,stopB ents upto edge lo≤j→ents[j]? = some d→ltB d.u e.u = true→d.vis upto = false)∧(stopB ents upto edge lo = floorZ ents lo ∨ ∃ i d,stopB ents upto edge lo = i + 1∧floorZ ents lo≤i∧ents[i]? = some d∧d.vis upto = true∧ltB d.u e.u = true)∧stopB ents upto edge lo≤g:=by
 revert hs h he
 revert ents upto edge lo g e
 refine no_implicit_lambda% (aW ?_)
 refine no_implicit_lambda% (aW ?_)
 refine no_implicit_lambda% (e8 ?n fun T0=>(?_:bp T0) () () _ _ _ _ _ _)
 case n=>fail "n"
 intro O O ents upto edge lo g e
 intros
 clear T0
 obtain ⟨e',he',-,-,-,hf,hge,-⟩:=cm h
 rw [he] at he';cases he'
 have hmin:min (floorZ ents lo) edge = floorZ ents lo:=Nat.min_eq_left (by omega)
 have hu:(((ents.map En.row)[g]?).elim #[] fun x=>x.1.u) = e.u:=by rw [List.getElem?_map,he];rfl
 have hS:stopB ents upto edge lo = match c6 (fun i=>hasZ ents (fun e=>e.vis upto) i && decide (floorZ ents lo≤i)) (belowZ ents e.u) with | none=>floorZ ents lo | some i=>i + 1:=by
  unfold stopB
  rw [h]
  simp only [hu,hmin]
 cases hl:c6 (fun i=>hasZ ents (fun e=>e.vis upto) i && decide (floorZ ents lo≤i)) (belowZ ents e.u) with
 | none =>
  rw [hl] at hS
  have hS:stopB ents upto edge lo = floorZ ents lo:=hS
  refine ⟨fun j d hj hd hlt=>?_,.inl hS,by omega⟩
  have:=eR.mp hl j ((bC hs hd).mp hlt)
  simp only [bu hd] at this
  rw [decide_eq_true (show floorZ ents lo≤j by omega),Bool.and_true] at this
  exact this
 | some i =>
  rw [hl] at hS
  have hS:stopB ents upto edge lo = i + 1:=hS
  obtain ⟨h1,h2,h3⟩:=df.mp hl
  simp only [Bool.and_eq_true,decide_eq_true_eq] at h2
  have hil:i < ents.length:=Nat.lt_of_lt_of_le h1 (cF _ _)
  have hd:=List.getElem?_eq_getElem hil
  rw [bu hd] at h2
  have hlt:=(bC hs hd).mpr h1
  refine ⟨fun j d hj hd hlt=>?_,.inr ⟨i,_,hS,h2.2,hd,h2.1,hlt⟩,?_⟩
  ·have:=h3 j (by omega) ((bC hs hd).mp hlt)
   simp only [bu hd] at this
   rw [decide_eq_true (show floorZ ents lo≤j by omega),Bool.and_true] at this
   exact this
  ·rw [hS]
   rcases Nat.lt_or_ge i g with h4 | h4
   ·exact h4
   ·have:=hs.at he hd h4
    rw [this] at hlt
    cases hlt
theorem held_goal (hs:dq ents) (hk:∀ e∈ents,e.k≤2) {n:Nat} {h:Option Nat} (hn:stopB ents upto edge lo≤n) (hle:n≤edge) (hel:edge≤ents.length) (hkn:∀ j d,n≤j→j < edge→ents[j]? = some d→d.k≠2) (hh:HeldOk ents upto edge n h) {j:Nat} (hj:h = some j) {i:Nat} {d:En} (hi:i < n) (hil:min (floorZ ents lo) edge≤i) (hd:ents[i]? = some d)
  (hin:∀ m c,i < m→m < n→ents[m]? = some c→c.vis upto = false) (hlt:∀ e,ents[j]? = some e→ltB d.u e.u = true):cg ents upto edge lo = some j:=by
 obtain ⟨h1,h2,e,he,hv,hk0,hno⟩:=(hh j).mp hj
 have hlt:=hlt e he
 have hek:=hk e (List.mem_of_getElem? he)
 have hk2:=hkn j e h1 h2 he
 have hflo:floorZ ents lo≤i:=by omega
 have hnew:bF ents upto j = true:=by
  refine (dF he).mpr ⟨by unfold En.vk;rw [hv];simp;omega,by omega,fun m c hm hc hvk e9=>?_⟩
  have hvc:c.vis upto = true:=by unfold En.vk at hvk;rw [Bool.and_eq_true] at hvk;exact hvk.1
  rcases Nat.lt_or_ge m n with a | a
  ·rcases Nat.lt_or_ge i m with b | b
   ·rw [hin m c b a hc] at hvc;cases hvc
   ·have h5:=hs.at hc hd b
    rw [e9] at h5
    rw [h5] at hlt;cases hlt
  ·rw [hno m c a hm hc] at hvc;cases hvc
 cases hg:cg ents upto edge lo with
 | none=>rw [goalB_none hg j (by omega) h2] at hnew;cases hnew
 | some g =>
  obtain ⟨e2,he2,a1,a2,a3,a4,a5,a6⟩:=cm hg
  rcases Nat.lt_trichotomy g j with a | a | a
  ·rw [a6 j a (by omega) h2] at hnew;cases hnew
  ·rw [a]
  ·-- g > j:j is visible,of a smaller user: the stop would be behind it
   obtain ⟨b1,b2,b3⟩:=de hs hg he2
   have h5:=hs.at he he2 (by omega)
   cases hx:ltB e.u e2.u with
   | true=>rw [b1 j e (by omega) he hx] at hv;cases hv
   | false =>
    have e9:=bZ hx h5
    exact absurd e9 (a3 j e a he ((dF he).mp hnew).1)
theorem held_step (hs:dq ents) (hk:∀ e∈ents,e.k≤2) {n:Nat} {h:Option Nat} (hn:stopB ents upto edge lo≤n) (hle:n < edge) (hel:edge≤ents.length) (hkn:∀ j d,n≤j→j < edge→ents[j]? = some d→d.k≠2) (hh:HeldOk ents upto edge (n + 1) h) :
  ∃ h',bw lo upto (ents.map En.row) (n + 1) h = bw lo upto (ents.map En.row) n h'∧HeldOk ents upto edge n h':=by
 revert hs hk hn hle hel hkn hh
 revert ents upto edge lo n h
 refine no_implicit_lambda% (aW ?_)
 refine no_implicit_lambda% (aW ?_)
 refine no_implicit_lambda% (e8 ?n fun T0=>(?_:bp T0) () () _ _ _ _ _ _)
 case n=>fail "n"
 intro O O ents upto edge lo n h
 intros
 clear T0
 obtain ⟨e,he⟩:∃ e,ents[n]? = some e:=⟨_,List.getElem?_eq_getElem (by omega)⟩
 have hrow:(ents.map En.row)[n]? = some e.row:=by rw [List.getElem?_map,he];rfl
 have hek:=hk e (List.mem_of_getElem? he)
 have hq:=tag_q hek
 have hkk:=tag_k hek
 have hk2:=hkn n e (Nat.le_refl _) hle he
 have hg0:¬ 1 < e.row.1.tag % 256:=by rw [hkk];omega
 have hmin:=stopB_ge (ents:=ents) (upto:=upto) (edge:=edge) (lo:=lo)
 have hfl:floorZ ents lo≤n:=by omega
 have hu:bP lo e.row.1.u = false:=by
  cases hx:bP lo e.row.1.u with
  | false=>rfl
  | true=>have:=(cB hs he).mp hx;omega
 by_cases hv:(e.q:Int)≤upto
 ·have hvis:e.vis upto = true:=decide_eq_true hv
  have hnb:(h.isSome && ltB e.row.1.u (cC (ents.map En.row) h)) = false:=by
   cases hj:h with
   | none=>rfl
   | some j =>
    show ltB e.u (cC (ents.map En.row) (some j)) = false
    obtain ⟨h1,h2,e2,he2,hv2,-,hno⟩:=(hh j).mp hj
    have hr2:(ents.map En.row)[j]? = some e2.row:=by rw [List.getElem?_map,he2];rfl
    rw [dX hr2]
    cases hx:ltB e.u e2.row.1.u with
    | false=>rfl
    | true =>
     have hgo:=held_goal (lo:=lo) hs hk (n:=n + 1) (by omega) (by omega) hel (fun j d a b c=>hkn j d (by omega) b c) hh hj (i:=n) (by omega) (by omega) he (fun m c a b=>by omega) (fun e' he'=>by rw [he2] at he';cases he';exact hx)
     have:=(de hs hgo he2).1 n e hn he hx
     rw [hvis] at this;cases this
  by_cases k0:e.k = 0
  ·refine ⟨none,bw_del hrow hg0 hu (by rw [hq];exact hv) hnb (by rw [hkk];omega),fun j=>⟨(fun h=>nomatch h),?_⟩⟩
   rintro ⟨a,b,d,hd,c1,c2,c3⟩
   rcases Nat.lt_or_ge n j with h5 | h5
   ·rw [c3 n e (Nat.le_refl _) h5 he] at hvis;cases hvis
   ·obtain rfl:j = n:=by omega
    rw [he] at hd;cases hd
    exact absurd k0 c2
  ·refine ⟨some n,bw_put hrow hg0 hu (by rw [hq];exact hv) hnb (by rw [hkk];omega),fun j=>⟨fun h=>?_,?_⟩⟩
   ·cases h
    exact ⟨Nat.le_refl _,hle,e,he,hvis,k0,fun m d a b=>by omega⟩
   ·rintro ⟨a,b,d,hd,c1,c2,c3⟩
    rcases Nat.lt_or_ge n j with h5 | h5
    ·rw [c3 n e (Nat.le_refl _) h5 he] at hvis;cases hvis
    ·obtain rfl:j = n:=by omega
     rfl
 ·have hvis:e.vis upto = false:=decide_eq_false hv
  refine ⟨h,bw_inv hrow hg0 hu (by rw [hq];exact hv),fun j=>?_⟩
  rw [hh j]
  constructor
  ·rintro ⟨a,b,d,hd,c1,c2,c3⟩
   refine ⟨by omega,b,d,hd,c1,c2,fun m f h1 h2 h3=>?_⟩
   rcases Nat.lt_or_ge n m with h5 | h5
   ·exact c3 m f h5 h2 h3
   ·obtain rfl:m = n:=by omega
    rw [he] at h3;cases h3;exact hvis
  ·rintro ⟨a,b,d,hd,c1,c2,c3⟩
   have:n≠j:=fun e9=>by subst e9;rw [he] at hd;cases hd;rw [hvis] at c1;cases c1
   exact ⟨by omega,b,d,hd,c1,c2,fun m f h1 h2 h3=>c3 m f (by omega) h2 h3⟩
theorem held_down (hs:dq ents) (hk:∀ e∈ents,e.k≤2) (hel:edge≤ents.length):∀ (c m:Nat),m + c = edge→stopB ents upto edge lo≤m→(∀ j d,m≤j→j < edge→ents[j]? = some d→d.k≠2) →
  ∃ h,bw lo upto (ents.map En.row) edge none = bw lo upto (ents.map En.row) m h∧HeldOk ents upto edge m h
 | 0,m,hm,_,_=>⟨none,by rw [← hm];rfl,fun j=>⟨(fun h=>nomatch h),fun h=>by omega⟩⟩
 | c + 1,m,hm,hst,hkn=>by
  obtain ⟨h,e1,h1⟩:=held_down hs hk hel c (m + 1) (by omega) (by omega) fun j d a b=>hkn j d (by omega) b
  obtain ⟨h',e2,h2⟩:=held_step hs hk hst (by omega) hel hkn h1
  exact ⟨h',e1.trans e2,h2⟩
theorem stopB_le (hs:dq ents):stopB ents upto edge lo≤edge:=by
 cases hg:cg ents upto edge lo with
 | none=>rw [eI hg];exact Nat.min_le_right _ _
 | some g =>
  obtain ⟨e,he,-,-,-,-,hge,-⟩:=cm hg
  have:=(de hs hg he).2.2
  omega
theorem bw_behind (hs:dq ents) (hk:∀ e∈ents,e.k≤2) (hel:edge≤ents.length):bw lo upto (ents.map En.row) edge none = if (c8 ents upto edge lo).1 = true then none else some (cg ents upto edge lo,stopB ents upto edge lo):=by
 revert ents upto edge lo
 refine no_implicit_lambda% (e4 ?n fun T0=>(?_:bp T0) _ _ _ _)
 case n=>fail "n"
 intro ents upto edge lo
 intros
 clear T0
 have hsl:=stopB_le (ents:=ents) (upto:=upto) (edge:=edge) (lo:=lo) hs
 show _ = if badZ ents (stopB ents upto edge lo - 1) edge = true then none else _
 cases hb:badZ ents (stopB ents upto edge lo - 1) edge with
 | true =>
  rw [if_pos rfl]
  obtain ⟨c,hc⟩:∃ c,c6 (fun i=>hasZ ents (fun e=>e.k == 2) i && decide (stopB ents upto edge lo - 1≤i)) edge = some c:=by
   cases hl:c6 (fun i=>hasZ ents (fun e=>e.k == 2) i && decide (stopB ents upto edge lo - 1≤i)) edge with
   | some c=>exact ⟨c,rfl⟩
   | none =>
    obtain ⟨i,e,a,b,he,d⟩:=eF.mp hb
    have:=eR.mp hl i b
    simp only [bu he] at this
    rw [decide_eq_true a,d] at this
    cases this
  obtain ⟨h1,h2,h3⟩:=df.mp hc
  simp only [Bool.and_eq_true,decide_eq_true_eq] at h2
  obtain ⟨e,he⟩:∃ e,ents[c]? = some e:=⟨_,List.getElem?_eq_getElem (by omega)⟩
  rw [bu he,beq_iff_eq] at h2
  obtain ⟨h,e1,-⟩:=held_down (lo:=lo) (upto:=upto) hs hk hel (edge - (c + 1)) (c + 1) (Nat.add_sub_of_le h1) (by omega) fun j d a b hd k2=>by
   have:=h3 j (by omega) b
   simp only [bu hd] at this
   rw [k2,decide_eq_true (show stopB ents upto edge lo - 1≤j by omega)] at this
   cases this
  rw [e1]
  exact bw_bad (x:=e.row) (by rw [List.getElem?_map,he];rfl) (by rw [tag_k (by omega)];omega)
 | false =>
  rw [if_neg (by decide)]
  have hkn:∀ j d,stopB ents upto edge lo - 1≤j→j < edge→ents[j]? = some d→d.k≠2:=fun j d a b c k2=>by
   rw [eF.mpr ⟨j,d,a,b,c,k2⟩] at hb;cases hb
  obtain ⟨h,e1,hh⟩:=held_down (lo:=lo) (upto:=upto) hs hk hel (edge - stopB ents upto edge lo) (stopB ents upto edge lo) (by omega) (Nat.le_refl _) fun j d a b=>hkn j d (by omega) b
  rw [e1]
  have hgo:h = cg ents upto edge lo:=by
   cases hg:cg ents upto edge lo with
   | some g =>
    obtain ⟨e,he,a1,a2,a3,a4,a5,a6⟩:=cm hg
    obtain ⟨b1,b2,b3⟩:=de hs hg he
    refine (hh g).mpr ⟨b3,a5,e,he,by unfold En.vk at a1;rw [Bool.and_eq_true] at a1;exact a1.1,by omega,fun m d h1 h2 hd=>?_⟩
    cases hv:d.vis upto with
    | false=>rfl
    | true =>
     have h5:=hs.at hd he (by omega)
     cases hx:ltB d.u e.u with
     | true=>rw [b1 m d h1 hd hx] at hv;cases hv
     | false =>
      have e9:=bZ hx h5
      have hd2:=hkn m d (by omega) (by omega) hd
      have hdk:=hk d (List.mem_of_getElem? hd)
      exact absurd e9 (a3 m d h2 hd (by unfold En.vk;rw [hv];simp;omega))
   | none =>
    cases hj:h with
    | none=>rfl
    | some j =>
     exfalso
     obtain ⟨h1,h2,e,he,hv,hk0,hno⟩:=(hh j).mp hj
     rw [eI hg] at h1 hkn hno
     have hek:=hk e (List.mem_of_getElem? he)
     have hk2:=hkn j e (by omega) h2 he
     have hfl:floorZ ents lo≤j:=by omega
     have hnew:bF ents upto j = true:=by
      refine (dF he).mpr ⟨by unfold En.vk;rw [hv];simp;omega,by omega,fun m c hm hc hvk e9=>?_⟩
      have hvc:c.vis upto = true:=by unfold En.vk at hvk;rw [Bool.and_eq_true] at hvk;exact hvk.1
      rcases Nat.lt_or_ge m (min (floorZ ents lo) edge) with a | a
      ·have u1:=(cB (lo:=lo) hs hc).mpr (by omega)
       rw [e9] at u1
       have:=(cB (lo:=lo) hs he).mp u1
       omega
      ·rw [hno m c a hm hc] at hvc;cases hvc
     rw [goalB_none hg j hfl h2] at hnew
     cases hnew
  subst hgo
  generalize hS:stopB ents upto edge lo = S at *
  cases S with
  | zero=>rfl
  | succ p =>
   have hpe:p < edge:=by omega
   obtain ⟨e,he⟩:∃ e,ents[p]? = some e:=⟨_,List.getElem?_eq_getElem (by omega)⟩
   have hrow:(ents.map En.row)[p]? = some e.row:=by rw [List.getElem?_map,he];rfl
   have hek:=hk e (List.mem_of_getElem? he)
   have hk2:=hkn p e (by omega) hpe he
   have hg0:¬ 1 < e.row.1.tag % 256:=by rw [tag_k hek];omega
   cases hu:bP lo e.row.1.u with
   | true=>exact bw_past hrow hg0 hu
   | false =>
    have hfp:floorZ ents lo≤p:=by
     rcases Nat.lt_or_ge p (floorZ ents lo) with a | a
     ·have:=(cB (lo:=lo) hs he).mpr a
      rw [show bP lo e.u = false from hu] at this;cases this
     ·exact a
    cases hg:cg ents upto edge lo with
    | none=>rw [eI hg] at hS;omega
    | some g =>
     obtain ⟨e2,he2,-⟩:=cm hg
     obtain ⟨b1,b2,b3⟩:=de hs hg he2
     rcases b2 with b2 | ⟨i,d,b4,b5,b6,b7,b8⟩
     ·omega
     ·obtain rfl:i = p:=by omega
      rw [he] at b6;cases b6
      exact bw_brk hrow hg0 hu (by rw [tag_q hek];exact of_decide_eq_true b7) (by
       show (true && ltB e.u (cC (ents.map En.row) (some g))) = true
       rw [dX (x:=e2.row) (by rw [List.getElem?_map,he2];rfl)]
       exact b8)
end
end
section
open PySem PySem.W PyProof.Rows
set_option maxHeartbeats 8000000
set_option maxRecDepth 100000
set_option tactic.hygienic false
noncomputable def co (lo:Option (Array UInt8)) (t:Array UInt8):Array UInt8:=match lo with | none=>t | some l=>if ltB t l then l else t
noncomputable def firstPl (R:List Row) (upto:Int) (lo:Option (Array UInt8)):Option Nat:=match lo with | none=>c7 R | some l=>bM R ⟨l,upto.toNat,1⟩
noncomputable def lastLen (R:List Row) (hi:Option (Array UInt8)):Option Nat:=match hi with | none=>eS R | some h=>backOf R (bM R ⟨h,72057594037927935,1⟩)
noncomputable def stepPl (R:List Row) (st:Option Nat):Option Nat:=match st with | none=>c7 R | some i=>dn R i
theorem ok_seek {l:Array UInt8} {upto:Int} (hl:l.size≤1000) (h1:upto < 72057594037927936) (h0:0≤upto):(⟨l,upto.toNat,1⟩:IK).Ok:=⟨by show upto.toNat < _;omega,by show 1 < 256;omega,hl⟩
theorem ok_max {l:Array UInt8} (hl:l.size≤1000):(⟨l,72057594037927935,1⟩:IK).Ok:=⟨by show 72057594037927935 < _;omega,by show 1 < 256;omega,hl⟩
section
variable {w:World} {D:Nat} {C:aN} {u du inner:Addr} {kd:Bool} {R:List Row} {st:Option Nat} {fpi rest:Led} {q:UP} {upto going:Int} {lo hi:Option (Array UInt8)} {tg tsk tsv:Tok} {good:Bool} {sk sv:Array UInt8}
inductive InT (C:aN) (q:UP) (u du inner:Addr) (kd:Bool) (upto:Int) (lo hi:Option (Array UInt8)) (going:Int) (tg:Tok) (good:Bool) (sk:Array UInt8) (tsk:Tok) (sv:Array UInt8) (tsv:Tok) (R:List Row) (fp rest:Led) (st:Option Nat):Flow→MM→Led→Prop
 | mk {m} (fp₁:Led) (e1:m "self" = some (.ref u)) (ha:ak fp₁ fp) (hC:C fp₁ rest inner kd R st):InT C q u du inner kd upto lo hi going tg good sk tsk sv tsv R fp rest st .next m ((du,UD q inner upto lo hi going tg good sk tsk sv tsv)::(fp₁++rest))
theorem uvalid_c {T:Led} (m1:(u,instObj 611 du)∈T):am w (D + 1) 531 [.ref u] [(du,UD q inner upto lo hi going tg good sk tsk sv tsv)] T (fun r fp'=>r = .bool good∧fp' = [(du,UD q inner upto lo hi going tg good sk tsk sv tsv)]):=by
 refine' ai (binds:=[("self",.ref u)]) ?ho ?hcd ?hb ?hl ?c1 ?c2 ?c3 ?c4 ?_
 fail "e"
 intro bb ok φ kφ
 exact aZ (ag ok rfl (.tail _ m1) (.head _) rfl rfl (by fail "p") nofun (by fail "q") nofun rfl rfl rfl rfl) fun v hv=>kφ (.ret v) _ _ ⟨hv,rfl⟩
theorem uneed_c {T:Led} (m1:(u,instObj 611 du)∈T):am w (D + 1) 538 [.ref u] [(du,UD q inner upto lo hi going tg true sk tsk sv tsv)] T (fun r fp'=>fp' = [(du,UD q inner upto lo hi going tg true sk tsk sv tsv)]):=by
 refine' ai (binds:=[("self",.ref u)]) ?ho ?hcd ?hb ?hl ?c1 ?c2 ?c3 ?c4 ?_
 fail "e"
 intro bb ok φ kφ
 exact aH (dJ (bt (ag ok rfl (.tail _ m1) (.head _) rfl rfl (by fail "p") nofun (by fail "q") nofun rfl rfl rfl rfl) rfl)) (fun h=>by cases h) fun O=>ae (kφ .next _ _ rfl)
theorem ukey1_c {T:Led} (m1:(u,instObj 611 du)∈T):am w (D + 1 + 1) 601 [.ref u] [(du,UD q inner upto lo hi 1 tg true sk tsk sv tsv)] T (fun r fp'=>IsB sk r∧fp' = [(du,UD q inner upto lo hi 1 tg true sk tsk sv tsv)]):=by
 refine' ai (binds:=[("self",.ref u)]) ?ho ?hcd ?hb ?hl ?c1 ?c2 ?c3 ?c4 ?_
 fail "e"
 intro bb ok φ kφ
 refine aO (lm0 ok decl_name% (aw ok (.tail _ m1) (.head _) rfl nofun nofun nofun) (aX ok rfl (Nat.le_refl _) (uneed_c (D:=D) m1) (fun O h=>h) fun r fp' hp=>?_) nofun rfl) rfl rfl
 subst hp
 exact aH (bn (Px.mono (ag ok rfl (.tail _ m1) (.head _) rfl rfl (by fail "p") nofun (by fail "q") nofun rfl rfl rfl rfl) isI) (au ok nofun rfl rfl rfl) rfl) (fun h=>aZ (Px.mono (ag ok rfl (.tail _ m1) (.head _) rfl rfl (by fail "p") nofun (by fail "q") nofun rfl rfl rfl rfl) isB) fun v hv=>kφ (.ret v) _ [_] ⟨hv,rfl⟩) fun h=>by cases h
theorem uvalue1_c {T:Led} (m1:(u,instObj 611 du)∈T):am w (D + 1 + 1) 608 [.ref u] [(du,UD q inner upto lo hi 1 tg true sk tsk sv tsv)] T (fun r fp'=>IsB sv r∧fp' = [(du,UD q inner upto lo hi 1 tg true sk tsk sv tsv)]):=by
 refine' ai (binds:=[("self",.ref u)]) ?ho ?hcd ?hb ?hl ?c1 ?c2 ?c3 ?c4 ?_
 fail "e"
 intro bb ok φ kφ
 refine aO (lm0 ok decl_name% (aw ok (.tail _ m1) (.head _) rfl nofun nofun nofun) (aX ok rfl (Nat.le_refl _) (uneed_c (D:=D) m1) (fun O h=>h) fun r fp' hp=>?_) nofun rfl) rfl rfl
 subst hp
 exact aH (bn (Px.mono (ag ok rfl (.tail _ m1) (.head _) rfl rfl (by fail "p") nofun (by fail "q") nofun rfl rfl rfl rfl) isI) (au ok nofun rfl rfl rfl) rfl) (fun h=>aZ (Px.mono (ag ok rfl (.tail _ m1) (.head _) rfl rfl (by fail "p") nofun (by fail "q") nofun rfl rfl rfl rfl) isB) fun v hv=>kφ (.ret v) _ [_] ⟨hv,rfl⟩) fun h=>by cases h
theorem ukey0_c {j:Nat} {x:Row} (S:al w D C) (hC:C fpi rest inner kd R (some j)) (m1:(u,instObj 611 du)∈rest) (hx:R[j]? = some x):am w (D + 3 + 1) 601 [.ref u] ((du,UD q inner upto lo hi 0 tg true sk tsk sv tsv)::fpi) rest (fun r fp'=>IsB x.1.u r∧fp' = (du,UD q inner upto lo hi 0 tg true sk tsk sv tsv)::fpi):=by
 have hxo:x.1.Ok:=S.ok hC _ (List.mem_of_getElem? hx)
 have q1:(u,instObj 611 du)∈fpi++rest:=aR m1
 refine' ai (binds:=[("self",.ref u)]) ?ho ?hcd ?hb ?hl ?c1 ?c2 ?c3 ?c4 ?_
 fail "e"
 intro bb ok φ kφ
 refine aO (lm0 ok decl_name% (aw ok (.tail _ q1) (.head _) rfl nofun nofun nofun) (aX (rest:=fpi++rest) ok rfl (by omega) (uneed_c (D:=D) q1) (fun O h=>h) fun r fp' hp=>?_) nofun rfl) rfl rfl
 subst hp
 refine aH (bn (Px.mono (ag ok rfl (.tail _ q1) (.head _) rfl rfl (by fail "p") nofun (by fail "q") nofun rfl rfl rfl rfl) isI) (au ok nofun rfl rfl rfl) rfl) (fun h=>by cases h) fun O=>?_
 refine aZ (pf1 (P:=IsB x.1.u) ok (ao ok nofun rfl rfl rfl) (az (px_ikey ok S hC hx rfl q1 (fun O h=>h) rfl rfl (by omega) rfl) rfl) (fun vs hvs=>?_) nofun rfl rfl rfl) fun v hv=>kφ (.ret v) _ ((du,_)::_) ⟨hv,rfl⟩
 obtain ⟨v,rfl,t,rfl⟩:=hvs
 exact ar ok (en hxo) (fun r fp' h=>h) (fun O h=>nomatch h) rfl (by omega)
theorem uvalue0_c {j:Nat} {x:Row} (S:al w D C) (hC:C fpi rest inner kd R (some j)) (m1:(u,instObj 611 du)∈rest) (hx:R[j]? = some x):am w (D + 3 + 1) 608 [.ref u] ((du,UD q inner upto lo hi 0 tg true sk tsk sv tsv)::fpi) rest (fun r fp'=>IsB x.2 r∧fp' = (du,UD q inner upto lo hi 0 tg true sk tsk sv tsv)::fpi):=by
 have q1:(u,instObj 611 du)∈fpi++rest:=aR m1
 refine' ai (binds:=[("self",.ref u)]) ?ho ?hcd ?hb ?hl ?c1 ?c2 ?c3 ?c4 ?_
 fail "e"
 intro bb ok φ kφ
 refine aO (lm0 ok decl_name% (aw ok (.tail _ q1) (.head _) rfl nofun nofun nofun) (aX (rest:=fpi++rest) ok rfl (by omega) (uneed_c (D:=D) q1) (fun O h=>h) fun r fp' hp=>?_) nofun rfl) rfl rfl
 subst hp
 refine aH (bn (Px.mono (ag ok rfl (.tail _ q1) (.head _) rfl rfl (by fail "p") nofun (by fail "q") nofun rfl rfl rfl rfl) isI) (au ok nofun rfl rfl rfl) rfl) (fun h=>by cases h) fun O=>?_
 exact aZ (px_ivalue ok S hC hx rfl q1 (fun O h=>h) rfl rfl (by omega) rfl) fun v hv=>kφ (.ret v) _ ((du,_)::_) ⟨hv,rfl⟩
theorem zs_while {w:World} {F:FnC} {b:Bx} {k:XK} {Cx:Addr} {m:MM} {led:Led} {pos:Pos} {χ:MM→Led→Prop} {φ:FP} {env:Env} {test:Expr} {body rest:List Stmt} (J:Nat→MM→Led→Prop) (X:MM→Led→Prop) (n₀:Nat) (hJ:J n₀ m led)
  (turn:∀ n m₁ led₁,J n m₁ led₁→∀ Φ:FP,(∀ n' m' led',n' < n→J n' m' led'→Φ .next m' led')→(∀ n' m' led',n' < n→J n' m' led'→Φ .cont m' led')→(∀ m' led',X m' led'→Φ .brk m' led')→(∀ v m' led',φ (.ret v) m' led'→Φ (.ret v) m' led') →
   ∃ c,Px w F b (isTrue test env (eval test env)) (fun a=>a = c) m₁ led₁∧(c = true→Lx w F b (execs body env) Φ m₁ led₁)∧(c = false→X m₁ led₁))
  (hX:∀ m' led',X m' led'→Lz k w F b (execs rest env) Cx χ φ m' led'):Lz k w F b (execs (.While test body [] pos::rest) env) Cx χ φ m led :=
 cL (lx_whileG J n₀ hJ fun n m₁ led₁ j Φ h1 h2 h3 h4=>by
  obtain ⟨c,a,b,d⟩:=turn n m₁ led₁ j Φ h1 h2 (fun m' led' h=>h3 m' led' (hX _ _ h)) (fun v m' led' h=>h4 v m' led' h)
  exact ⟨c,a,b,fun e=>hX _ _ (d e)⟩)
theorem zx_uneed {F:FnC} {b:Bx} {m:MM} {k:XK} {Cx:Addr} {χ:MM→Led→Prop} {φ:FP} {pl:Sem Bool} {xp ap pos:Pos} {stmts:List Stmt} {T:Led} (ok:Okx w D b) (m1:(u,instObj 611 du)∈T) (e1:m "self" = some (.ref u)) (hq:Lz k w F b (execs stmts (evx F b)) Cx χ φ m ((du,UD q inner upto lo hi going tg true sk tsk sv tsv)::T)) (hk:F.cs.kind = .function) (hx:(evx F b).kindOf "self" = some .local) (hD:1≤D) (hia:interactive (evx F b) = false)
  (hs:swapsWith (.Call (.Attribute (.Name "self" xp) "need" ap) [] [] pos) none pos.line (evx F b) = pure false) (he:eval (.Call (.Attribute (.Name "self" xp) "need" ap) [] [] pos) (evx F b) = (do
   let ov ← eval (.Name "self" xp) (evx F b)
   standAt ap.atName
   let (f,first) ← holding [ov] (getMethod ov "need" pl)
   callWith pos f first (backTo pos (starEach [] (evx F b))) [])):Lz k w F b (execs (.Expr (.Call (.Attribute (.Name "self" xp) "need" ap) [] [] pos) pos::stmts) (evx F b)) Cx χ φ m ((du,UD q inner upto lo hi going tg true sk tsk sv tsv)::T):=by
 refine cL (lx_expr (lm0 ok (af e1 hk hx rfl) (aw ok (.tail _ m1) (.head _) rfl nofun nofun nofun) (aX ok hk hD (uneed_c (D:=0) m1) (fun O h=>h) fun r fp' hp=>?_) nofun he) hia hs)
 subst hp
 exact hq
theorem px_uok {F:FnC} {b:Bx} {m:MM} {D' i:Nat} {y:Row} {fp T:Led} {pl:Sem Bool} {np xp ap ap2 pos pos2:Pos} (ok:Okx w D' b) (S:al w D C) (hC:C fp rest inner kd R (some i)) (hy:R[i]? = some y) (e1:m "self" = some (.ref u)) (m1:(u,instObj 611 du)∈T) (hT:∀ p∈fp++rest,p∈T) (hk:F.cs.kind = .function) (hx:(evx F b).kindOf "self" = some .local) (hxg:(evx F b).kindOf "user_of" = some .globalImplicit) (hD:D + 1≤D')
  (he:eval (.Call (.Attribute (.Attribute (.Name "self" xp) "inner" ap) "key" ap2) [] [] pos) (evx F b) = (do
   let ov ← eval (.Attribute (.Name "self" xp) "inner" ap) (evx F b)
   standAt ap2.atName
   let (f,first) ← holding [ov] (getMethod ov "key" pl)
   callWith pos f first (backTo pos (starEach [] (evx F b))) []))
  (ha:starEach [.Call (.Attribute (.Attribute (.Name "self" xp) "inner" ap) "key" ap2) [] [] pos] (evx F b) = (false,eval (.Call (.Attribute (.Attribute (.Name "self" xp) "inner" ap) "key" ap2) [] [] pos) (evx F b))::starEach [] (evx F b))
  (he2:eval (.Call (.Name "user_of" np) [.Call (.Attribute (.Attribute (.Name "self" xp) "inner" ap) "key" ap2) [] [] pos] [] pos2) (evx F b) = (do callWith pos2 (← eval (.Name "user_of" np) (evx F b)) [] (backTo pos2 (starEach [.Call (.Attribute (.Attribute (.Name "self" xp) "inner" ap) "key" ap2) [] [] pos] (evx F b))) (backToKw pos2 (keywordEach [] (evx F b))))) :
  Px w F b (eval (.Call (.Name "user_of" np) [.Call (.Attribute (.Attribute (.Name "self" xp) "inner" ap) "key" ap2) [] [] pos] [] pos2) (evx F b)) (IsB y.1.u) m ((du,UD q inner upto lo hi going tg good sk tsk sv tsv)::T) :=
 pf1 ok (ao ok nofun hk hxg rfl) (az (px_ikey ok S hC hy e1 m1 hT hk hx (by omega) he) ha) (fun vs hvs=>by
  obtain ⟨v,rfl,t,rfl⟩:=hvs
  exact ar ok (en (S.ok hC _ (List.mem_of_getElem? hy))) (fun r fp' h=>h) (fun O h=>nomatch h) hk (by omega)) nofun ha rfl he2
theorem em {F:FnC} {b:Bx} {A:Int} {tgb:Tok} {m:MM} {χ:MM→Led→Prop} {φ:FP} {fp':Led} {st':Option Nat} {xp ap pos cp:Pos} {k} {D':Nat} {pl:Sem Bool} (ok:Okx w D' b) (hcl:b.cl = []) (S:al w D C) (hC:C fp' rest inner kd R st') (offi:Off fp' rest) (offd:∀ p∈fp'++rest,p.1≠du) (m1:(u,instObj 611 du)∈rest) (hkd:∀ x∈R,x.1.tag % 256≤2) (ha:ak fp' fpi)
  (b0:Bool) (r0:Option (Option Nat)) (hr0:fw hi upto (R.drop (aQ R st')) (aQ R st') (if b0 then some sk else none) = r0) (e1:m "self" = some (.ref u)) (hx:∀ fp₂,XoP C q du inner kd upto lo hi R fpi rest r0 fp₂→χ m (fp₂++rest)) (hq:∀ fp₂,GvP r0 (FfP C q du inner kd upto lo hi A tgb R fpi rest) .none fp₂→φ .next m (fp₂++rest)) (hk:F.cs.kind = .function) (hxl:(evx F b).kindOf "self" = some .local) (hD:D + 6≤D') (hia:interactive (evx F b) = false)
  (hs:swapsWith (.Call (.Attribute (.Name "self" xp) "find_forward" ap) [.Constant (.bool b0) k cp] [] pos) none pos.line (evx F b) = pure false)
  (he:eval (.Call (.Attribute (.Name "self" xp) "find_forward" ap) [.Constant (.bool b0) k cp] [] pos) (evx F b) = (do
   let ov ← eval (.Name "self" xp) (evx F b)
   standAt ap.atName
   let (f,first) ← holding [ov] (getMethod ov "find_forward" pl)
   callWith pos f first (backTo pos (starEach [.Constant (.bool b0) k cp] (evx F b))) []))
  (hse:starEach [.Constant (.bool b0) k cp] (evx F b) = (false,eval (.Constant (.bool b0) k cp) (evx F b))::starEach [] (evx F b)) :
  Lz .fly w F b (execs [.Expr (.Call (.Attribute (.Name "self" xp) "find_forward" ap) [.Constant (.bool b0) k cp] [] pos) pos] (evx F b)) 56 χ φ m ((du,UD q inner upto lo hi A tgb false sk tsk sv tsv)::(fp'++rest)):=by
 have q1:(u,instObj 611 du)∈fp'++rest:=aR m1
 refine bd (dw (lz_m1 ok (af e1 hk hxl rfl) (aw ok (.tail _ q1) (.head _) rfl nofun nofun nofun) (az bX hse) (ar1 ?_) nofun hse rfl he) hia hs)
 refine eO ok hcl (ff_c (b0:=b0) S hC offi offd m1 hkd r0 hr0) hk hD (fun O h=>h) (fun fp₂ hp=>?_) fun r fp' hp=>?_
 ·obtain ⟨hn,going,tg,sk,sv,tk,tv,fp₁,st,ha2,hC2⟩:=hp
  exact hx (_::_) ⟨hn,.mk going tg sk sv tk tv fp₁ st (ha2.trans ha) hC2⟩
 ·obtain ⟨a,h0,fp₂,st₂,ta,tb,ha2,hC2,hs⟩:=hp
  exact (ae (hq (_::_) ⟨a,h0,.mk fp₂ st₂ ta tb (ha2.trans ha) hC2 hs⟩)).lz
theorem zback_end {F:FnC} {b:Bx} {m:MM} {χ:MM→Led→Prop} {φ:FP} {fp':Led} {st':Option Nat} {xp ap pos:Pos} {D':Nat} {pl:Sem Bool} (ok:Okx w D' b) (hcl:b.cl = []) (S:al w D C) (hC:C fp' rest inner kd R st') (offi:Off fp' rest) (offd:∀ p∈fp'++rest,p.1≠du) (m1:(u,instObj 611 du)∈rest) (hkd:∀ x∈R,x.1.tag % 256≤2) (ha:ak fp' fpi)
  (r0:Option (Option Nat × Nat)) (hr0:bw lo upto R (dY st') none = r0) (e1:m "self" = some (.ref u)) (hx:∀ fp₂,XoP C q du inner kd upto lo hi R fpi rest r0 fp₂→χ m (fp₂++rest)) (hq:∀ fp₂,GvP r0 (FbP C q du inner kd upto lo hi R fpi rest) .none fp₂→φ .next m (fp₂++rest)) (hk:F.cs.kind = .function) (hxl:(evx F b).kindOf "self" = some .local) (hD:D + 6≤D') (hia:interactive (evx F b) = false)
  (hs:swapsWith (.Call (.Attribute (.Name "self" xp) "find_backward" ap) [] [] pos) none pos.line (evx F b) = pure false)
  (he:eval (.Call (.Attribute (.Name "self" xp) "find_backward" ap) [] [] pos) (evx F b) = (do
   let ov ← eval (.Name "self" xp) (evx F b)
   standAt ap.atName
   let (f,first) ← holding [ov] (getMethod ov "find_backward" pl)
   callWith pos f first (backTo pos (starEach [] (evx F b))) [])) :
  Lz .fly w F b (execs [.Expr (.Call (.Attribute (.Name "self" xp) "find_backward" ap) [] [] pos) pos] (evx F b)) 56 χ φ m ((du,UD q inner upto lo hi going tg good sk tsk sv tsv)::(fp'++rest)):=by
 have q1:(u,instObj 611 du)∈fp'++rest:=aR m1
 refine bd (dw (lz_m0 ok (af e1 hk hxl rfl) (aw ok (.tail _ q1) (.head _) rfl nofun nofun nofun) (eO ok hcl (fb_c S hC offi offd m1 hkd r0 hr0) hk hD (fun O h=>h) (fun fp₂ hp=>?_) fun r fp' hp=>?_) nofun he) hia hs)
 ·obtain ⟨hn,going,tg,sk,sv,tk,tv,fp₁,st,ha2,hC2⟩:=hp
  exact hx (_::_) ⟨hn,.mk going tg sk sv tk tv fp₁ st (ha2.trans ha) hC2⟩
 ·obtain ⟨a,h0,fp₂,t,ta,tb,ha2,hC2⟩:=hp
  exact (ae (hq (_::_) ⟨a,h0,.mk fp₂ t ta tb (ha2.trans ha) hC2⟩)).lz
theorem ufirst_c (S:al w D C) (hC:C fpi rest inner kd R st) (offi:Off fpi rest) (offd:∀ p∈fpi++rest,p.1≠du) (m1:(u,instObj 611 du)∈rest) (hkd:∀ x∈R,x.1.tag % 256≤2) (r0:Option (Option Nat)) (hr0:fw hi upto (R.drop (aQ R (firstPl R upto lo))) (aQ R (firstPl R upto lo)) none = r0) (hup0:0≤upto) (hup1:upto < 72057594037927936) (hlo:∀ b,lo = some b→b.size≤1000) :
  bc w (D + 9 + 1) 552 [.ref u] ((du,UD q inner upto lo hi going tg good sk tsk sv tsv)::fpi) rest 56 (XoP C q du inner kd upto lo hi R fpi rest r0) (GvP r0 fun a v fp'=>∃ tgb,FfP C q du inner kd upto lo hi 0 tgb R fpi rest a v fp'):=by
 revert S hC offi offd m1 hkd hr0 hup0 hup1 hlo
 revert w D C u du inner kd R st fpi rest q upto going lo hi tg tsk tsv good sk sv r0
 refine no_implicit_lambda% (aW ?_)
 refine no_implicit_lambda% (e24 ?n fun T0=>(?_:bp T0) () _ _ _ _ _ _ _ _ _ _ _ _ _ _ _ _ _ _ _ _ _ _ _)
 case n=>fail "n"
 intro O w D C u du inner kd R st fpi rest q upto going lo hi tg tsk tsv good sk sv r0
 intros
 clear T0
 have q1:(u,instObj 611 du)∈fpi++rest:=aR m1
 refine' bB .fly (binds:=[("self",.ref u)]) ?ho ?hcd ?hb ?hl ?c1 ?c2 ?c3 ?c4 ?_
 fail "e"
 intro bb ok hcl φ χ kφ xφ
 refine cL (ev ok q1 offd rfl (au ok nofun rfl rfl rfl) (fun tgb=>?_) rfl rfl rfl rfl)
 refine zx_forget ok q1 offd rfl (fun ta tb=>?_) rfl rfl (by omega) rfl rfl rfl
 refine lz_ifj (InT C q u du inner kd upto lo hi 0 tgb false #[] ta #[] tb R fpi rest (firstPl R upto lo)) (pc_is (Px.mono (ag ok rfl (.tail _ q1) (.head _) rfl dS (by fail "p") nofun (by fail "q") nofun rfl rfl rfl rfl) dC) bQ rfl) (fun hl ψ kψ=>?_) (fun hl ψ kψ=>?_) (fun m' led' h=>?_) fun f m' led' hf=>?_
 ·obtain rfl:lo = none:=by cases lo with | none=>rfl | some l=>cases hl
  refine eo (mn:=.first) ok S hC offi offd rfl m1 (fun a b=>S.first hC a b) (fun fp' ha2 hC2=>?_) rfl rfl (by omega) rfl rfl rfl
  exact ae (kψ .next _ _ (.mk fp' rfl ha2 hC2))
 ·obtain ⟨lb,rfl⟩:∃ lb,lo = some lb:=by cases lo with | none=>cases hl | some l=>exact ⟨l,rfl⟩
  have hlb:=hlo _ rfl
  refine aO (lm1 ok (ag ok rfl (.tail _ q1) (.head _) rfl rfl (by fail "p") nofun (by fail "q") nofun rfl rfl rfl rfl) (bD ok S hC (fun p hp=>.tail _ hp) .seek) (az (pf1 (P:=IsB (ikb ⟨lb,upto.toNat,1⟩)) ok (ao ok nofun rfl rfl rfl) (bY (Px.mono (ag ok rfl (.tail _ q1) (.head _) rfl rfl (by fail "p") nofun (by fail "q") nofun rfl rfl rfl rfl) (bnd_isB rfl)) (Px.mono (ag ok rfl (.tail _ q1) (.head _) rfl rfl (by fail "p") nofun (by fail "q") nofun rfl rfl rfl rfl) isI) (au ok nofun rfl rfl rfl) rfl rfl rfl) (fun vs hvs=>?_) nofun rfl rfl rfl) rfl) (fun vs hvs=>?_) (aP _ _ _) rfl rfl rfl) rfl rfl
  ·obtain ⟨_,_,_,rfl,⟨t,rfl⟩,⟨t',rfl⟩,⟨t2,rfl⟩⟩:=hvs
   exact ar ok (mkik_c hup0 hup1 hlb) (fun r fp' h=>h) (fun O h=>nomatch h) rfl (by omega)
  ·obtain ⟨_,rfl,⟨t,rfl⟩⟩:=hvs
   refine lx_inner (D':=D) ok rfl (by omega) offi offd (fun a b=>S.seek hC a b (ok_seek hlb hup1 hup0)) fun fp' ha2 hC2=>?_
   exact ae (kψ .next _ _ (.mk fp' rfl ha2 hC2))
 ·obtain ⟨fp₁,e1,ha,hC1⟩:=h
  have q1:(u,instObj 611 du)∈fp₁++rest:=aR m1
  exact em ok hcl S hC1 (offi.adr ha) (bN offd ha) m1 hkd ha false r0 hr0 e1 xφ (fun fp₂ h=>kφ .next _ fp₂ (by obtain ⟨a,h0,h⟩:=h;exact ⟨a,h0,tgb,h⟩)) rfl rfl (by omega) rfl rfl rfl rfl
 ·intro h;cases h
  exact absurd rfl hf
inductive TgT (u:Addr) (T:Array UInt8) (led:Led):Flow→MM→Led→Prop
 | mk {m} (t:Tok) (e1:m "self" = some (.ref u)) (e2:m "target" = some (.bytes T t)):TgT u T led .next m led
theorem useek_c {tgt:Array UInt8} {tt:Tok} (S:al w D C) (hC:C fpi rest inner kd R st) (offi:Off fpi rest) (offd:∀ p∈fpi++rest,p.1≠du) (m1:(u,instObj 611 du)∈rest) (hkd:∀ x∈R,x.1.tag % 256≤2) (hup0:0≤upto) (hup1:upto < 72057594037927936) (hlo:∀ b,lo = some b→b.size≤1000) (htgt:tgt.size≤1000) (r0:Option (Option Nat)) (hr0:fw hi upto (R.drop (aQ R (bM R ⟨co lo tgt,upto.toNat,1⟩))) (aQ R (bM R ⟨co lo tgt,upto.toNat,1⟩)) none = r0) :
  bc w (D + 9 + 1) 559 [.ref u,.bytes tgt tt] ((du,UD q inner upto lo hi going tg good sk tsk sv tsv)::fpi) rest 56 (XoP C q du inner kd upto lo hi R fpi rest r0) (GvP r0 fun a v fp'=>∃ tgb,FfP C q du inner kd upto lo hi 0 tgb R fpi rest a v fp'):=by
 revert S hC offi offd m1 hkd hup0 hup1 hlo htgt hr0
 revert w D C u du inner kd R st fpi rest q upto going lo hi tg tsk tsv good sk sv tgt tt r0
 refine no_implicit_lambda% (aW ?_)
 refine no_implicit_lambda% (aW ?_)
 refine no_implicit_lambda% (aW ?_)
 refine no_implicit_lambda% (e28 ?n fun T0=>(?_:bp T0) () () () _ _ _ _ _ _ _ _ _ _ _ _ _ _ _ _ _ _ _ _ _ _ _ _ _)
 case n=>fail "n"
 intro O O O w D C u du inner kd R st fpi rest q upto going lo hi tg tsk tsv good sk sv tgt tt r0
 intros
 clear T0
 have q1:(u,instObj 611 du)∈fpi++rest:=aR m1
 have hcl2:(co lo tgt).size≤1000:=by
  cases lo with
  | none=>exact htgt
  | some l =>
   show (if ltB tgt l = true then l else tgt).size≤1000
   split
   ·exact hlo _ rfl
   ·exact htgt
 refine' bB .fly (binds:=[("self",.ref u),("target",.bytes tgt tt)]) ?ho ?hcd ?hb ?hl ?c1 ?c2 ?c3 ?c4 ?_
 fail "e"
 intro bb ok hcl φ χ kφ xφ
 refine lz_ifj (TgT u (co lo tgt) ((du,UD q inner upto lo hi going tg good sk tsk sv tsv)::(fpi++rest))) (ck (dK (Px.mono (ag ok rfl (.tail _ q1) (.head _) rfl dS (by fail "p") nofun (by fail "q") nofun rfl rfl rfl rfl) dC) bQ rfl) (c2:=match lo with | none=>false | some l=>ltB tgt l) fun e=>?_) (fun hl ψ kψ=>?_) (fun hl ψ kψ=>ae (kψ .next _ _ ?_)) (fun m' led' h=>?_) fun f m' led' hf=>?_
 ·obtain ⟨lb,rfl⟩:=Option.isSome_iff_exists.mp e
  exact pc_ltB (Px.mono decl_name% isB) (Px.mono (ag ok rfl (.tail _ q1) (.head _) rfl rfl (by fail "p") nofun (by fail "q") nofun rfl rfl rfl rfl) (bnd_isB rfl)) rfl
 ·obtain ⟨lb,rfl⟩:∃ lb,lo = some lb:=by cases lo with | none=>cases hl | some l=>exact ⟨l,rfl⟩
  have hl2:ltB tgt lb = true:=hl
  refine aD (Px.mono (ag ok rfl (.tail _ q1) (.head _) rfl rfl (by fail "p") nofun (by fail "q") nofun rfl rfl rfl rfl) (bnd_isB rfl)) (fun v hv=>?_) rfl rfl rfl
  obtain ⟨t,rfl⟩:=hv
  have e:co (some lb) tgt = lb:=if_pos hl2
  exact ae (kψ .next _ _ (.mk t rfl (by rw [e];rfl)))
 ·have e:co lo tgt = tgt:=by
   cases lo with
   | none=>rfl
   | some l=>exact if_neg (by have:ltB tgt l = false:=hl;rw [this];decide)
  rw [e]
  exact .mk tt rfl rfl
 ·obtain ⟨t,e1,e2⟩:=h
  refine cL (ev ok q1 offd e1 (au ok nofun rfl rfl rfl) (fun tgb=>?_) rfl rfl rfl rfl)
  refine zx_forget ok q1 offd e1 (fun ta tb=>?_) rfl rfl (by omega) rfl rfl rfl
  refine cL (lx_expr (lm1 ok (ag ok e1 (.tail _ q1) (.head _) rfl rfl (by fail "p") nofun (by fail "q") nofun rfl rfl rfl rfl) (bD ok S hC (fun p hp=>.tail _ hp) .seek) (az (pf1 (P:=IsB (ikb ⟨co lo tgt,upto.toNat,1⟩)) ok (ao ok nofun rfl rfl rfl) (bY (Px.mono (af e2 rfl rfl rfl) isB) (Px.mono (ag ok e1 (.tail _ q1) (.head _) rfl rfl (by fail "p") nofun (by fail "q") nofun rfl rfl rfl rfl) isI) (au ok nofun rfl rfl rfl) rfl rfl rfl) (fun vs hvs=>?_) nofun rfl rfl rfl) rfl) (fun vs hvs=>?_) (aP _ _ _) rfl rfl rfl) rfl rfl)
  ·obtain ⟨_,_,_,rfl,⟨t,rfl⟩,⟨t',rfl⟩,⟨t2,rfl⟩⟩:=hvs
   exact ar ok (mkik_c hup0 hup1 hcl2) (fun r fp' h=>h) (fun O h=>nomatch h) rfl (by omega)
  ·obtain ⟨_,rfl,⟨t,rfl⟩⟩:=hvs
   refine lx_inner (D':=D) ok rfl (by omega) offi offd (fun a b=>S.seek hC a b (ok_seek hcl2 hup1 hup0)) fun fp₁ ha hC1=>?_
   exact em ok hcl S hC1 (offi.adr ha) (bN offd ha) m1 hkd ha false r0 hr0 e1 xφ (fun fp₂ h=>kφ .next _ fp₂ (by obtain ⟨a,h0,h⟩:=h;exact ⟨a,h0,tgb,h⟩)) rfl rfl (by omega) rfl rfl rfl rfl
 ·intro h;cases h
  exact absurd rfl hf
theorem ustep0_c {j:Nat} {y:Row} (S:al w D C) (hC:C fpi rest inner kd R (some j)) (offi:Off fpi rest) (offd:∀ p∈fpi++rest,p.1≠du) (m1:(u,instObj 611 du)∈rest) (hkd:∀ x∈R,x.1.tag % 256≤2) (r0:Option (Option Nat)) (hr0:fw hi upto (R.drop (aQ R (dn R j))) (aQ R (dn R j)) (some y.1.u) = r0) (hy:R[j]? = some y) :
  bc w (D + 9 + 1) 587 [.ref u] ((du,UD q inner upto lo hi 0 tg true sk tsk sv tsv)::fpi) rest 56 (XoP C q du inner kd upto lo hi R fpi rest r0) (GvP r0 (FfP C q du inner kd upto lo hi 0 tg R fpi rest)):=by
 have q1:(u,instObj 611 du)∈fpi++rest:=aR m1
 refine' bB .fly (binds:=[("self",.ref u)]) ?ho ?hcd ?hb ?hl ?c1 ?c2 ?c3 ?c4 ?_
 fail "e"
 intro bb ok hcl φ χ kφ xφ
 refine zx_uneed ok q1 rfl ?_ rfl rfl (by omega) rfl rfl rfl
 refine cL (dP ok q1 offd rfl bX ?_ rfl rfl rfl rfl)
 refine bd (dN (bn (Px.mono (ag ok rfl (.tail _ q1) (.head _) rfl rfl (by fail "p") nofun (by fail "q") nofun rfl rfl rfl rfl) isI) (au ok nofun rfl rfl rfl) rfl) (fun h=>by cases h) fun O=>?_)
 refine cL (lx_skeyP ok q1 offd rfl (px_uok ok S hC hy rfl q1 (fun O h=>h) rfl rfl rfl (by omega) rfl rfl rfl) (fun t=>?_) rfl rfl rfl rfl)
 refine zx_imove (mn:=.step) ok S hC offi offd rfl m1 (fun a b=>S.step hC a b) (fun fp' ha hC2=>?_) rfl rfl (by omega) rfl rfl rfl
 exact Lx.lz (ae (φ:=kz _ _ _ _ _ _ _ _ _) (em ok hcl S hC2 (offi.adr ha) (bN offd ha) m1 hkd ha true r0 hr0 rfl xφ (fun fp₂ h=>kφ .next _ fp₂ h) rfl rfl (by omega) rfl rfl rfl rfl))
theorem ustep1_c (S:al w D C) (hC:C fpi rest inner kd R st) (offi:Off fpi rest) (offd:∀ p∈fpi++rest,p.1≠du) (m1:(u,instObj 611 du)∈rest) (hkd:∀ x∈R,x.1.tag % 256≤2) (r0:Option (Option Nat)) (hr0:fw hi upto (R.drop (aQ R (stepPl R st))) (aQ R (stepPl R st)) (some sk) = r0) :
  bc w (D + 9 + 1) 587 [.ref u] ((du,UD q inner upto lo hi 1 tg true sk tsk sv tsv)::fpi) rest 56 (XoP C q du inner kd upto lo hi R fpi rest r0) (GvP r0 fun a v fp'=>∃ tgb,FfP C q du inner kd upto lo hi 0 tgb R fpi rest a v fp'):=by
 have q1:(u,instObj 611 du)∈fpi++rest:=aR m1
 refine' bB .fly (binds:=[("self",.ref u)]) ?ho ?hcd ?hb ?hl ?c1 ?c2 ?c3 ?c4 ?_
 fail "e"
 intro bb ok hcl φ χ kφ xφ
 refine zx_uneed ok q1 rfl ?_ rfl rfl (by omega) rfl rfl rfl
 refine cL (dP ok q1 offd rfl bX ?_ rfl rfl rfl rfl)
 refine bd (dN (bn (Px.mono (ag ok rfl (.tail _ q1) (.head _) rfl rfl (by fail "p") nofun (by fail "q") nofun rfl rfl rfl rfl) isI) (au ok nofun rfl rfl rfl) rfl) (fun O=>?_) (fun h=>by cases h))
 refine cL (ev ok q1 offd rfl (au ok nofun rfl rfl rfl) (fun tgb=>?_) rfl rfl rfl rfl)
 refine bd (dN (bt (dD ok S hC rfl q1 (fun O h=>h) rfl rfl (by omega) rfl) rfl) (fun hc=>?_) fun hc=>?_)
 ·obtain ⟨j,rfl⟩:=Option.isSome_iff_exists.mp hc
  refine zx_imove (mn:=.step) ok S hC offi offd rfl m1 (fun a b=>S.step hC a b) (fun fp' ha hC2=>?_) rfl rfl (by omega) rfl rfl rfl
  exact Lx.lz (ae (φ:=kz _ _ _ _ _ _ _ _ _) (Lx.lz (ae (φ:=kz _ _ _ _ _ _ _ _ _) (em ok hcl S hC2 (offi.adr ha) (bN offd ha) m1 hkd ha true r0 hr0 rfl xφ (fun fp₂ h=>kφ .next _ fp₂ (by obtain ⟨a,h0,h⟩:=h;exact ⟨a,h0,tgb,h⟩)) rfl rfl (by omega) rfl rfl rfl rfl))))
 ·obtain rfl:st = none:=by cases st with | none=>rfl | some i=>cases hc
  refine zx_imove (mn:=.first) ok S hC offi offd rfl m1 (fun a b=>S.first hC a b) (fun fp' ha hC2=>?_) rfl rfl (by omega) rfl rfl rfl
  exact Lx.lz (ae (φ:=kz _ _ _ _ _ _ _ _ _) (Lx.lz (ae (φ:=kz _ _ _ _ _ _ _ _ _) (em ok hcl S hC2 (offi.adr ha) (bN offd ha) m1 hkd ha true r0 hr0 rfl xφ (fun fp₂ h=>kφ .next _ fp₂ (by obtain ⟨a,h0,h⟩:=h;exact ⟨a,h0,tgb,h⟩)) rfl rfl (by omega) rfl rfl rfl rfl))))
theorem uback1_c (S:al w D C) (hC:C fpi rest inner kd R st) (offi:Off fpi rest) (offd:∀ p∈fpi++rest,p.1≠du) (m1:(u,instObj 611 du)∈rest) (hkd:∀ x∈R,x.1.tag % 256≤2) (r0:Option (Option Nat × Nat)) (hr0:bw lo upto R (dY st) none = r0) :
  bc w (D + 9 + 1) 594 [.ref u] ((du,UD q inner upto lo hi 1 tg true sk tsk sv tsv)::fpi) rest 56 (XoP C q du inner kd upto lo hi R fpi rest r0) (GvP r0 (FbP C q du inner kd upto lo hi R fpi rest)):=by
 have q1:(u,instObj 611 du)∈fpi++rest:=aR m1
 refine' bB .fly (binds:=[("self",.ref u)]) ?ho ?hcd ?hb ?hl ?c1 ?c2 ?c3 ?c4 ?_
 fail "e"
 intro bb ok hcl φ χ kφ xφ
 refine zx_uneed ok q1 rfl ?_ rfl rfl (by omega) rfl rfl rfl
 refine cL (dP ok q1 offd rfl bX ?_ rfl rfl rfl rfl)
 refine lz_if1 (bn (Px.mono (ag ok rfl (.tail _ q1) (.head _) rfl rfl (by fail "p") nofun (by fail "q") nofun rfl rfl rfl rfl) isI) (au ok nofun rfl rfl rfl) rfl) (fun h=>by cases h) fun O=>?_
 exact zback_end ok hcl S hC offi offd m1 hkd rfl r0 hr0 rfl xφ (fun fp₂ h=>kφ .next _ fp₂ h) rfl rfl (by omega) rfl rfl rfl
inductive BkJ (C:aN) (q:UP) (u du inner:Addr) (kd:Bool) (upto:Int) (lo hi:Option (Array UInt8)) (tg:Tok) (sk:Array UInt8) (tsk:Tok) (sv:Array UInt8) (tsv:Tok) (R:List Row) (here:Array UInt8) (fp rest:Led) (r0:Nat):Nat→MM→Led→Prop
 | mk {n m} (fp₁:Led) (e1:m "self" = some (.ref u)) (e2:∃ v,m "here" = some v∧IsB here v) (hn:n≤R.length) (ha:ak fp₁ fp) (hC:C fp₁ rest inner kd R (bH n)) (hr:er R here n = r0) :
  BkJ C q u du inner kd upto lo hi tg sk tsk sv tsv R here fp rest r0 n m ((du,UD q inner upto lo hi 0 tg false sk tsk sv tsv)::(fp₁++rest))
theorem uback0_c {j:Nat} {y:Row} (S:al w D C) (hC:C fpi rest inner kd R (some j)) (offi:Off fpi rest) (offd:∀ p∈fpi++rest,p.1≠du) (m1:(u,instObj 611 du)∈rest) (hkd:∀ x∈R,x.1.tag % 256≤2) (r0:Option (Option Nat × Nat)) (hr0:bw lo upto R (dY (bH (er R y.1.u j))) none = r0) (hy:R[j]? = some y) :
  bc w (D + 9 + 1) 594 [.ref u] ((du,UD q inner upto lo hi 0 tg true sk tsk sv tsv)::fpi) rest 56 (XoP C q du inner kd upto lo hi R fpi rest r0) (GvP r0 (FbP C q du inner kd upto lo hi R fpi rest)):=by
 revert S hC offi offd m1 hkd hr0 hy
 revert w D C u du inner kd R fpi rest q upto lo hi tg tsk tsv sk sv j y r0
 refine no_implicit_lambda% (aW ?_)
 refine no_implicit_lambda% (aW ?_)
 refine no_implicit_lambda% (e24 ?n fun T0=>(?_:bp T0) () () _ _ _ _ _ _ _ _ _ _ _ _ _ _ _ _ _ _ _ _ _ _)
 case n=>fail "n"
 intro O O w D C u du inner kd R fpi rest q upto lo hi tg tsk tsv sk sv j y r0
 intros
 clear T0
 have q1:(u,instObj 611 du)∈fpi++rest:=aR m1
 have hjl:=(List.getElem?_eq_some_iff.mp hy).1
 generalize hrs:er R y.1.u j = rs at hr0
 refine' bB .fly (binds:=[("self",.ref u)]) ?ho ?hcd ?hb ?hl ?c1 ?c2 ?c3 ?c4 ?_
 fail "e"
 intro bb ok hcl φ χ kφ xφ
 refine zx_uneed ok q1 rfl ?_ rfl rfl (by omega) rfl rfl rfl
 refine cL (dP ok q1 offd rfl bX ?_ rfl rfl rfl rfl)
 refine bd (dN (bn (Px.mono (ag ok rfl (.tail _ q1) (.head _) rfl rfl (by fail "p") nofun (by fail "q") nofun rfl rfl rfl rfl) isI) (au ok nofun rfl rfl rfl) rfl) (fun O=>?_) fun h=>by cases h)
 refine lz_name (px_uok ok S hC hy rfl q1 (fun O h=>h) rfl rfl rfl (by omega) rfl rfl rfl) (fun v hv=>?_) rfl rfl rfl
 refine zx_imove (mn:=.back) ok S hC offi offd rfl m1 (fun a b=>S.back hC a b) (fun fp' ha hC2=>?_) rfl rfl (by omega) rfl rfl rfl
 refine zs_while (BkJ C q u du inner kd upto lo hi tg sk tsk sv tsv R y.1.u fpi rest rs) (InT C q u du inner kd upto lo hi 0 tg false sk tsk sv tsv R fpi rest (bH rs) .next) j (.mk fp' rfl ⟨v,rfl,hv⟩ (by omega) ha hC2 hrs) ?_ fun m' led' h=>?_
 ·clear hC hC2
  intro n m₁ led₁ hx Φ kn kc kb kr
  obtain ⟨fp₁,e1,e2,hn,ha,hC,hr⟩:=hx
  have offd1:=bN offd ha
  have offi1:=offi.adr ha
  have q1:(u,instObj 611 du)∈fp₁++rest:=aR m1
  cases n with
  | zero =>
   refine ⟨false,pc_and (c2:=true) (bt (dD ok S hC e1 q1 (fun O h=>h) rfl rfl (by omega) rfl) rfl) (fun e=>by cases e),(fun h=>by cases h),fun O=>?_⟩
   obtain rfl:0 = rs:=hr
   exact .mk fp₁ e1 ha hC
  | succ n =>
   obtain ⟨z,hz⟩:∃ z,R[n]? = some z:=⟨_,List.getElem?_eq_getElem (by omega)⟩
   rw [befOf_some] at hC
   refine ⟨!ltB z.1.u y.1.u,ck (bt (dD ok S hC e1 q1 (fun O h=>h) rfl rfl (by omega) rfl) rfl) (fun e=>pc_geB (px_uok ok S hC hz e1 q1 (fun O h=>h) rfl rfl rfl (by omega) rfl rfl rfl) (ac e2 rfl rfl rfl) rfl),fun hc=>?_,fun hc=>?_⟩
   ·have hs:er R y.1.u (n + 1) = er R y.1.u n:=by
     rw [er,hz];exact if_neg (by intro h;rw [h] at hc;cases hc)
    refine eo (mn:=.back) ok S hC offi1 offd1 e1 m1 (fun a b=>S.back hC a b) (fun fp₂ ha2 hC2=>?_) rfl rfl (by omega) rfl rfl rfl
    exact ae (kn n _ _ (Nat.lt_succ_self _) (.mk fp₂ e1 e2 (by omega) (ha2.trans ha) hC2 (hs.symm.trans hr)))
   ·have hs:er R y.1.u (n + 1) = n + 1:=by
     rw [er,hz];exact if_pos (by cases e:ltB z.1.u y.1.u with | true=>rfl | false=>rw [e] at hc;cases hc)
    obtain rfl:n + 1 = rs:=hs.symm.trans hr
    exact .mk fp₁ e1 ha hC
 ·obtain ⟨fp₁,e1,ha,hC⟩:=h
  exact Lx.lz (ae (φ:=kz _ _ _ _ _ _ _ _ _) (zback_end ok hcl S hC (offi.adr ha) (bN offd ha) m1 hkd ha r0 hr0 e1 xφ (fun fp₂ h=>kφ .next _ fp₂ h) rfl rfl (by omega) rfl rfl rfl))
theorem ulast_c (S:al w D C) (hC:C fpi rest inner kd R st) (offi:Off fpi rest) (offd:∀ p∈fpi++rest,p.1≠du) (m1:(u,instObj 611 du)∈rest) (hkd:∀ x∈R,x.1.tag % 256≤2) (r0:Option (Option Nat × Nat)) (hr0:bw lo upto R (dY (lastLen R hi)) none = r0) (hhi:∀ b,hi = some b→b.size≤1000) :
  bc w (D + 9 + 1) 566 [.ref u] ((du,UD q inner upto lo hi going tg good sk tsk sv tsv)::fpi) rest 56 (XoP C q du inner kd upto lo hi R fpi rest r0) (GvP r0 (FbP C q du inner kd upto lo hi R fpi rest)):=by
 have q1:(u,instObj 611 du)∈fpi++rest:=aR m1
 refine' bB .fly (binds:=[("self",.ref u)]) ?ho ?hcd ?hb ?hl ?c1 ?c2 ?c3 ?c4 ?_
 fail "e"
 intro bb ok hcl φ χ kφ xφ
 refine cL (ev ok q1 offd rfl (au ok nofun rfl rfl rfl) (fun tgb=>?_) rfl rfl rfl rfl)
 refine zx_forget ok q1 offd rfl (fun ta tb=>?_) rfl rfl (by omega) rfl rfl rfl
 refine lz_ifj (InT C q u du inner kd upto lo hi 1 tgb false #[] ta #[] tb R fpi rest (lastLen R hi)) (pc_is (Px.mono (ag ok rfl (.tail _ q1) (.head _) rfl dS (by fail "p") nofun (by fail "q") nofun rfl rfl rfl rfl) dC) bQ rfl) (fun hl ψ kψ=>?_) (fun hl ψ kψ=>?_) (fun m' led' h=>?_) fun f m' led' hf=>?_
 ·obtain rfl:hi = none:=by cases hi with | none=>rfl | some l=>cases hl
  refine eo (mn:=.last) ok S hC offi offd rfl m1 (fun a b=>S.last hC a b) (fun fp' ha2 hC2=>?_) rfl rfl (by omega) rfl rfl rfl
  exact ae (kψ .next _ _ (.mk fp' rfl ha2 hC2))
 ·obtain ⟨lb,rfl⟩:∃ lb,hi = some lb:=by cases hi with | none=>cases hl | some l=>exact ⟨l,rfl⟩
  have hlb:=hhi _ rfl
  refine aO (lm1 ok (ag ok rfl (.tail _ q1) (.head _) rfl rfl (by fail "p") nofun (by fail "q") nofun rfl rfl rfl rfl) (bD ok S hC (fun p hp=>.tail _ hp) .seek) (az (pf1 (P:=IsB (ikb ⟨lb,72057594037927935,1⟩)) ok (ao ok nofun rfl rfl rfl) (bY (Px.mono (ag ok rfl (.tail _ q1) (.head _) rfl rfl (by fail "p") nofun (by fail "q") nofun rfl rfl rfl rfl) (bnd_isB rfl)) (au ok nofun rfl rfl rfl) (au ok nofun rfl rfl rfl) rfl rfl rfl) (fun vs hvs=>?_) nofun rfl rfl rfl) rfl) (fun vs hvs=>?_) (aP _ _ _) rfl rfl rfl) rfl rfl
  ·obtain ⟨_,_,_,rfl,⟨t,rfl⟩,⟨t',rfl⟩,⟨t2,rfl⟩⟩:=hvs
   exact ar ok (mkik_c (by decide) (by decide) hlb) (fun r fp' h=>h) (fun O h=>nomatch h) rfl (by omega)
  ·obtain ⟨_,rfl,⟨t,rfl⟩⟩:=hvs
   refine lx_inner (D':=D) ok rfl (by omega) offi offd (fun a b=>S.seek hC a b (ok_max hlb)) fun fp₁ ha hC1=>?_
   have q1:(u,instObj 611 du)∈fp₁++rest:=aR m1
   show Lx w _ bb (execs _ _) _ _ _
   generalize hst:bM R ⟨lb,72057594037927935,1⟩ = st1 at hC1
   have hll:lastLen R (some lb) = backOf R st1:=by rw [← hst];rfl
   rw [hll] at kψ
   clear hst hll
   refine sx_if (bt (dD ok S hC1 rfl q1 (fun O h=>h) rfl rfl (by omega) rfl) rfl) (fun hc=>?_) fun hc=>?_
   ·obtain ⟨j,rfl⟩:=Option.isSome_iff_exists.mp hc
    refine eo (mn:=.back) ok S hC1 (offi.adr ha) (bN offd ha) rfl m1 (fun a b=>S.back hC1 a b) (fun fp' ha2 hC2=>?_) rfl rfl (by omega) rfl rfl rfl
    exact ae (ae (kψ .next _ _ (.mk fp' rfl (ha2.trans ha) hC2)))
   ·obtain rfl:st1 = none:=by cases st1 with | none=>rfl | some i=>cases hc
    refine eo (mn:=.last) ok S hC1 (offi.adr ha) (bN offd ha) rfl m1 (fun a b=>S.last hC1 a b) (fun fp' ha2 hC2=>?_) rfl rfl (by omega) rfl rfl rfl
    exact ae (ae (kψ .next _ _ (.mk fp' rfl (ha2.trans ha) hC2)))
 ·obtain ⟨fp₁,e1,ha,hC1⟩:=h
  exact zback_end ok hcl S hC1 (offi.adr ha) (bN offd ha) m1 hkd ha r0 hr0 e1 xφ (fun fp₂ h=>kφ .next _ fp₂ h) rfl rfl (by omega) rfl rfl rfl
 ·intro h;cases h
  exact absurd rfl hf
end
end
section
open PySem PySem.W PyProof.Rows
set_option tactic.hygienic false
noncomputable def SortedR (R:List Row):Prop:=R.Pairwise fun a b=>aV a.1 b.1≤0
noncomputable def En.fd (e:En):List FD:=[.b e.u,.i (0 - (e.q:Int)),.i (0 - (e.k:Int)),.i (e.c:Int),.i (e.i:Int)]
noncomputable def En.z (e:En):Row × Nat:=(e.row,e.c)
theorem en_lt {a b:En} (ha:a.k≤2) (hb:b.k≤2) (h:ltL a.fd b.fd = true):Zord a.z b.z:=by
 revert a b
 refine no_implicit_lambda% (aW ?_)
 refine no_implicit_lambda% (aW ?_)
 refine no_implicit_lambda% (e4 ?n fun T0=>(?_:bp T0) () () _ _)
 case n=>fail "n"
 intro O O a b
 intros
 clear T0
 unfold En.fd at h
 simp only [ltL,ltFD,FD.b.injEq,FD.i.injEq] at h
 unfold Zord
 rw [eT,cmpI_eq]
 show (ltB a.u b.u = true ∨ (a.u = b.u∧(b.q:Int) * 256 + b.k < (a.q:Int) * 256 + a.k)) ∨ ((a.u = b.u∧(a.q:Int) * 256 + a.k = (b.q:Int) * 256 + b.k)∧a.c≤b.c)
 by_cases e1:a.u = b.u
 ·rw [if_pos e1] at h
  by_cases e2:(0:Int) - a.q = 0 - b.q
  ·rw [if_pos e2] at h
   by_cases e3:(0:Int) - a.k = 0 - b.k
   ·rw [if_pos e3] at h
    by_cases e4:(a.c:Int) = b.c
    ·exact .inr ⟨⟨e1,by omega⟩,by omega⟩
    ·rw [if_neg e4] at h
     have:=of_decide_eq_true h
     exact .inr ⟨⟨e1,by omega⟩,by omega⟩
   ·rw [if_neg e3] at h
    have:=of_decide_eq_true h
    exact .inl (.inr ⟨e1,by omega⟩)
  ·rw [if_neg e2] at h
   have:=of_decide_eq_true h
   exact .inl (.inr ⟨e1,by omega⟩)
 ·rw [if_neg e1] at h
  exact .inl (.inl h)
theorem zord_le {a b:Row × Nat} (h:Zord a b):aV a.1.1 b.1.1≤0:=by rcases h with h | h <;> omega
noncomputable def cut3 (e:En):List FD:=[.b e.u,.i (0 - (e.q:Int)),.i (0 - (e.k:Int))]
theorem cut_lt {e:En} {t:Array UInt8} {s:Nat} (hk:e.k≤2):ltL (cut3 e) [.b t,.i (0 - (s:Int)),.i (-1)] = decide (aV e.row.1 ⟨t,s,1⟩ < 0):=by
 unfold cut3
 simp only [ltL,ltFD,FD.b.injEq,FD.i.injEq]
 have e0:(aV e.row.1 ⟨t,s,1⟩ < 0) ↔ (ltB e.u t = true ∨ (e.u = t∧(s:Int) * 256 + (1:Nat) < (e.q:Int) * 256 + e.k)):=eT _ _
 rw [Bool.eq_iff_iff,decide_eq_true_iff,e0]
 by_cases e1:e.u = t
 ·subst e1
  simp only [if_true,bj,Bool.false_eq_true,false_or,true_and]
  by_cases e2:(0:Int) - e.q = 0 - s
  ·rw [if_pos e2]
   by_cases e3:(0:Int) - e.k = -1
   ·rw [if_pos e3]
    constructor
    ·intro h;cases h
    ·intro h;omega
   ·rw [if_neg e3,decide_eq_true_iff]
    omega
  ·rw [if_neg e2,decide_eq_true_iff]
   omega
 ·rw [if_neg e1]
  constructor
  ·intro h;exact .inl h
  ·rintro (h | ⟨h,_⟩)
   ·exact h
   ·exact absurd h e1
theorem filter_tw {α:Type} {p:α→Bool}:∀ {l:List α},(l.Pairwise fun a b=>p b = true→p a = true)→l.countP p = (l.takeWhile p).length
 | [],_=>rfl
 | a::l,h=>by
  rw [List.pairwise_cons] at h
  cases e:p a with
  | true=>rw [List.countP_cons_of_pos e,List.takeWhile_cons_of_pos e,List.length_cons,filter_tw h.2]
  | false =>
   rw [List.countP_cons_of_neg (by simp [e]),List.takeWhile_cons_of_neg (by simp [e])]
   show _ = 0
   rw [List.countP_eq_zero]
   intro b hb hp
   have:=h.1 b hb hp
   rw [e] at this
   cases this
theorem count_lt {R:List Row} (hs:SortedR R) (e:IK):R.countP (fun x=>decide (aV x.1 e < 0)) = ltLen R e:=by
 refine filter_tw (hs.imp fun {a b} h g=>?_)
 exact decide_eq_true (ec h (of_decide_eq_true g))
noncomputable def seekN (ents:List En) (t:Array UInt8) (s:Nat):Nat:=ents.countP fun e=>ltL (cut3 e) [.b t,.i (0 - (s:Int)),.i (-1)]
structure bK (ents:List En):Prop where
 pw:ents.Pairwise fun a b=>ltL a.fd b.fd = true
 k:∀ e∈ents,e.k≤2
 q:∀ e∈ents,e.q≤3
 u:∀ e∈ents,e.u.size≤8
 len:ents.length≤5
section
variable {ents:List En}
theorem bK.zord (o:bK ents):(ents.map En.z).Pairwise Zord:=by
 rw [List.pairwise_map]
 exact o.pw.imp_of_mem fun {a b} ha hb h=>en_lt (o.k a ha) (o.k b hb) h
theorem bK.sortR (o:bK ents):SortedR (ents.map En.row):=by
 unfold SortedR
 rw [List.pairwise_map]
 exact o.pw.imp_of_mem fun {a b} ha hb h=>zord_le (en_lt (o.k a ha) (o.k b hb) h)
theorem bK.sortE (o:bK ents):dq ents:=by
 have:=o.sortR
 unfold SortedR at this
 rw [List.pairwise_map] at this
 exact this.imp fun {a b} h=>((cmpI_le _ _).mp h).1
theorem seekN_eq (o:bK ents) (t:Array UInt8) (s:Nat):seekN ents t s = ltLen (ents.map En.row) ⟨t,s,1⟩:=by
 rw [← count_lt o.sortR,List.countP_map]
 unfold seekN
 refine List.countP_congr fun e he=>?_
 rw [cut_lt (o.k e he)]
 rfl
theorem seekN_le (ents:List En) (t:Array UInt8) (s:Nat):seekN ents t s≤ents.length:=List.countP_le_length
theorem seekN_at (o:bK ents) {t:Array UInt8} {s i:Nat} {e:En} (he:ents[i]? = some e):aV e.row.1 ⟨t,s,1⟩ < 0 ↔ i < seekN ents t s:=by
 rw [seekN_eq o]
 exact cut_of o.sortR i e.row (by rw [List.getElem?_map,he];rfl)
theorem cu {R:List Row} {n:Nat} (h:n≤R.length):aQ R (bi R n) = n:=by
 rcases Nat.lt_or_ge n R.length with g | g
 ·rw [cR g];rfl
 ·rw [dI (by omega)];show R.length = n;omega
theorem lenOf_bef (n:Nat):dY (bH n) = n:=by
 cases n with
 | zero=>rfl
 | succ n=>rfl
noncomputable def uAt (ents:List En) (j:Nat):Array UInt8:=(ents[j]?).elim #[] (·.u)
theorem dj {j:Nat} {e:En} (h:ents[j]? = some e):uAt ents j = e.u:=by unfold uAt;rw [h];rfl
noncomputable def edgeH (ents:List En) (hi:Option (Array UInt8)):Nat:=match hi with | none=>ents.length | some h=>belowZ ents h
noncomputable def seekO (ents:List En) (t:Option (Array UInt8)) (s:Nat):Nat:=match t with | none=>0 | some t=>seekN ents t s
noncomputable def uFirst (ents:List En) (upto:Int) (lo hi:Option (Array UInt8)):Option (Option Nat):=eu (c9 ents (aI ents upto) (seekO ents lo upto.toNat) none hi)
noncomputable def uSeek (ents:List En) (upto:Int) (lo hi:Option (Array UInt8)) (t:Array UInt8):Option (Option Nat):=eu (c9 ents (aI ents upto) (seekN ents (co lo t) upto.toNat) none hi)
noncomputable def uLast (ents:List En) (upto:Int) (lo hi:Option (Array UInt8)):Option (Option Nat):=eu (c8 ents upto (edgeH ents hi) lo)
noncomputable def uStep (ents:List En) (upto:Int) (hi:Option (Array UInt8)) (j:Nat):Option (Option Nat):=eu (c9 ents (aI ents upto) (j + 1) (some (uAt ents j)) hi)
noncomputable def uBack (ents:List En) (upto:Int) (lo:Option (Array UInt8)) (j:Nat):Option (Option Nat):=eu (c8 ents upto (belowZ ents (uAt ents j)) lo)
variable {upto:Int} {lo hi:Option (Array UInt8)}
theorem fw_seek (o:bK ents) (h0:0≤upto) (t:Array UInt8):fw hi upto ((ents.map En.row).drop (seekN ents t upto.toNat)) (seekN ents t upto.toNat) none = eu (c9 ents (aI ents upto) (seekN ents t upto.toNat) none hi):=by
 refine fw_ahead o.sortE o.k (seekN_le _ _ _) fun j e i d hj hi' he hd hv O e9=>?_
 have h1:=(seekN_at o he).mpr hj
 have h2:¬ aV d.row.1 ⟨t,upto.toNat,1⟩ < 0:=fun h=>by have:=(seekN_at o hd).mp h;omega
 rw [eT] at h1 h2
 unfold En.vk at hv
 rw [Bool.and_eq_true] at hv
 have hq:(e.q:Int)≤upto:=of_decide_eq_true hv.1
 have hk:e.k < 2:=of_decide_eq_true hv.2
 rcases h1 with h1 | ⟨h1,h3⟩
 ·exact h2 (.inl (by show ltB d.u t = true;rw [← e9];exact h1))
 ·have h4:((upto.toNat:Nat):Int) * 256 + (1:Nat) < (e.q:Int) * 256 + (e.k:Int):=h3
  omega
theorem fw_first (o:bK ents) (h0:0≤upto):fw hi upto ((ents.map En.row).drop (aQ (ents.map En.row) (firstPl (ents.map En.row) upto lo))) (aQ (ents.map En.row) (firstPl (ents.map En.row) upto lo)) none = uFirst ents upto lo hi:=by
 cases lo with
 | none =>
  show fw hi upto ((ents.map En.row).drop (aQ _ (c7 (ents.map En.row)))) (aQ _ (c7 (ents.map En.row))) none = _
  rw [dU,cu (Nat.zero_le _)]
  exact fw_ahead o.sortE o.k (Nat.zero_le _) fun j e i d hj=>by omega
 | some l =>
  show fw hi upto ((ents.map En.row).drop (aQ _ (bM (ents.map En.row) ⟨l,upto.toNat,1⟩))) (aQ _ (bM (ents.map En.row) ⟨l,upto.toNat,1⟩)) none = _
  rw [cV,cu (ltLen_le _ _),← seekN_eq o]
  exact fw_seek o h0 l
theorem fw_useek (o:bK ents) (h0:0≤upto) (t:Array UInt8):fw hi upto ((ents.map En.row).drop (aQ (ents.map En.row) (bM (ents.map En.row) ⟨co lo t,upto.toNat,1⟩))) (aQ (ents.map En.row) (bM (ents.map En.row) ⟨co lo t,upto.toNat,1⟩)) none = uSeek ents upto lo hi t:=by
 rw [cV,cu (ltLen_le _ _),← seekN_eq o]
 exact fw_seek o h0 _
theorem fw_step (o:bK ents) {j:Nat} {e:En} (he:ents[j]? = some e):fw hi upto ((ents.map En.row).drop (j + 1)) (j + 1) (some e.u) = uStep ents upto hi j:=by
 unfold uStep
 rw [dj he]
 have hj:=(List.getElem?_eq_some_iff.mp he).1
 refine fw_ahead o.sortE o.k hj fun m d i c hm hi' hd hc hv ho e9=>?_
 have h1:=o.sortE.at hd he (by omega)
 have h2:ltB e.u c.u = true:=ho
 rw [← e9,h1] at h2
 cases h2
theorem nextAt_start (o:bK ents) {j:Nat} (hj:j < (ents.map En.row).length):aQ (ents.map En.row) (dn (ents.map En.row) j) = j + 1:=by
 rw [dE];exact cu hj
theorem skipb_below (o:bK ents) (x:Array UInt8):∀ n,belowZ ents x≤n→n≤ents.length→er (ents.map En.row) x n = belowZ ents x
 | 0,h,_=>by show 0 = _;omega
 | n + 1,h,hl=>by
  obtain ⟨e,he⟩:∃ e,ents[n]? = some e:=⟨_,List.getElem?_eq_getElem (by omega)⟩
  have hr:(ents.map En.row)[n]? = some e.row:=by rw [List.getElem?_map,he];rfl
  have hb:=bC (x:=x) o.sortE he
  rw [er,hr]
  show (if ltB e.u x = true then n + 1 else er (ents.map En.row) x n) = _
  by_cases g:n < belowZ ents x
  ·rw [if_pos (hb.mpr g)];omega
  ·rw [if_neg fun h=>g (hb.mp h)]
   exact skipb_below o x n (by omega) (by omega)
structure BackOk (ents:List En) (upto:Int) (lo:Option (Array UInt8)) (j n:Nat):Prop where
 le:n≤j
 known:∀ i d,n≤i→i≤j→ents[i]? = some d→d.k≠2
 dark:∀ i d,n≤i→i < belowZ ents (uAt ents j)→ents[i]? = some d→d.vis upto = false
 flo:floorZ ents lo≤n
theorem BackOk.step (o:bK ents) {j n:Nat} {e:En} (b:BackOk ents upto lo j n) (he:ents[j]? = some e) (hp:bI hi e.u = false):fw hi upto ((ents.map En.row).drop n) n (some e.u) = uStep ents upto hi j:=by
 rw [← fw_step o he]
 have hj:=(List.getElem?_eq_some_iff.mp he).1
 have key:∀ c m,m + c = j + 1→n≤m→fw hi upto ((ents.map En.row).drop m) m (some e.u) = fw hi upto ((ents.map En.row).drop (j + 1)) (j + 1) (some e.u):=by
  intro c
  induction c with
  | zero=>intro m hm _;rw [show m = j + 1 by omega]
  | succ c ih =>
   intro m hm hn
   obtain ⟨d,hd⟩:∃ d,ents[m]? = some d:=⟨_,List.getElem?_eq_getElem (by omega)⟩
   have hle:=o.sortE.at hd he (by omega)
   have hdk:=o.k d (List.mem_of_getElem? hd)
   have hk2:=b.known m d hn (by omega) hd
   have hg0:¬ 1 < d.row.1.tag % 256:=by rw [tag_k hdk];omega
   have hpd:bI hi d.row.1.u = false:=by
    cases hi with
    | none=>rfl
    | some h =>
     have h1:ltB e.u h = true:=by cases hx:ltB e.u h with | true=>rfl | false=>have:(!ltB e.u h) = false:=hp;rw [hx] at this;cases this
     show (!ltB d.u h) = false
     cases hx:ltB d.u e.u with
     | true=>rw [cw hx h1];rfl
     | false=>rw [bZ hx hle,h1];rfl
   have ho:bg (some e.u) d.row.1.u = false:=hle
   have hn2:=ih (m + 1) (by omega) (by omega)
   rw [drop_at hd]
   by_cases hv:d.row.1.tag / 256≤upto
   ·by_cases k0:d.row.1.tag % 256 = 0
    ·rw [fw_delS hg0 hpd hv k0 ho];exact hn2
    ·rw [fw_putS hg0 hpd hv k0 ho];exact hn2
   ·rw [fw_inv hg0 hpd hv];exact hn2
 exact key (j + 1 - n) n (by have:=b.le;omega) (Nat.le_refl _)
theorem BackOk.back (o:bK ents) {j n:Nat} {e:En} (b:BackOk ents upto lo j n) (he:ents[j]? = some e) (hn:n≤belowZ ents e.u):bw lo upto (ents.map En.row) (belowZ ents e.u) none = bw lo upto (ents.map En.row) n none:=by
 have hu:=dj he
 have key:∀ c m,n + c = m→m≤belowZ ents e.u→bw lo upto (ents.map En.row) m none = bw lo upto (ents.map En.row) n none:=by
  intro c
  induction c with
  | zero=>intro m hm _;rw [show m = n by omega]
  | succ c ih =>
   intro m hm hb
   obtain ⟨m,rfl⟩:∃ k,m = k + 1:=⟨m - 1,by omega⟩
   have hbl:=cF ents e.u
   obtain ⟨d,hd⟩:∃ d,ents[m]? = some d:=⟨_,List.getElem?_eq_getElem (by omega)⟩
   have hdk:=o.k d (List.mem_of_getElem? hd)
   have hlt:=(bC (x:=e.u) o.sortE hd).mpr (by omega)
   have hmj:m < j:=by
    rcases Nat.lt_or_ge m j with h | h
    ·exact h
    ·have:=o.sortE.at he hd h;rw [this] at hlt;cases hlt
   have hk2:=b.known m d (by omega) (by omega) hd
   have hv:=b.dark m d (by omega) (by rw [hu];omega) hd
   have hun:bP lo d.row.1.u = false:=by
    cases hx:bP lo d.row.1.u with
    | false=>rfl
    | true=>have:=(cB (lo:=lo) o.sortE hd).mp hx;have:=b.flo;omega
   rw [bw_inv (x:=d.row) (by rw [List.getElem?_map,hd];rfl) (by rw [tag_k hdk];omega) hun (by rw [tag_q hdk];exact of_decide_eq_false hv)]
   exact ih m (by omega) (by omega)
 exact key (belowZ ents e.u - n) _ (by omega) (Nat.le_refl _)
theorem stop_back (o:bK ents) {edge g:Nat} (hel:edge≤ents.length) (hb:(c8 ents upto edge lo).1 = false) (hg:cg ents upto edge lo = some g):BackOk ents upto lo g (stopB ents upto edge lo)∧stopB ents upto edge lo≤belowZ ents (uAt ents g):=by
 obtain ⟨e,he,a1,a2,a3,a4,a5,a6⟩:=cm hg
 obtain ⟨b1,b2,b3⟩:=de o.sortE hg he
 have hu:=dj he
 have hge:=stopB_ge (ents:=ents) (upto:=upto) (edge:=edge) (lo:=lo)
 have hb:badZ ents (stopB ents upto edge lo - 1) edge = false:=hb
 refine ⟨⟨b3,fun i d h1 h2 hd k2=>?_,fun i d h1 h2 hd=>?_,by omega⟩,?_⟩
 ·rw [eF.mpr ⟨i,d,by omega,by omega,hd,k2⟩] at hb;cases hb
 ·rw [hu] at h2
  exact b1 i d h1 hd ((bC o.sortE hd).mpr h2)
 ·rw [hu]
  rcases b2 with b2 | ⟨i,d,b4,b5,b6,b7,b8⟩
  ·rw [b2]
   rcases Nat.lt_or_ge (belowZ ents e.u) (floorZ ents lo) with h | h
   ·have hl:belowZ ents e.u < ents.length:=by have:=(List.getElem?_eq_some_iff.mp he).1;omega
    obtain ⟨d,hd⟩:∃ d,ents[belowZ ents e.u]? = some d:=⟨_,List.getElem?_eq_getElem hl⟩
    have h1:=(cB (lo:=lo) o.sortE hd).mpr h
    have h2:¬ ltB d.u e.u = true:=fun h=>by have:=(bC o.sortE hd).mp h;omega
    have h3:¬ bP lo e.u = true:=fun h=>by have:=(cB (lo:=lo) o.sortE he).mp h;omega
    cases lo with
    | none=>cases h1
    | some l =>
     have h1:ltB d.u l = true:=h1
     have h3:ltB e.u l = false:=by cases hx:ltB e.u l with | true=>exact absurd hx h3 | false=>rfl
     exfalso
     cases hx:ltB e.u d.u with
     | true=>rw [cw hx h1] at h3;cases h3
     | false =>
      have e9:=bZ hx (by cases hy:ltB d.u e.u with | true=>exact absurd hy h2 | false=>rfl)
      rw [e9,h1] at h3;cases h3
   ·exact h
  ·rw [b4];exact (bC o.sortE b6).mp b8
theorem lastLen_eq (o:bK ents):dY (lastLen (ents.map En.row) hi) = edgeH ents hi:=by
 cases hi with
 | none =>
  show dY (eS (ents.map En.row)) = ents.length
  rw [ew,lenOf_bef,List.length_map]
 | some h =>
  show dY (backOf (ents.map En.row) (bM (ents.map En.row) ⟨h,72057594037927935,1⟩)) = belowZ ents h
  rw [cV,backOf_eq _ (ltLen_le _ _),lenOf_bef,← count_lt o.sortR,List.countP_map]
  unfold belowZ
  refine List.countP_congr fun e he=>?_
  have hq:=o.q e he
  have hk:=o.k e he
  show decide (aV e.row.1 ⟨h,72057594037927935,1⟩ < 0) = true ↔ _
  rw [decide_eq_true_iff,eT]
  constructor
  ·rintro (a | ⟨-,a⟩)
   ·exact a
   ·have:(72057594037927935:Nat) * (256:Int) + (1:Nat) < (e.q:Int) * 256 + (e.k:Int):=a
    omega
  ·exact fun a=>.inl a
theorem edgeH_le (ents:List En) (hi:Option (Array UInt8)):edgeH ents hi≤ents.length:=by
 cases hi with
 | none=>exact Nat.le_refl _
 | some h=>exact cF _ _
theorem ahead_in (o:bK ents) {start g:Nat} {past:Option (Array UInt8)} (h:cz ents (aI ents upto) start past hi = some g):∃ e,ents[g]? = some e∧bI hi e.u = false∧start≤g:=by
 revert o h
 revert ents upto hi start g past
 refine no_implicit_lambda% (aW ?_)
 refine no_implicit_lambda% (aW ?_)
 refine no_implicit_lambda% (e8 ?n fun T0=>(?_:bp T0) () () _ _ _ _ _ _)
 case n=>fail "n"
 intro O O ents upto hi start g past
 intros
 clear T0
 rw [dT,List.find?_range_eq_some] at h
 obtain ⟨hc,hm,-⟩:=h
 simp only [Bool.and_eq_true,decide_eq_true_eq] at hc
 rw [List.mem_range] at hm
 refine ⟨_,List.getElem?_eq_getElem hm,?_,hc.2.1⟩
 cases hp:bI hi (ents[g]).u with
 | false=>rfl
 | true=>have:=(stopZ_past (hi:=hi) o.sortE (List.getElem?_eq_getElem hm) hc.2.1).1 hp;omega
theorem edge_in (o:bK ents) {g:Nat} {e:En} (he:ents[g]? = some e) (h:g < edgeH ents hi):bI hi e.u = false:=by
 cases hi with
 | none=>rfl
 | some b =>
  have:=(bC (x:=b) o.sortE he).mpr h
  show (!ltB e.u b) = false
  rw [this];rfl
theorem below_in (o:bK ents) {g j:Nat} {e d:En} (he:ents[g]? = some e) (hd:ents[j]? = some d) (h:g < belowZ ents d.u) (hp:bI hi d.u = false):bI hi e.u = false:=by
 cases hi with
 | none=>rfl
 | some b =>
  have h1:=(bC (x:=d.u) o.sortE he).mpr h
  have h2:ltB d.u b = true:=by cases hx:ltB d.u b with | true=>rfl | false=>have:(!ltB d.u b) = false:=hp;rw [hx] at this;cases this
  show (!ltB e.u b) = false
  rw [cw h1 h2];rfl
end
end
section
open PySem PySem.W PyProof.Rows
set_option maxHeartbeats 8000000
set_option maxRecDepth 100000
set_option tactic.hygienic false
section
variable {w:World} {D:Nat} {f Cx:Addr} {args:List Value} {fp rest:Led} {xo xo':Led→Prop} {po po':Value→Led→Prop}
theorem bc.post (h:bc w D f args fp rest Cx xo po) (hx:∀ fp',xo fp'→xo' fp') (hp:∀ r fp',po r fp'→po' r fp'):bc w D f args fp rest Cx xo' po':=fun F b m s Q E ok hcl hk f N k kx =>
 h F b m s Q E ok hcl hk f N (fun r fp' h' tk' F' N' p=>k r fp' h' tk' F' N' (hp r fp' p)) fun ea t vs G h' tk' fp' F' R U p=>kx ea t vs G h' tk' fp' F' R U (hx fp' p)
theorem bc.deep {D':Nat} (h:bc w D f args fp rest Cx xo po) (hd:D≤D'):bc w D' f args fp rest Cx xo po:=fun F b m s Q E ok hcl hk f N k kx =>
 have h1:=ok.hd
 have h2:=ok.hu
 h F b m s Q E ⟨ok.B,ok.X,ok.T,by omega,by omega⟩ hcl hk f N k kx
theorem am.z (h:am w D f args fp rest po):bc w D f args fp rest Cx xo po:=fun F b m s Q E ok hcl hk f N k kx =>
 h b.dp b.un b.gd F.cn F.cs F.a F.cd [] b.outer b.A₀ b.base b.g b.L m b.mg b.mb b.mean s Q E ok.B f ok.X N ok.T hk ok.hd ok.hu k
end
abbrev WkP:=Led→Led→Addr→Option Nat→Prop
noncomputable def XpW (W:WkP) (rest:Led) (c:Addr) (fp:Led) (o:Option (Option Nat)) (fp':Led):Prop:=o = none∧ak fp' fp∧W fp' rest c none
noncomputable def PtW (W:WkP) (rest:Led) (c:Addr) (fp:Led) (o:Option (Option Nat)) (r:Value) (fp':Led):Prop:=∃ a,o = some a∧ak fp' fp∧W fp' rest c a
inductive UsI (C:aN) (upto:Int) (lo hi:Option (Array UInt8)) (ents:List En) (rest:Led) (u:Addr):Option Nat→Led→Prop
 | off (du inner:Addr) (kd:Bool) (q:UP) (st:Option Nat) (going:Int) (tg:Tok) (sk:Array UInt8) (tsk:Tok) (sv:Array UInt8) (tsv:Tok) (fpi:Led) (hC:C fpi rest inner kd (ents.map En.row) st) (hne:∀ x∈fpi,x.1≠du) (hin:(u,instObj 611 du)∈rest) :
  UsI C upto lo hi ents rest u none ((du,UD q inner upto lo hi going tg false sk tsk sv tsv)::fpi)
 | fwd (j:Nat) (e:En) (du inner:Addr) (kd:Bool) (q:UP) (tg:Tok) (sk:Array UInt8) (tsk:Tok) (sv:Array UInt8) (tsv:Tok) (fpi:Led) (he:ents[j]? = some e) (hp:bI hi e.u = false) (hC:C fpi rest inner kd (ents.map En.row) (some j)) (hne:∀ x∈fpi,x.1≠du) (hin:(u,instObj 611 du)∈rest) :
  UsI C upto lo hi ents rest u (some j) ((du,UD q inner upto lo hi 0 tg true sk tsk sv tsv)::fpi)
 | bwd (j n:Nat) (e:En) (du inner:Addr) (kd:Bool) (q:UP) (tg:Tok) (tsk tsv:Tok) (fpi:Led) (he:ents[j]? = some e) (hp:bI hi e.u = false) (hb:BackOk ents upto lo j n) (hn:n≤belowZ ents e.u) (hC:C fpi rest inner kd (ents.map En.row) (bH n)) (hne:∀ x∈fpi,x.1≠du) (hin:(u,instObj 611 du)∈rest) :
  UsI C upto lo hi ents rest u (some j) ((du,UD q inner upto lo hi 1 tg true e.u tsk e.row.2 tsv)::fpi)
inductive UsParts (C:aN) (upto:Int) (lo hi:Option (Array UInt8)) (ents:List En) (rest:Led) (u:Addr) (fp:Led):Prop
 | mk (du inner:Addr) (kd:Bool) (q:UP) (st:Option Nat) (going:Int) (tg:Tok) (good:Bool) (sk:Array UInt8) (tsk:Tok) (sv:Array UInt8) (tsv:Tok) (fpi:Led) (e:fp = (du,UD q inner upto lo hi going tg good sk tsk sv tsv)::fpi) (hC:C fpi rest inner kd (ents.map En.row) st) (hne:∀ x∈fpi,x.1≠du) (hin:(u,instObj 611 du)∈rest):UsParts C upto lo hi ents rest u fp
noncomputable def cI (C:aN) (upto:Int) (lo hi:Option (Array UInt8)) (ents:List En):WkP:=fun fp rest u p=>UsI C upto lo hi ents rest u p fp
structure ed (ents:List En) (upto:Int) (lo hi:Option (Array UInt8)):Prop where
 ok:bK ents
 up0:0≤upto
 up1:upto≤3
 los:∀ b,lo = some b→b.size≤8
 his:∀ b,hi = some b→b.size≤8
theorem dl {fpi E0:Led} {du:Addr} {od:Obj} (h:Off ((du,od)::fpi) E0) (h2:∀ x∈fpi,x.1≠du):Off fpi E0∧∀ x∈fpi++E0,x.1≠du:=by
 refine ⟨fun a ha b hb=>h a (.tail _ ha) b hb,fun x hx=>?_⟩
 rcases List.mem_append.mp hx with g | g
 ·exact h2 x g
 ·exact h _ (.head _) x g
theorem same_user {fpi fp':Led} {du:Addr} {a b:Obj} (h:ak fp' fpi):ak ((du,a)::fp') ((du,b)::fpi):=by
 unfold ak at *;simp only [List.map_cons,h]
theorem ne_user {fpi fp':Led} {du:Addr} (h:∀ x∈fpi,x.1≠du) (ha:ak fp' fpi):∀ x∈fp',x.1≠du:=fun x hx=>by
 have:x.1∈fpi.map (·.1):=ha ▸ List.mem_map_of_mem hx
 obtain ⟨x',hx',e⟩:=List.mem_map.mp this
 rw [← e];exact h x' hx'
theorem bK.kinds {ents:List En} (o:bK ents):∀ x∈ents.map En.row,x.1.tag % 256≤2:=fun x hx=>by
 obtain ⟨e,he,rfl⟩:=List.mem_map.mp hx
 have:=o.k e he
 rw [tag_k this];omega
section
variable {w:World} {D:Nat} {C:aN} {ents:List En} {upto:Int} {lo hi:Option (Array UInt8)} {fp rest E0 fpi:Led} {u du inner:Addr} {kd:Bool} {q:UP} {p:Option Nat} {od:Obj}
theorem user_x {α:Type} {r0:Option α} (hs:∀ x∈rest,x∈E0) (hne:∀ x∈fpi,x.1≠du) (hin:(u,instObj 611 du)∈rest) {o:Option (Option Nat)} (ho:r0 = none→o = none) {fp':Led} (h:XoP (FixC C rest) q du inner kd upto lo hi (ents.map En.row) fpi E0 r0 fp'):XpW (cI C upto lo hi ents) rest u ((du,od)::fpi) o fp':=by
 obtain ⟨hn,going,tg,sk,sv,tk,tv,fp₁,st,ha,hC⟩:=h
 exact ⟨ho hn,same_user ha,.off du inner kd q st going tg sk tk sv tv fp₁ hC.1 (ne_user hne ha) hin⟩
theorem user_f {start:Nat} {past:Option (Array UInt8)} {g:Int} {tgb:Tok} (hg:g = 0) (f:ed ents upto lo hi) (hs:∀ x∈rest,x∈E0) (hne:∀ x∈fpi,x.1≠du) (hin:(u,instObj 611 du)∈rest) {a:Option Nat} (h0:eu (c9 ents (aI ents upto) start past hi) = some a) {v:Value} {fp':Led} (h:FfP (FixC C rest) q du inner kd upto lo hi g tgb (ents.map En.row) fpi E0 a v fp'):ak fp' ((du,od)::fpi)∧cI C upto lo hi ents fp' rest u a:=by
 subst hg
 obtain ⟨fp₁,st,ta,tb,ha,hC,hst⟩:=h
 refine ⟨same_user ha,?_⟩
 have hgo:cz ents (aI ents upto) start past hi = a:=by
  unfold eu at h0
  split at h0
  ·cases h0
  ·exact Option.some.inj h0
 cases a with
 | none=>exact .off du inner kd q st 0 tgb _ ta _ tb fp₁ hC.1 (ne_user hne ha) hin
 | some j =>
  obtain ⟨e,he,hp,-⟩:=ahead_in f.ok hgo
  obtain rfl:=hst j rfl
  exact .fwd j e du inner kd q tgb _ ta _ tb fp₁ he hp hC.1 (ne_user hne ha) hin
theorem user_b {edge:Nat} (f:ed ents upto lo hi) (hs:∀ x∈rest,x∈E0) (hne:∀ x∈fpi,x.1≠du) (hin:(u,instObj 611 du)∈rest) (hel:edge≤ents.length) (hed:∀ g e,ents[g]? = some e→g < edge→bI hi e.u = false) {r0:Option (Option Nat × Nat)} (hr0:bw lo upto (ents.map En.row) edge none = r0) {v:Value} {fp':Led} (h:GvP r0 (FbP (FixC C rest) q du inner kd upto lo hi (ents.map En.row) fpi E0) v fp'):PtW (cI C upto lo hi ents) rest u ((du,od)::fpi) (eu (c8 ents upto edge lo)) v fp':=by
 revert f hs hne hin hel hed hr0 h
 revert C ents upto lo hi rest E0 fpi u du inner kd q od edge r0 v fp'
 refine no_implicit_lambda% (aW ?_)
 refine no_implicit_lambda% (aW ?_)
 refine no_implicit_lambda% (e20 ?n fun T0=>(?_:bp T0) () () _ _ _ _ _ _ _ _ _ _ _ _ _ _ _ _ _ _)
 case n=>fail "n"
 intro O O C ents upto lo hi rest E0 fpi u du inner kd q od edge r0 v fp'
 intros
 clear T0
 obtain ⟨a,h0,fp₁,tg,ta,tb,ha,hC⟩:=h
 rw [bw_behind f.ok.sortE f.ok.k hel] at hr0
 subst h0
 cases hb:(c8 ents upto edge lo).1 with
 | true=>rw [hb] at hr0;cases hr0
 | false =>
  rw [hb] at hr0
  obtain rfl:=Option.some.inj ((if_neg (by decide)).symm.trans hr0)
  refine ⟨cg ents upto edge lo,by unfold eu;rw [hb];rfl,same_user ha,?_⟩
  show UsI C upto lo hi ents rest u _ ((du,UD q inner upto lo hi 1 tg (cg ents upto edge lo).isSome (cC (ents.map En.row) (cg ents upto edge lo)) ta (eJ (ents.map En.row) (cg ents upto edge lo)) tb)::fp₁)
  cases hg:cg ents upto edge lo with
  | none=>exact .off du inner kd q _ 1 tg _ ta _ tb fp₁ hC.1 (ne_user hne ha) hin
  | some g =>
   obtain ⟨e,he,-,-,-,-,hge,-⟩:=cm hg
   obtain ⟨hbk,hbn⟩:=stop_back f.ok hel hb hg
   have hrow:(ents.map En.row)[g]? = some e.row:=by rw [List.getElem?_map,he];rfl
   rw [dX hrow,savedV_some hrow]
   exact .bwd g _ e du inner kd q tg ta tb fp₁ he (hed g e he hge) hbk (by rw [← dj he];exact hbn) hC.1 (ne_user hne ha) hin
theorem user_bx {edge:Nat} (f:ed ents upto lo hi) (hel:edge≤ents.length) {r0:Option (Option Nat × Nat)} (hr0:bw lo upto (ents.map En.row) edge none = r0) (h:r0 = none):eu (c8 ents upto edge lo) = none:=by
 rw [bw_behind f.ok.sortE f.ok.k hel,h] at hr0
 cases hb:(c8 ents upto edge lo).1 with
 | true=>unfold eu;rw [hb];rfl
 | false=>rw [hb] at hr0;cases hr0
theorem UsI.parts (h:cI C upto lo hi ents fp rest u p):UsParts C upto lo hi ents rest u fp:=by
 revert C ents upto lo hi fp rest u p
 refine no_implicit_lambda% (aW ?_)
 refine no_implicit_lambda% (aW ?_)
 refine no_implicit_lambda% (aW ?_)
 refine no_implicit_lambda% (e12 ?n fun T0=>(?_:bp T0) () () () _ _ _ _ _ _ _ _ _)
 case n=>fail "n"
 intro O O O C ents upto lo hi fp rest u p
 intros
 clear T0
 rcases h with ⟨du,inner,kd,q,st,going,tg,sk,tsk,sv,tsv,fpi,hC,hne,hin⟩ | ⟨j,e,du,inner,kd,q,tg,sk,tsk,sv,tsv,fpi,he,hp,hC,hne,hin⟩ | ⟨j,n,e,du,inner,kd,q,tg,tsk,tsv,fpi,he,hp,hb,hn,hC,hne,hin⟩
 ·exact ⟨_,_,_,_,_,_,_,_,_,_,_,_,_,rfl,hC,hne,hin⟩
 ·exact ⟨_,_,_,_,_,_,_,_,_,_,_,_,_,rfl,hC,hne,hin⟩
 ·exact ⟨_,_,_,_,_,_,_,_,_,_,_,_,_,rfl,hC,hne,hin⟩
theorem user_first (S:al w D C) (f:ed ents upto lo hi) (hU:cI C upto lo hi ents fp rest u p) (hs:∀ x∈rest,x∈E0) (ho:Off fp E0) :
  bc w (D + 10) 552 [.ref u] fp E0 56 (XpW (cI C upto lo hi ents) rest u fp (uFirst ents upto lo hi)) (PtW (cI C upto lo hi ents) rest u fp (uFirst ents upto lo hi)):=by
 obtain ⟨du,inner,kd,q,st,going,tg,good,sk,tsk,sv,tsv,fpi,rfl,hC,hne,hin⟩:=UsI.parts hU
 obtain ⟨o1,o2⟩:=dl ho hne
 have h0:=f.up0
 have h1:=f.up1
 refine (ufirst_c (rest:=E0) (S.fix rest) ⟨hC,hs⟩ o1 o2 (hs _ hin) f.ok.kinds (uFirst ents upto lo hi) (fw_first f.ok f.up0) f.up0 (by omega) fun b hb=>by have:=f.los b hb;omega).post (fun fp' h=>user_x hs hne hin (fun h=>h) h) fun r fp' h=>?_
 obtain ⟨a,ha,tgb,h⟩:=h
 exact ⟨a,ha,user_f rfl f hs hne hin ha h⟩
theorem user_seek {t:Array UInt8} {tt:Tok} (S:al w D C) (f:ed ents upto lo hi) (ht:t.size≤8) (hU:cI C upto lo hi ents fp rest u p) (hs:∀ x∈rest,x∈E0) (ho:Off fp E0) :
  bc w (D + 10) 559 [.ref u,.bytes t tt] fp E0 56 (XpW (cI C upto lo hi ents) rest u fp (uSeek ents upto lo hi t)) (PtW (cI C upto lo hi ents) rest u fp (uSeek ents upto lo hi t)):=by
 obtain ⟨du,inner,kd,q,st,going,tg,good,sk,tsk,sv,tsv,fpi,rfl,hC,hne,hin⟩:=UsI.parts hU
 obtain ⟨o1,o2⟩:=dl ho hne
 have h0:=f.up0
 have h1:=f.up1
 refine (useek_c (rest:=E0) (S.fix rest) ⟨hC,hs⟩ o1 o2 (hs _ hin) f.ok.kinds f.up0 (by omega) (fun b hb=>by have:=f.los b hb;omega) (by omega) (uSeek ents upto lo hi t) (fw_useek f.ok f.up0 t)).post (fun fp' h=>user_x hs hne hin (fun h=>h) h) fun r fp' h=>?_
 obtain ⟨a,ha,tgb,h⟩:=h
 exact ⟨a,ha,user_f rfl f hs hne hin ha h⟩
theorem user_last (S:al w D C) (f:ed ents upto lo hi) (hU:cI C upto lo hi ents fp rest u p) (hs:∀ x∈rest,x∈E0) (ho:Off fp E0) :
  bc w (D + 10) 566 [.ref u] fp E0 56 (XpW (cI C upto lo hi ents) rest u fp (uLast ents upto lo hi)) (PtW (cI C upto lo hi ents) rest u fp (uLast ents upto lo hi)):=by
 obtain ⟨du,inner,kd,q,st,going,tg,good,sk,tsk,sv,tsv,fpi,rfl,hC,hne,hin⟩:=UsI.parts hU
 obtain ⟨o1,o2⟩:=dl ho hne
 have hel:=edgeH_le ents hi
 have hl:=lastLen_eq (hi:=hi) f.ok
 refine (ulast_c (rest:=E0) (S.fix rest) ⟨hC,hs⟩ o1 o2 (hs _ hin) f.ok.kinds _ rfl fun b hb=>by have:=f.his b hb;omega).post (fun fp' h=>user_x hs hne hin (fun h=>user_bx f hel (by rw [hl]) h) h) fun r fp' h=>?_
 exact user_b f hs hne hin hel (fun g e he hg=>edge_in f.ok he hg) (by rw [hl]) h
theorem user_step {j:Nat} (S:al w D C) (f:ed ents upto lo hi) (hU:cI C upto lo hi ents fp rest u (some j)) (hs:∀ x∈rest,x∈E0) (ho:Off fp E0) :
  bc w (D + 10) 587 [.ref u] fp E0 56 (XpW (cI C upto lo hi ents) rest u fp (uStep ents upto hi j)) (PtW (cI C upto lo hi ents) rest u fp (uStep ents upto hi j)):=by
 rcases hU with - | ⟨_,e,du,inner,kd,q,tg,sk,tsk,sv,tsv,fpi,he,hp,hC,hne,hin⟩ | ⟨_,n,e,du,inner,kd,q,tg,tsk,tsv,fpi,he,hp,hb,hn,hC,hne,hin⟩
 ·obtain ⟨o1,o2⟩:=dl ho hne
  have hrow:(ents.map En.row)[j]? = some e.row:=by rw [List.getElem?_map,he];rfl
  refine (ustep0_c (rest:=E0) (S.fix rest) ⟨hC,hs⟩ o1 o2 (hs _ hin) f.ok.kinds (uStep ents upto hi j) (by rw [nextAt_start f.ok (List.getElem?_eq_some_iff.mp hrow).1];exact fw_step f.ok he) hrow).post (fun fp' h=>user_x hs hne hin (fun h=>h) h) fun r fp' h=>?_
  obtain ⟨a,ha,h⟩:=h
  exact ⟨a,ha,user_f rfl f hs hne hin ha h⟩
 ·obtain ⟨o1,o2⟩:=dl ho hne
  have e0:aQ (ents.map En.row) (stepPl (ents.map En.row) (bH n)) = n:=by
   have hl:n≤(ents.map En.row).length:=by rw [List.length_map];have:=hb.le;have:=(List.getElem?_eq_some_iff.mp he).1;omega
   cases n with
   | zero=>show aQ _ (c7 _) = 0;rw [dU,cu (Nat.zero_le _)]
   | succ n=>show aQ _ (dn _ n) = n + 1;rw [dE,cu hl]
  refine (ustep1_c (rest:=E0) (S.fix rest) ⟨hC,hs⟩ o1 o2 (hs _ hin) f.ok.kinds (uStep ents upto hi j) (by rw [e0];exact hb.step f.ok he hp)).post (fun fp' h=>user_x hs hne hin (fun h=>h) h) fun r fp' h=>?_
  obtain ⟨a,ha,tgb,h⟩:=h
  exact ⟨a,ha,user_f rfl f hs hne hin ha h⟩
theorem user_back {j:Nat} (S:al w D C) (f:ed ents upto lo hi) (hU:cI C upto lo hi ents fp rest u (some j)) (hs:∀ x∈rest,x∈E0) (ho:Off fp E0) :
  bc w (D + 10) 594 [.ref u] fp E0 56 (XpW (cI C upto lo hi ents) rest u fp (uBack ents upto lo j)) (PtW (cI C upto lo hi ents) rest u fp (uBack ents upto lo j)):=by
 revert w D C ents upto lo hi fp rest E0 u j
 refine no_implicit_lambda% (e12 ?n fun T0=>(?_:bp T0) _ _ _ _ _ _ _ _ _ _ _ _)
 case n=>fail "n"
 intro w D C ents upto lo hi fp rest E0 u j
 intros
 clear T0
 rcases hU with - | ⟨_,e,du,inner,kd,q,tg,sk,tsk,sv,tsv,fpi,he,hp,hC,hne,hin⟩ | ⟨_,n,e,du,inner,kd,q,tg,tsk,tsv,fpi,he,hp,hb,hn,hC,hne,hin⟩
 ·obtain ⟨o1,o2⟩:=dl ho hne
  have hrow:(ents.map En.row)[j]? = some e.row:=by rw [List.getElem?_map,he];rfl
  have hel:=cF ents e.u
  have hjl:=(List.getElem?_eq_some_iff.mp he).1
  have hbj:belowZ ents e.u≤j:=by
   rcases Nat.lt_or_ge j (belowZ ents e.u) with h | h
   ·have:=(bC (x:=e.u) f.ok.sortE he).mpr h;rw [bj] at this;cases this
   ·exact h
  have e0:dY (bH (er (ents.map En.row) e.row.1.u j)) = belowZ ents e.u:=by rw [lenOf_bef];exact skipb_below f.ok e.u j hbj (by omega)
  unfold uBack
  rw [dj he]
  refine (uback0_c (rest:=E0) (S.fix rest) ⟨hC,hs⟩ o1 o2 (hs _ hin) f.ok.kinds _ rfl hrow).post (fun fp' h=>user_x hs hne hin (fun h=>user_bx f hel (by rw [e0]) h) h) fun r fp' h=>?_
  exact user_b f hs hne hin hel (fun g d hd hg=>below_in f.ok hd he hg hp) (by rw [e0]) h
 ·obtain ⟨o1,o2⟩:=dl ho hne
  have hel:=cF ents e.u
  have e0:bw lo upto (ents.map En.row) (belowZ ents e.u) none = bw lo upto (ents.map En.row) (dY (bH n)) none:=by rw [lenOf_bef];exact hb.back f.ok he hn
  unfold uBack
  rw [dj he]
  refine (uback1_c (rest:=E0) (S.fix rest) ⟨hC,hs⟩ o1 o2 (hs _ hin) f.ok.kinds _ rfl).post (fun fp' h=>user_x hs hne hin (fun h=>user_bx f hel e0 h) h) fun r fp' h=>?_
  exact user_b f hs hne hin hel (fun g d hd hg=>below_in f.ok hd he hg hp) e0 h
end
end
section
open PySem PySem.W PyProof.Rows PySem.Spec
set_option maxHeartbeats 8000000
set_option maxRecDepth 100000
set_option tactic.hygienic false
structure RdM (w:World) (D:Nat) (T:Led) (c:Addr) (nm:Str) (P:Value→Prop):Prop where
 it:∃ f,keepIn (Mine.hd.heap_39 w.params) (.ref f) = true∧(∀ {D':Nat} {F:FnC} {b:Bx} {m:MM} {led:Led} {pl:Sem Bool},Okx w D' b→(∀ p∈T,p∈led)→Px w F b (getMethod (.ref c) nm pl) (fun a=>a = (.ref f,[.ref c])) m led) ∧
  (∀ {D':Nat} {F:FnC} {b:Bx} {m:MM} {led:Led},Okx w D' b→D≤D'→F.cs.kind = .function→(∀ p∈T,p∈led)→Px w F b (call (.ref f) ([.ref c]++[])) P m led)
section
variable {w:World} {D D':Nat} {F:FnC} {b:Bx} {m:MM} {led T:Led} {env:Env} {pos ap:Pos} {pl:Sem Bool} {c:Addr} {nm:Str} {P:Value→Prop} {o:Expr}
theorem px_rdm (R:RdM w D T c nm P) (ok:Okx w D' b) (hT:∀ p∈T,p∈led) (h1:Px w F b (eval o env) (fun a=>a = .ref c) m led) (hk:F.cs.kind = .function) (hD:D≤D')
  (he:eval (.Call (.Attribute o nm ap) [] [] pos) env = (do
   let ov ← eval o env
   standAt ap.atName
   let (f,first) ← holding [ov] (getMethod ov nm pl)
   callWith pos f first (backTo pos (starEach [] env)) [])):Px w F b (eval (.Call (.Attribute o nm ap) [] [] pos) env) P m led:=by
 obtain ⟨f,h2,h3,h4⟩:=R.it
 exact pm0 ok h1 (h3 ok hT) (h4 ok hD hk hT) h2 he
theorem op_eqB {x y:Bool}:∀ u v,u = .bool x→v = .bool y→Px w F b (compareOp .Eq u v) (fun a=>a = .bool (x == y)) m led:=fun u v hu hv s Q E f N q=>by subst hu;subst hv;exact eq_bool (q _ s.heap s.toks rfl f N)
theorem pv_tup2 {e1 e2 r:Expr} {k tp} {x y:Array UInt8} {ta:Addr} {t1 t2:Tok} {n:Nat} (ok:Okx w D b) (h1:Px w F b (eval e1 env) (IsB x) m led) (h2:Px w F b (eval e2 env) (IsB y) m led) (h3:∀ z,Px w F b (eval r env) (fun a=>a = .ref ta) m (z::led)) (hm:(ta,aS [.bytes x t1,.bytes y t2] n)∈led)
  (he:starEach [e1,e2] env = (false,eval e1 env)::starEach [e2] env) (he2:starEach [e2] env = (false,eval e2 env)::starEach [] env) (hb:behindInMarks .Eq r = false):Px w F b (eval (.Compare (.Tuple [e1,e2] k tp) [.Eq] [r] pos) env) (fun a=>a = .bool true) m led:=fun s Q E f N q =>
 wpAny_Compare1 (Tuple_ (aU h1 h2 he he2 s _ E f N fun vs h' tk' pa F' N'=>by
  obtain ⟨_,_,rfl,⟨u1,rfl⟩,⟨u2,rfl⟩⟩:=pa
  refine kup_newTuple F' N' (fun a h2' F2' N2' hlt=>h3 _ _ _ E F2' N2' fun v h3' tk3 pa3 F3' N3'=>?_) (by show 2≤sizeLine;decide)
  subst pa3
  refine eq_tuples (ds:=[.b x,.b y]) (es:=[.b x,.b y]) N3' (.head _) (.tail _ hm) (fall_b (fall_b fall_nil)) (fall_b (fall_b fall_nil)) (kinds_b (kinds_b kinds_nil)) (by have:=ok.hu;have e:(tpx F b).units = b.un:=rfl;rw [e];omega) ?_
  exact q _ h3' tk3 (by simp) F3' (bJ N3' fun O h=>.tail _ h))) hb
theorem agree_on {j:Nat} {x y:Array UInt8} {rl ta:Addr} {vs:Array Value} {nv nR nt:Nat} {tpl t1 t2:Tok} (R1:RdM w D T c "valid" fun a=>a = .bool true) (R2:RdM w D T c "key" (IsB x)) (R3:RdM w D T c "value" (IsB y)) (hr:(rl,listOf vs nv)∈T) (hvl:vs.size = nR) (hvn:nR≤1000) (hjn:j < nR) (hta:vs[j]? = some (.ref ta)) (htu:(ta,aS [.bytes x t1,.bytes y t2] nt)∈T) :
  am w (D + 1 + 1) 678 [.ref c,.ref rl,.int (j:Int) tpl] [] T fun r fp'=>r = .bool true∧fp' = []:=by
 refine' ai (binds:=[("walker",.ref c),("rows",.ref rl),("place",.int (j:Int) tpl)]) ?ho ?hcd ?hb ?hl ?c1 ?c2 ?c3 ?c4 ?_
 fail "e"
 intro bb ok φ kφ
 refine aH (c:=decide ((j:Int) < 0) || decide (((vs.size:Nat):Int)≤(j:Int))) (cZ (bE (Px.mono decl_name% isI) ab rfl) fun O=>pc_geI (Px.mono decl_name% isI) (dm ok decl_name% (ah ok nofun nofun (by decide) rfl rfl rfl) hr (by omega) rfl rfl) rfl) (fun h=>?_) fun O=>?_
 ·rw [Bool.or_eq_true,decide_eq_true_eq,decide_eq_true_eq] at h
  omega
 ·exact aZ (pv_and (eL (px_rdm R1 ok (fun O h=>h) decl_name% rfl (by omega) rfl) bX op_eqB rfl) fun O=>pv_tup2 ok (px_rdm R2 ok (fun O h=>h) decl_name% rfl (by omega) rfl) (px_rdm R3 ok (fun O h=>h) decl_name% rfl (by omega) rfl) (fun z=>aK (k:=(j:Int)) decl_name% (Px.mono decl_name% isI) (.tail _ hr) (by omega) (by omega) hta (fun O=>nofun)) htu rfl rfl rfl) fun v hv=>kφ (.ret v) _ [] ⟨hv,rfl⟩
theorem rdm_cur {C:aN} {fp rest:Led} {kd:Bool} {R:List Row} {st:Option Nat} {mn:MN} (S:al w D C) (hC:C fp rest c kd R st) (H:∀ {E0:Led},(∀ p∈rest,p∈E0)→am w D (adr kd mn) [.ref c] fp E0 fun r O=>P r):RdM w D (fp++rest) c mn.name P :=
 ⟨_,aP w kd mn,fun ok hT=>bD ok S hC hT mn,fun ok hD hk hT=>ar ok (H fun p hp=>hT p (aR hp)) (fun O O h=>h) (fun p hp=>hT p (aL hp)) hk hD⟩
end
section
variable {w:World} {D:Nat} {C:aN} {T rest fpi:Led} {u du inner:Addr} {kd:Bool} {R:List Row} {q:UP} {upto going:Int} {lo hi:Option (Array UInt8)} {tg tsk tsv:Tok} {good:Bool} {sk sv:Array UInt8}
theorem dH {nm:Str} {f:Addr} {P:Value→Prop} (m1:(u,instObj 611 du)∈T) (hT:∀ p∈(du,UD q inner upto lo hi going tg good sk tsk sv tsv)::fpi,p∈T) (hl:∀ v1 v2 v3 v4 v5 v6 v7 v8:Value,getL nm [⟨q.h1,.str "inner" q.t1,v1⟩,⟨q.h2,.str "seq" q.t2,v2⟩,⟨q.h3,.str "low" q.t3,v3⟩,⟨q.h4,.str "high" q.t4,v4⟩,⟨q.h5,.str "going" q.t5,v5⟩,⟨q.h6,.str "good" q.t6,v6⟩,⟨q.h7,.str "saved_key" q.t7,v7⟩,⟨q.h8,.str "saved_value" q.t8,v8⟩] = some none)
  (hg:plainGet (Mine.hd.heap_39 w.params) 611 nm = true) (hf:findIn (Mine.hd.heap_39 w.params) (.ref 611) nm = some (some (.ref f))) (hb:isFn (Mine.hd.heap_39 w.params) (.ref f) = true) (hk:keepIn (Mine.hd.heap_39 w.params) (.ref f) = true)
  (H:∀ {E0:Led},(∀ p∈T,p∈E0)→am w D f [.ref u] ((du,UD q inner upto lo hi going tg good sk tsk sv tsv)::fpi) E0 fun r O=>P r):RdM w D T u nm P :=
 ⟨f,hk,fun ok h=>aw ok (h _ m1) (h _ (hT _ (.head _))) (hl _ _ _ _ _ _ _ _) hg hf hb,fun ok hD hkk h=>ar ok (H h) (fun O O h=>h) (fun p hp=>h p (hT p hp)) hkk hD⟩
end
noncomputable def GroundG (fs:List Addr) (A:Around) (base:Heap) (envs:List Env) (K:Frag) (p:Program) (loose:List Str) (mean:ExcName→Option Value) (mg mb:MM) (g₀:Heap):Heap→Prop :=
 fun g=>KtsTurn fs g₀ g∧Below A base envs g∧K.In g∧Top p loose mean mg mb g∧KtsDicts fs g
theorem GroundG.start {fs:List Addr} {A:Around} {base:Heap} {envs:List Env} {K:Frag} {p:Program} {loose:List Str} {mean:ExcName→Option Value} {mg mb:MM} {g₀:Heap}
  (B:Below A base envs g₀) (X:K.In g₀) (T:Top p loose mean mg mb g₀) (D:KtsDicts fs g₀):GroundG fs A base envs K p loose mean mg mb g₀ g₀:=⟨KtsTurn.refl,B,X,T,D⟩
section
variable {prog:Program} {w:World} {A:Around} {s:Shared} {env:Env}
theorem For_Gs {E:VS} {Q:FS} {x:Str} {px pos:Pos} {iter:Expr} {body:List Stmt} {G:Heap→Prop} {g:Heap} (_hg:G g) (hx:env.kindOf x = some .local)
  (hp:(env.scope.kind == .class || (env.scope.kind == .module && env.locals != env.globals)) = false)
  (h:wpAny (model prog w) A (eval iter env) (fun xv s₁=>wpAny (model prog w) A (pyIter xv) (fun it s₂=>LoopAtG prog w A G env x body Q E it s₂) E s₁) E s)
  (hs:∀ x,foldedSetIterable iter env x = pure x:=by intro _;rfl)
  (hE:PassesOwn (model prog w) A env E:=by passes_own) :
  wpAny (model prog w) A (exec (.For (.Name x px) iter body [] pos) env) Q E s:=For_G G hx hp h hs hE
end
theorem TurnG.next {G:Heap→Prop} {g h':Heap} {L:Addr} {J:MM→Led→Prop} {I:Addr} {o:Obj} {s:Shared} {Q:FS} {f:Flow} {m':MM} {news' led:Led} {tk':Nat}
  (hf:f = .next ∨ f = .cont) (F:Fr g L h' m') (N:News g L h' led) (hg:G g) (hI:(I,o)∈led) (hs:∀ p∈news',p∈led) (hne:∀ p∈news',p.1≠I) (hj:J m' news'):TurnG G L J I o s Q f { s with heap:=h',toks:=tk' }:=by
 rcases hf with rfl | rfl <;> exact ⟨g,h',tk',m',news',led,hg,rfl,F,N,hI,hs,hne,hj⟩
noncomputable def CallsX (w:World) (D:Nat) (f:Addr) (args:List Value) (led:Led) (C:Addr):Prop:=bc w D f args [] led C (fun fp'=>fp' = []) fun O O=>False
structure RaM (w:World) (D:Nat) (T:Led) (c:Addr) (nm:Str) (C:Addr):Prop where
 it:∃ f,keepIn (Mine.hd.heap_39 w.params) (.ref f) = true∧(∀ {D':Nat} {F:FnC} {b:Bx} {m:MM} {led:Led} {pl:Sem Bool},Okx w D' b→(∀ p∈T,p∈led)→Px w F b (getMethod (.ref c) nm pl) (fun a=>a = (.ref f,[.ref c])) m led)∧(∀ {led:Led},(∀ p∈T,p∈led)→CallsX w D f [.ref c] led C)
section
variable {w:World} {D D':Nat} {F:FnC} {b:Bx} {C c:Addr} {m:MM} {led T:Led} {env:Env} {pos ap np:Pos} {nm:Str} {pl:Sem Bool} {o:Expr} {χ:MM→Led→Prop} {ψ:VP}
theorem lz_ram (R:RaM w D' T c nm C) (ok:Okx w D b) (hcl:b.cl = []) (hT:∀ p∈T,p∈led) (h1:Px w F b (eval o env) (fun a=>a = .ref c) m led) (hk:F.cs.kind = .function) (hD:D'≤D) (hχ:χ m led)
  (he:eval (.Call (.Attribute o nm ap) [] [] pos) env = (do
   let ov ← eval o env
   standAt ap.atName
   let (f,first) ← holding [ov] (getMethod ov nm pl)
   callWith pos f first (backTo pos (starEach [] env)) [])):Lz .fly w F b (eval (.Call (.Attribute o nm ap) [] [] pos) env) C χ ψ m led:=by
 obtain ⟨f,h2,h3,h4⟩:=R.it
 exact lz_m0 ok h1 (h3 ok hT) (eO ok hcl (h4 hT) hk hD (fun O h=>h) (fun fp' h=>h ▸ hχ) fun O O h=>h.elim) h2 he
theorem px_cstr {msg:Str} {k}:Px w F b (eval (.Constant (.str msg) k pos) env) (fun O=>True) m led:=fun s Q E f N q=>wpAny_Constant_str (q _ s.heap _ trivial f N)
end
theorem bR {w:World} {D:Nat} {T:Led} {x fa C:Addr} {nm nd:Str} {name qual:Str} {params:Arguments} {rest:List Stmt} {scope:Scope} {dV kV doc pm cdv ct oc:Value} {an od:Option Addr} {osl:Array (Option Value)} {xp ap pos ep:Pos} {pl:Bx→Sem Bool} (R:RaM w D T x nd C) (hf:keepIn (Mine.hd.heap_39 w.params) (.ref fa) = true)
  (hm:∀ {D':Nat} {F:FnC} {b:Bx} {m:MM} {led:Led} {pl:Sem Bool},Okx w D' b→(∀ p∈T,p∈led)→Px w F b (getMethod (.ref x) nm pl) (fun a=>a = (.ref fa,[.ref x])) m led)
  (ho:(Mine.hd.heap_39 w.params).lookup fa = some ⟨oc,od,.func (fnOf name qual params (.Expr (.Call (.Attribute (.Name "self" xp) nd ap) [] [] pos) ep::rest) scope dV kV doc pm an cdv ct),osl⟩) (hcd:codeIn (Mine.hd.heap_39 w.params) cdv qual = true)
  (hbind:∀ s,BindsTo s (fnOf name qual params (.Expr (.Call (.Attribute (.Name "self" xp) nd ap) [] [] pos) ep::rest) scope dV kV doc pm an cdv ct) ⟨[.ref x],[]⟩ [("self",.ref x)]) (hloc:∀ y∈[(("self":Str),Value.ref x)],scope.names.lookup y.1 = some .local)
  (hco:scope.isCoroutine = false) (hgen:scope.isGenerator = false) (hk:scope.kind = .function) (hcell:∀ x∈scope.names,x.2≠.cell) (hx:∀ b,(evx ⟨qual,scope,fa,cdv⟩ b).kindOf "self" = some .local)
  (he:∀ b,eval (.Call (.Attribute (.Name "self" xp) nd ap) [] [] pos) (evx ⟨qual,scope,fa,cdv⟩ b) = (do
   let ov ← eval (.Name "self" xp) (evx ⟨qual,scope,fa,cdv⟩ b)
   standAt ap.atName
   let (f,first) ← holding [ov] (getMethod ov nd (pl b))
   callWith pos f first (backTo pos (starEach [] (evx ⟨qual,scope,fa,cdv⟩ b))) []))
  (hi:∀ b,interactive (evx ⟨qual,scope,fa,cdv⟩ b) = false) (hs:∀ b,swapsWith (.Call (.Attribute (.Name "self" xp) nd ap) [] [] pos) none ep.line (evx ⟨qual,scope,fa,cdv⟩ b) = pure false):RaM w (D + 1) T x nm C :=
 ⟨fa,hf,hm,fun hT=>bB .fly ho hcd hbind hloc hco hgen hk hcell fun b ok hcl φ χ kφ xφ=>bd (dw (lz_ram R ok hcl hT (af rfl hk (hx b) rfl) hk (Nat.le_refl _) (xφ [] rfl) (he b)) (hi b) (hs b))⟩
section
variable {w:World} {D:Nat} {T:Led} {x dx ch tp o u du inner:Addr} {q:MP} {qu:UP} {cur going upto:Int} {tc tg tsk tsv:Tok} {lo hi:Option (Array UInt8)} {sk sv:Array UInt8}
theorem ram_mneed (m1:(x,instObj 506 dx)∈T) (m2:(dx,MD q ch tp o (-1) tc going tg)∈T):RaM w 2 T x "need" 92:=⟨433,nofun,fun ok h=>(aw ok (h _ m1) (h _ m2) rfl nofun nofun nofun),fun h=>by
 have m1:=h _ m1
 have m2:=h _ m2
 refine' bB .own (binds:=[("self",.ref x)]) ?ho ?hcd ?hb ?hl ?c1 ?c2 ?c3 ?c4 ?_
 fail "e"
 intro bb ok hcl φ χ kφ xφ
 exact bd (dN (bE (Px.mono (ag ok rfl m1 m2 rfl rfl (by fail "p") nofun (by fail "q") nofun rfl rfl rfl rfl) isI) ab rfl) (fun O=>bd (lz_raise ok hcl px_cstr (xφ [] rfl) nofun nofun PySem.F.excBase_Exception rfl rfl rfl rfl)) fun h=>by cases h)⟩
theorem ram_uneed (m1:(u,instObj 611 du)∈T) (m2:(du,UD qu inner upto lo hi going tg false sk tsk sv tsv)∈T):RaM w 2 T u "need" 92:=⟨538,nofun,fun ok h=>(aw ok (h _ m1) (h _ m2) rfl nofun nofun nofun),fun h=>by
 have m1:=h _ m1
 have m2:=h _ m2
 refine' bB .own (binds:=[("self",.ref u)]) ?ho ?hcd ?hb ?hl ?c1 ?c2 ?c3 ?c4 ?_
 fail "e"
 intro bb ok hcl φ χ kφ xφ
 exact bd (dN (dJ (bt (ag ok rfl m1 m2 rfl rfl (by fail "p") nofun (by fail "q") nofun rfl rfl rfl rfl) rfl)) (fun O=>bd (lz_raise ok hcl px_cstr (xφ [] rfl) nofun nofun PySem.F.excBase_Exception rfl rfl rfl rfl)) fun h=>by cases h)⟩
theorem ram_mkey (m1:(x,instObj 506 dx)∈T) (m2:(dx,MD q ch tp o (-1) tc going tg)∈T):RaM w 3 T x "key" 92:=by
 refine' bR (fa:=496) (ram_mneed m1 m2) nofun (fun ok h=>(aw ok (h _ m1) (h _ m2) rfl nofun nofun nofun)) ?ho ?hcd ?hb ?hl ?c1 ?c2 ?c3 ?c4 ?d1 ?d2 ?d3 ?d4
 fail "e"
 case d1 | d2 | d3 | d4=>exact fun O=>rfl
theorem ram_ukey (m1:(u,instObj 611 du)∈T) (m2:(du,UD qu inner upto lo hi going tg false sk tsk sv tsv)∈T):RaM w 3 T u "key" 92:=by
 refine' bR (fa:=601) (ram_uneed m1 m2) nofun (fun ok h=>(aw ok (h _ m1) (h _ m2) rfl nofun nofun nofun)) ?ho ?hcd ?hb ?hl ?c1 ?c2 ?c3 ?c4 ?d1 ?d2 ?d3 ?d4
 fail "e"
 case d1 | d2 | d3 | d4=>exact fun O=>rfl
theorem ram_mvalue (m1:(x,instObj 506 dx)∈T) (m2:(dx,MD q ch tp o (-1) tc going tg)∈T):RaM w 3 T x "value" 92:=by
 refine' bR (fa:=503) (ram_mneed m1 m2) nofun (fun ok h=>(aw ok (h _ m1) (h _ m2) rfl nofun nofun nofun)) ?ho ?hcd ?hb ?hl ?c1 ?c2 ?c3 ?c4 ?d1 ?d2 ?d3 ?d4
 fail "e"
 case d1 | d2 | d3 | d4=>exact fun O=>rfl
theorem ram_uvalue (m1:(u,instObj 611 du)∈T) (m2:(du,UD qu inner upto lo hi going tg false sk tsk sv tsv)∈T):RaM w 3 T u "value" 92:=by
 refine' bR (fa:=608) (ram_uneed m1 m2) nofun (fun ok h=>(aw ok (h _ m1) (h _ m2) rfl nofun nofun nofun)) ?ho ?hcd ?hb ?hl ?c1 ?c2 ?c3 ?c4 ?d1 ?d2 ?d3 ?d4
 fail "e"
 case d1 | d2 | d3 | d4=>exact fun O=>rfl
theorem ram_mstep (m1:(x,instObj 506 dx)∈T) (m2:(dx,MD q ch tp o (-1) tc going tg)∈T):RaM w 3 T x "step" 92:=by
 refine' bR (fa:=482) (ram_mneed m1 m2) nofun (fun ok h=>(aw ok (h _ m1) (h _ m2) rfl nofun nofun nofun)) ?ho ?hcd ?hb ?hl ?c1 ?c2 ?c3 ?c4 ?d1 ?d2 ?d3 ?d4
 fail "e"
 case d1 | d2 | d3 | d4=>exact fun O=>rfl
theorem ram_ustep (m1:(u,instObj 611 du)∈T) (m2:(du,UD qu inner upto lo hi going tg false sk tsk sv tsv)∈T):RaM w 3 T u "step" 92:=by
 refine' bR (fa:=587) (ram_uneed m1 m2) nofun (fun ok h=>(aw ok (h _ m1) (h _ m2) rfl nofun nofun nofun)) ?ho ?hcd ?hb ?hl ?c1 ?c2 ?c3 ?c4 ?d1 ?d2 ?d3 ?d4
 fail "e"
 case d1 | d2 | d3 | d4=>exact fun O=>rfl
theorem ram_mback (m1:(x,instObj 506 dx)∈T) (m2:(dx,MD q ch tp o (-1) tc going tg)∈T):RaM w 3 T x "back" 92:=by
 refine' bR (fa:=489) (ram_mneed m1 m2) nofun (fun ok h=>(aw ok (h _ m1) (h _ m2) rfl nofun nofun nofun)) ?ho ?hcd ?hb ?hl ?c1 ?c2 ?c3 ?c4 ?d1 ?d2 ?d3 ?d4
 fail "e"
 case d1 | d2 | d3 | d4=>exact fun O=>rfl
theorem ram_uback (m1:(u,instObj 611 du)∈T) (m2:(du,UD qu inner upto lo hi going tg false sk tsk sv tsv)∈T):RaM w 3 T u "back" 92:=by
 refine' bR (fa:=594) (ram_uneed m1 m2) nofun (fun ok h=>(aw ok (h _ m1) (h _ m2) rfl nofun nofun nofun)) ?ho ?hcd ?hb ?hl ?c1 ?c2 ?c3 ?c4 ?d1 ?d2 ?d3 ?d4
 fail "e"
 case d1 | d2 | d3 | d4=>exact fun O=>rfl
end
section
variable {w:World} {D:Nat} {F:FnC} {b:Bx} {C c:Addr} {m:MM} {led T:Led}
structure Anew (w:World) (D:Nat) (b:Bx) (g':Heap):Prop where
 turn:KtsTurn (b.outer.filterMap (·.frame)) b.g g'
 ok:Okx w D { b with g:=g' }
 dicts:KtsDicts (b.outer.filterMap (·.frame)) g'
structure Base (w:World) (b:Bx):Prop where
 cl:b.cl = []
 dp:∃ n,b.dp = n + 1
 un:∃ n,b.un = n + 3
 X:(Mine.hd.heap_39 w.params).In b.base
 T:Top VW (looseW VW []) b.mean b.mg b.mb b.base
theorem try_g {χ:MM→Led→Prop} {φ:MM→Led→Prop} {x:Str} {hpos xp pos:Pos} {body suite:List Stmt} {b₀:Stmt} {s:Shared} {Q:FS} {E:VS} (ok:Okx w D b) (B:Base w b) (d:KtsDicts (b.outer.filterMap (·.frame)) b.g) (f:Fr b.g b.L s.heap m) (N:News b.g b.L s.heap led)
  (h:Lz .fly w F b (execs body (evx F b)) C χ (fun fl m' led'=>fl = .next∧φ m' led') m led) (e1:nsIn (Mine.hd.heap_39 w.params) mainGlobals x = some (some (.ref C))) (q1:ktsIn (Mine.hd.heap_39 w.params) C "BaseException" = true)
  (kn:∀ m' led' h' tk',φ m' led'→Fr b.g b.L h' m'→News b.g b.L h' led'→Q .next { s with heap:=h',toks:=tk' })
  (kk:∀ A g' m' led' h' tk',Anew w D b g'→χ m' led'→Fr g' b.L h' m'→News g' b.L h' led'→wpAny (model PG w) A (execs (b₀::suite) (evx F b)) Q (fun O O=>False) { s with heap:=h',toks:=tk' })
  (hk:F.cs.kind = .function) (hx:(evx F b).kindOf x = some .globalImplicit) (hd:(x == ("__debug__":Str)) = false) :
  wpAny (model PG w) (tpx F b) (exec (.Try body [.ExceptHandler (some (.Name x xp)) none (b₀::suite) hpos] [] [] pos) (evx F b)) Q E s:=by
 obtain ⟨hcl,⟨dp',hdp⟩,⟨un',hun⟩,XB,TB⟩:=B
 have e2:evx F b = envOf F.cn F.cs b.L F.a F.cd:=by unfold evx;rw [hcl];rfl
 have e3:tpx F b = Around.deeper { handled:=none,depth:=dp',frames:=some b.outer,guards:=b.gd,units:=un' } (envOf F.cn F.cs b.L F.a F.cd):=by unfold tpx;rw [hcl,hdp,hun];rfl
 refine wpAny_mono (E:=fun O O=>False) (wpAny_Try_except (h s _ _ f N (fun fl m' led' h' tk' hp F' N'=>?_) fun e s' hx1=>?_)) (fun O O z=>z) fun O O z=>z.elim
 ·obtain ⟨rfl,hp⟩:=hp
  exact wpAny_execs_nil (kn _ _ h' tk' hp F' N')
 ·obtain ⟨ea,vs,t,G,h',tk',m',led',rfl,rfl,hχ,F1,R1,U1⟩:=hx1
  rw [e2] at kk hx ⊢
  rw [e3]
  exact caught_SO0 (g₀:=b.g) (mg:=b.mg) (mb:=b.mb) (mean:=b.mean) (p:=VW) (loose:=looseW VW []) R1 F1 ⟨rfl,ok.B.stays,ok.B.frames⟩ U1 XB TB d .refl e1 q1 (fun h2 g' n2 T' F' N2 G' N' B' X' P' D'=>kk _ g' m' led' h2 _ ⟨T',⟨⟨ok.B.stack,B'.stays,B'.frames⟩,X',P',ok.hd,ok.hu⟩,D'⟩ hχ F' N') hk hx hd PassesOwnAt.never
noncomputable def TurnOk (w:World) (D:Nat) (F:FnC) (body:List Stmt) (T:Led) (c:Addr):Prop :=
 ∀ (b:Bx) (m:MM) (i:Int) (t:Tok) (led:Led) (s:Shared) (Q:FS) (E:VS),Okx w D b→Base w b→KtsDicts (b.outer.filterMap (·.frame)) b.g→(∀ p∈T,p∈led)→m "walker" = some (.ref c)→Fr b.g b.L s.heap (ms m "turn" (.int i t))→News b.g b.L s.heap led →
  (∀ g' m' h' tk',Anew w D b g'→m' "walker" = some (.ref c)→Fr g' b.L h' m'→News g' b.L h' led→Q .next { s with heap:=h',toks:=tk' })→wpAny (model PG w) (tpx F b) (execs body (evx F b)) Q E s
theorem TurnOk.go {body:List Stmt} {i:Int} {t:Tok} {s:Shared} {Q:FS} {E:VS} (h:TurnOk w D F body T c) (ok:Okx w D b) (B:Base w b) (d:KtsDicts (b.outer.filterMap (·.frame)) b.g) (hT:∀ p∈T,p∈led) (e1:m "walker" = some (.ref c)) (f:Fr b.g b.L s.heap (ms m "turn" (.int i t))) (N:News b.g b.L s.heap led)
  (k:∀ g' m' h' tk',Anew w D b g'→m' "walker" = some (.ref c)→Fr g' b.L h' m'→News g' b.L h' led→Q .next { s with heap:=h',toks:=tk' }):wpAny (model PG w) (tpx F b) (execs body (evx F b)) Q E s:=h b m i t led s Q E ok B d hT e1 f N k
theorem misused_r {s:Shared} {Q E:VS} (R1:RaM w 3 led c "key" 92) (R2:RaM w 3 led c "value" 92) (R3:RaM w 3 led c "step" 92) (R4:RaM w 3 led c "back" 92) (ok:Okx w D b) (hD:8≤D) (hcl:b.cl = []) (XB:(Mine.hd.heap_39 w.params).In b.base) (TB:Top VW (looseW VW []) b.mean b.mg b.mb b.base) (d:KtsDicts (b.outer.filterMap (·.frame)) b.g) (f:Fr b.g b.L s.heap m) (N:News b.g b.L s.heap led) (hk:F.cs.kind = .function)
  (k:∀ g' h' tk',Anew w D b g'→Fr g' b.L h' m→News g' b.L h' led→Q (.bool true) { s with heap:=h',toks:=tk' }):wpAny (model PG w) (tpx F b) (call (.ref 671) [.ref c]) Q E s:=by
 revert w D F b c m led s Q E
 refine no_implicit_lambda% (aW ?_)
 refine no_implicit_lambda% (aW ?_)
 refine no_implicit_lambda% (e12 ?n fun T0=>(?_:bp T0) () () _ _ _ _ _ _ _ _ _ _)
 case n=>fail "n"
 intro O O w D F b c m led s Q E
 intros
 clear T0
 have hd:=ok.hd
 have hu:=ok.hu
 have e3:tpx F b = ktrTop b.dp b.un b.gd F.cn F.cs b.L F.a F.cd [] b.outer:=by unfold tpx;rw [hcl]
 rw [e3]
 refine wpAny_call ?_
 refine' code_defS (g₀:=b.g) (cn:=F.cn) (cs:=F.cs) (a:=F.a) (ccd:=F.cd) (binds:=[("walker",.ref c)]) ok.B f ok.X N ok.T XB TB d .refl rfl ?ho ?hcd ?hr ?hb ?hl ?_ hk ?c1 ?c2 ?c3 ?c4
 (case ho=>with_unfolding_all rfl)
 (case hcd=>with_unfolding_all rfl)
 (case hr=>show b.dp < recursionLimit;omega)
 (case hb=>exact BindsTo.of_eq rfl)
 (case hl=>exact locs rfl)
 (case c1=>rfl)
 (case c2=>rfl)
 (case c3=>rfl)
 (case c4=>decide)
 intro g1 L1 h1 FG F1 N1 B1 X1 T1 D1
 have hg0:=GroundG.start B1 X1 T1 D1
 refine wpAny_execs_cons (wpAny_mono (E:=fun O O=>False) (For_Gs hg0 rfl rfl ?_ (fun O=>rfl) PassesOwn.never) (fun O O z=>z) fun O O z=>z.elim)
 refine Call_ (nameX_B F1 X1 (topRead_of T1) nofun nofun (by decide) ?_) rfl
 refine Pv.callWith_type1 (args_cons (wpAny_Constant_int (args_nil ?_)) rfl) rfl rfl
 refine range1_rows F1 N1 fun h3 tk3 t₁ u₁ v₁ RR F3 N3 O=>?_
 refine iter_upG (n:=4) (fun O m₁ news₁=>news₁ = led∧m₁ "walker" = some (.ref c)) rfl RR (by decide) F3 N3 hg0 (fun g h=>h.1.none_) ⟨rfl,rfl⟩ ?_ ?_
 ·intro i t m₁ news₁ h tk I oI gg hi hx1 hx2 hne F₁ N₁
  obtain ⟨gT,gB,gX,gP,gD⟩:=hx1
  obtain ⟨rfl,e1⟩:=hx2
  refine TurnOk.go (D:=D - 1) (F:=⟨_,_,671,_⟩) (b:=inB F b gg L1) (T:=news₁) ?_ ⟨gB,gX,gP,by show b.dp + 1 + (D - 1) < _;omega,by show b.un + 3 + 8 * (D - 1) < _;omega⟩ ⟨rfl,⟨_,rfl⟩,⟨_,rfl⟩,XB,TB⟩ gD (fun O hp=>.tail _ hp) e1 F₁ N₁ fun g' m' h' tk' A e2 F4 N4=>TurnG.next (.inl rfl) F4 N4 ⟨gT.trans A.turn,A.ok.B,A.ok.X,A.ok.T,A.dicts⟩ (.head _) (fun O hp=>.tail _ hp) hne ⟨rfl,e2⟩
  clear F₁ N₁ gT gB gX gP gD hne e1 F3 N3 RR FG F1 N1 B1 X1 T1 D1 hg0 f N k d XB TB ok hd hu
  intro b m i t led s Q E ok B d hT e1 f N k
  refine wpAny_execs_cons (wpAny_Assign_Name (wpAny_Constant_bool (storeX_L f N (fun h2 F2 N2=>?_) rfl rfl)) rfl)
  refine wpAny_execs_cons (try_g (F:=⟨_,_,671,_⟩) (C:=92) (χ:=fun m' led'=>m' = ms (ms m "turn" (.int i t)) "told" (.bool false)∧led' = led) (φ:=fun O O=>False) ok B d F2 N2 ?_ nofun nofun (fun O O O O h=>h.elim) (fun A g' m' led' h' tk' An hχ F3 N3=>?_) rfl rfl rfl)
  ·exact bd (dN (bn (i:=i) (Px.mono decl_name% isI) ab rfl) (fun O=>bd (dw (lz_ram R1 ok B.cl hT (af e1 rfl rfl rfl) rfl (by omega) ⟨rfl,rfl⟩ rfl) rfl rfl)) fun O =>
    bd (dN (bn (i:=i) (Px.mono decl_name% isI) ab rfl) (fun O=>bd (dw (lz_ram R2 ok B.cl hT (af e1 rfl rfl rfl) rfl (by omega) ⟨rfl,rfl⟩ rfl) rfl rfl)) fun O =>
    bd (dN (bn (i:=i) (Px.mono decl_name% isI) ab rfl) (fun O=>bd (dw (lz_ram R3 ok B.cl hT (af e1 rfl rfl rfl) rfl (by omega) ⟨rfl,rfl⟩ rfl) rfl rfl)) fun O =>
    bd (dw (lz_ram R4 ok B.cl hT (af e1 rfl rfl rfl) rfl (by omega) ⟨rfl,rfl⟩ rfl) rfl rfl))))
  ·obtain ⟨rfl,rfl⟩:=hχ
   refine wpAny_execs_cons (wpAny_Assign_Name (wpAny_Constant_bool (storeX_L F3 N3 (fun h4 F4 N4=>wpAny_execs_nil ?_) rfl rfl)) rfl)
   refine (aH (F:=⟨_,_,671,_⟩) (b:={ b with g:=g' }) (m:=ms (ms (ms m "turn" (.int i t)) "told" (.bool false)) "told" (.bool true)) (φ:=fun fl m1 led1=>fl = .next∧m1 "walker" = some (.ref c)∧led1 = led') (c:=!true) (dJ (bt decl_name% rfl)) (fun h=>by cases h) fun O=>ae ⟨rfl,e1,rfl⟩) _ _ _ F4 N4 fun fl m' led' h5 tk5 hq F5 N5=>?_
   obtain ⟨rfl,e2,rfl⟩:=hq
   exact k g' m' h5 tk5 An e2 F5 N5
 ·intro m₁ news₁ h tk gg hx3 hx4 F₁ N₁
  obtain ⟨gT,gB,gX,gP,gD⟩:=hx3
  obtain ⟨rfl,e1⟩:=hx4
  refine wpAny_execs_cons (wpAny_Return_some (wpAny_Constant_bool ?_))
  exact leaveS_r F₁ N₁ gT fun h₀' T2 F2 N2 B2 X2 P2 D2=>k h₀' _ _ ⟨T2,⟨B2,X2,P2,hd,hu⟩,D2⟩ F2 N2
end
noncomputable def ef (w:World) (D:Nat) (f:Addr) (args:List Value) (fp rest:Led) (post:Value→Led→Prop):Prop :=
 ∀ (dp un:Nat) (gd:Option (List Code)) (cn:Str) (cs:Scope) (a:Addr) (ccd:Value) (cl:List (Str × Addr)) (A₀:Around) (base h₀:Heap) (L:Addr) (m mg mb:MM) (mean:ExcName→Option Value) (s:Shared) (Q E:VS),
  Below A₀ base [] h₀→Fr h₀ L s.heap m→(Mine.hd.heap_39 w.params).In h₀→News h₀ L s.heap (fp++rest)→Top VW (looseW VW []) mean mg mb h₀→(Mine.hd.heap_39 w.params).In base→Top VW (looseW VW []) mean mg mb base→cs.kind = .function→dp + D < recursionLimit→un + 8 * D < cLine →
  (∀ r fp' h' tk',Fr h₀ L h' m→News h₀ L h' (fp'++rest)→post r fp'→Q r { s with heap:=h',toks:=tk' }) →
  wpAny (model Challenge.rw_no0415_02.row.prog w) (ktrTop dp un gd cn cs L a ccd cl []) (call (.ref f) args) Q E s
noncomputable def AgOk (w:World) (D:Nat) (F:FnC) (body:List Stmt) (T:Led) (m:MM):Prop :=
 ∀ (b:Bx) (s:Shared) (Q:FS) (E:VS),Okx w D b→Base w b→KtsDicts (b.outer.filterMap (·.frame)) b.g→Fr b.g b.L s.heap m→News b.g b.L s.heap T →
  (∀ g' m' h' tk',Anew w D b g'→Fr g' b.L h' m'→News g' b.L h' T→Q (.ret (.bool true)) { s with heap:=h',toks:=tk' })→wpAny (model PG w) (tpx F b) (execs body (evx F b)) Q E s
theorem AgOk.go {w:World} {D:Nat} {F:FnC} {body:List Stmt} {T:Led} {m:MM} {b:Bx} {s:Shared} {Q:FS} {E:VS} (h:AgOk w D F body T m) (ok:Okx w D b) (B:Base w b) (d:KtsDicts (b.outer.filterMap (·.frame)) b.g) (f:Fr b.g b.L s.heap m) (N:News b.g b.L s.heap T)
  (k:∀ g' m' h' tk',Anew w D b g'→Fr g' b.L h' m'→News g' b.L h' T→Q (.ret (.bool true)) { s with heap:=h',toks:=tk' }):wpAny (model PG w) (tpx F b) (execs body (evx F b)) Q E s:=h b s Q E ok B d f N k
section
variable {w:World} {D:Nat} {c rl:Addr} {T:Led} {vs:Array Value} {nv nR:Nat} {place:Int} {tpl:Tok}
theorem agree_off (R0:RdM w D T c "valid" fun a=>a = .bool false) (R1:RaM w 3 T c "key" 92) (R2:RaM w 3 T c "value" 92) (R3:RaM w 3 T c "step" 92) (R4:RaM w 3 T c "back" 92) (hr:(rl,listOf vs nv)∈T) (hvl:vs.size = nR) (hvn:nR≤1000) (hp:place < 0 ∨ (0≤place∧(nR:Int)≤place)) :
  ef w (D + 10) 678 [.ref c,.ref rl,.int place tpl] [] T fun r fp'=>r = .bool true∧fp' = []:=by
 intro dp un gd cn cs a ccd cl A₀ base h₀ L m mg mb mean s Q E B F X N T0 XB TB hk hd hu k
 refine wpAny_call ?_
 refine' code_defSX (binds:=[("walker",.ref c),("rows",.ref rl),("place",.int place tpl)]) B F X N T0 rfl ?ho ?hcd ?hr ?hb ?hl ?_ hk ?c1 ?c2 ?c3 ?c4
 (case ho=>with_unfolding_all rfl)
 (case hcd=>with_unfolding_all rfl)
 (case hr=>show dp < recursionLimit;omega)
 (case hb=>exact BindsTo.of_eq rfl)
 (case hl=>exact locs rfl)
 (case c1=>rfl)
 (case c2=>rfl)
 (case c3=>rfl)
 (case c4=>decide)
 intro g1 L1 h1 FG F1 N1 B1 X1 T1 D1
 refine AgOk.go (D:=D + 9) (F:=⟨_,_,678,_⟩) (b:=⟨dp + 1,un + 3,gd,[],[envX cn cs L a ccd cl],ktrTop dp un gd cn cs L a ccd cl [],base,g1,L1,mg,mb,mean⟩) ?_ ⟨B1,X1,T1,by show dp + 1 + (D + 9) < _;omega,by show un + 3 + 8 * (D + 9) < _;omega⟩ ⟨rfl,⟨_,rfl⟩,⟨_,rfl⟩,XB,TB⟩ D1 F1 N1 fun g' m' h' tk' A F7 N7=>leaveS0_ F7 N7 A.turn fun F8 N8=>k _ [] _ _ F8 N8 ⟨rfl,rfl⟩
 clear F1 N1 FG B1 X1 T1 D1 k XB TB T0 N X F B hd hu
 intro b s Q E ok B d f N k
 refine wpAny_execs_cons (wpAny_If ((cZ (c2:=decide (((vs.size:Nat):Int)≤place)) (bE (i:=place) (Px.mono decl_name% isI) ab rfl) fun O=>pc_geI (i:=place) (Px.mono decl_name% isI) (dm ok decl_name% (ah ok nofun nofun (by decide) rfl rfl rfl) hr (by omega) rfl rfl) rfl:Px w ⟨_,_,678,_⟩ b _ _ _ _) _ _ _ f N fun v h2 tk2 hv F2 N2=>?_))
 have hv2:v = true:=by
  rw [hv,Bool.or_eq_true,decide_eq_true_eq,decide_eq_true_eq];omega
 subst hv2
 refine wpAny_execs_cons (wpAny_Return_some (BoolOp_and ((eL (px_rdm R0 ok (fun O h=>h) decl_name% rfl (by omega) rfl) bX op_eqB rfl:Px w ⟨_,_,678,_⟩ b _ _ _ _) _ _ _ F2 N2 fun v h3 tk3 hv F3 N3=>?_)))
 subst hv
 refine wpAny_truthy_bool (BoolOp_and (Call_ (((ao ok nofun rfl rfl rfl):Px w ⟨_,_,678,_⟩ b _ _ _ _) _ _ _ F3 N3 fun v h4 tk4 hv F4 N4=>?_) rfl))
 subst hv
 refine callWith_K ok.X nofun ((az decl_name% rfl:Px w ⟨_,_,678,_⟩ b _ _ _ _) _ _ _ F4 N4 fun vs h5 tk5 hvs F5 N5=>⟨ok.X.keeps F5.keep,?_⟩) rfl rfl
 obtain ⟨_,rfl,rfl⟩:=hvs
 refine misused_r (F:=⟨_,_,678,_⟩) R1 R2 R3 R4 ok (by omega) B.cl B.X B.T d F5 N5 rfl fun g' h6 tk6 A F6 N6=>?_
 refine wpAny_truthy_bool (BoolOp_one ((eL (px_rdm R0 A.ok (fun O h=>h) decl_name% rfl (by omega) rfl) bX op_eqB rfl:Px w ⟨_,_,678,_⟩ ({ b with g:=g' }:Bx) _ _ _ _) _ _ _ F6 N6 fun v h7 tk7 hv F7 N7=>?_))
 subst hv
 exact k g' _ _ _ A F7 N7
end
abbrev RowB:=Array UInt8 × Array UInt8
noncomputable def adrW:Bool→MN→Addr
 | true,m=>adr true m
 | false,.valid=>531 | false,.key=>601 | false,.value=>608 | false,.first=>552 | false,.last=>566 | false,.seek=>559 | false,.step=>587 | false,.back=>594
noncomputable def clsW:Bool→Addr | false=>611 | true=>506
noncomputable def aE (n:Nat) (place:Int):Option Nat:=if 0≤place∧place < n then some place.toNat else none
noncomputable def firstP (n:Nat):Option Nat:=if 0 < n then some 0 else none
noncomputable def nextP (n p:Nat):Option Nat:=if p + 1 < n then some (p + 1) else none
structure RowsL (rest:Led) (rl:Addr) (rows:List RowB) (vs:Array Value) (n:Nat):Prop where
 lst:(rl,listOf vs n)∈rest
 size:vs.size = rows.length
 small:rows.length≤1000
 row:∀ (i:Nat) (k v:Array UInt8),rows[i]? = some (k,v)→∃ a t1 t2 n',vs[i]? = some (.ref a)∧(a,aS [.bytes k t1,.bytes v t2] n')∈rest
structure Mvs where
 first:Option (Option Nat)
 last:Option (Option Nat)
 seek:Array UInt8→Nat→Option (Option Nat)
 step:Nat→Option (Option Nat)
 back:Nat→Option (Option Nat)
noncomputable def tgB (wk:Bool) (u:Array UInt8) (q:Nat):Array UInt8:=if wk then ikb ⟨u,q,1⟩ else u
structure WkSpec (w:World) (D:Nat) (wk:Bool) (rows:List RowB) (fo:Mvs) (W:WkP):Prop where
 mono:∀ {fp rest rest' c p},W fp rest c p→(∀ x∈rest,x∈rest')→W fp rest' c p
 obj:∀ {fp rest c p},W fp rest c p→∃ dx es n,(c,instObj (clsW wk) dx)∈rest∧(dx,dictOf es n)∈fp∧∀ mn:MN,getL mn.name es = some none
 first:∀ {fp rest E0 c p},W fp rest c p→(∀ x∈rest,x∈E0)→Off fp E0→bc w D (adrW wk .first) [.ref c] fp E0 56 (XpW W rest c fp fo.first) (PtW W rest c fp fo.first)
 last:∀ {fp rest E0 c p},W fp rest c p→(∀ x∈rest,x∈E0)→Off fp E0→bc w D (adrW wk .last) [.ref c] fp E0 56 (XpW W rest c fp fo.last) (PtW W rest c fp fo.last)
 seek:∀ {fp rest E0 c p} {u:Array UInt8} {q:Nat} {t:Tok},W fp rest c p→(∀ x∈rest,x∈E0)→Off fp E0→u.size≤8→q≤3→bc w D (adrW wk .seek) [.ref c,.bytes (tgB wk u q) t] fp E0 56 (XpW W rest c fp (fo.seek u q)) (PtW W rest c fp (fo.seek u q))
 step:∀ {fp rest E0 c j},W fp rest c (some j)→(∀ x∈rest,x∈E0)→Off fp E0→bc w D (adrW wk .step) [.ref c] fp E0 56 (XpW W rest c fp (fo.step j)) (PtW W rest c fp (fo.step j))
 back:∀ {fp rest E0 c j},W fp rest c (some j)→(∀ x∈rest,x∈E0)→Off fp E0→bc w D (adrW wk .back) [.ref c] fp E0 56 (XpW W rest c fp (fo.back j)) (PtW W rest c fp (fo.back j))
 agree:∀ {fp rest E0 c rl vs n place tp},W fp rest c (aE rows.length place)→(∀ x∈rest,x∈E0)→Off fp E0→RowsL E0 rl rows vs n→ef w (D + 12) 678 [.ref c,.ref rl,.int place tp] fp E0 fun r fp'=>r = .bool true∧fp' = fp
theorem firstP_place (n:Nat):firstP n = aE n 0:=by
 unfold firstP aE
 by_cases h:0 < n
 ·rw [if_pos h,if_pos ⟨by omega,by omega⟩];rfl
 ·rw [if_neg h,if_neg (by omega)]
theorem lastP_place (n:Nat):bH n = aE n ((n:Int) - 1):=by
 unfold bH aE
 by_cases h:n = 0
 ·rw [if_pos h,if_neg (by omega)]
 ·rw [if_neg h,if_pos ⟨by omega,by omega⟩];congr 1;exact (Int.pred_toNat (n:Int)).symm
theorem nextP_place {n p:Nat} (h:p < n):nextP n p = aE n ((p:Int) + 1):=by
 unfold nextP aE
 by_cases h:p + 1 < n
 ·rw [if_pos h,if_pos ⟨by omega,by omega⟩];rfl
 ·rw [if_neg h,if_neg (by omega)]
theorem backP_place {n p:Nat} (h:p < n):bH p = aE n ((p:Int) - 1):=by
 unfold bH aE
 by_cases h:p = 0
 ·rw [if_pos h,if_neg (by omega)]
 ·rw [if_neg h,if_pos ⟨by omega,by omega⟩];congr 1;exact (Int.pred_toNat (p:Int)).symm
theorem seekAt_place (R:List Row) (e:IK):bM R e = aE R.length (ltLen R e:Int):=by
 show (if ltLen R e < R.length then some (ltLen R e) else none) = _
 unfold aE
 by_cases h:ltLen R e < R.length
 ·rw [if_pos h,if_pos ⟨by omega,by omega⟩];rfl
 ·rw [if_neg h,if_neg (by omega)]
noncomputable def mMvs (ents:List En):Mvs:=⟨some (aE ents.length 0),some (aE ents.length ((ents.length:Int) - 1)),fun u q=>some (aE ents.length (seekN ents u q:Int)),fun j=>some (aE ents.length ((j:Int) + 1)),fun j=>some (aE ents.length ((j:Int) - 1))⟩
noncomputable def uMvs (ents:List En) (upto:Int) (lo hi:Option (Array UInt8)):Mvs:=⟨uFirst ents upto lo hi,uLast ents upto lo hi,fun u O=>uSeek ents upto lo hi u,uStep ents upto hi,uBack ents upto lo⟩
theorem am.pt {w:World} {D D':Nat} {f:Addr} {args:List Value} {fp rest E0:Led} {W:WkP} {c:Addr} {a a':Option Nat} {o:Option (Option Nat)} (h:am w D f args fp E0 fun r fp'=>r = .none∧ak fp' fp∧W fp' rest c a) (hd:D≤D') (ha:a = a') (ho:o = some a'):bc w D' f args fp E0 56 (XpW W rest c fp o) (PtW W rest c fp o):=by
 subst ha
 subst ho
 exact ((h.deep hd).post fun r fp' g=>(⟨a,rfl,g.2⟩:PtW W rest c fp (some a) r fp')).z
theorem am.toL {w:World} {D D':Nat} {f:Addr} {args:List Value} {fp rest:Led} {post:Value→Led→Prop} (h:am w D f args fp rest post) (hd:D≤D'):ef w D' f args fp rest post:=fun dp un gd cn cs a ccd cl A₀ base h₀ L m mg mb mean s Q E B F X N T O O hk hd hu k =>
 h dp un gd cn cs a ccd cl [] A₀ base h₀ L m mg mb mean s Q E B F X N T hk (by omega) (by omega) k
theorem am.still {w:World} {D:Nat} {f:Addr} {args:List Value} {fp rest:Led} {P:Value→Prop} (h:am w D f args [] (fp++rest) fun r fp'=>P r∧fp' = []):am w D f args fp rest fun r fp'=>P r∧fp' = fp:=fun dp un gd cn cs ad ccd cl outer A₀ base h₀ L m mg mb mean s Q E B F X N T hk hd hu k =>
 h dp un gd cn cs ad ccd cl outer A₀ base h₀ L m mg mb mean s Q E B F X N T hk hd hu fun r fp' h' tk' F' N' p=>by
  obtain ⟨hp,rfl⟩:=p
  exact k r fp h' tk' F' N' ⟨hp,rfl⟩
theorem ef.still {w:World} {D D':Nat} {f:Addr} {args:List Value} {fp rest:Led} {P:Value→Prop} (h:ef w D f args [] (fp++rest) fun r fp'=>P r∧fp' = []) (hd:D≤D'):ef w D' f args fp rest fun r fp'=>P r∧fp' = fp:=fun dp un gd cn cs ad ccd cl A₀ base h₀ L m mg mb mean s Q E B F X N T XB TB hk hd' hu k =>
 h dp un gd cn cs ad ccd cl A₀ base h₀ L m mg mb mean s Q E B F X N T XB TB hk (by omega) (by omega) fun r fp' h' tk' F' N' p=>by
  obtain ⟨hp,rfl⟩:=p
  exact k r fp h' tk' F' N' ⟨hp,rfl⟩
noncomputable def MergeW (C:aN) (ents:List En):WkP:=fun fp rest c p=>cO C fp rest c true (ents.map En.row) p
theorem placeP_some {n p:Nat} {place:Int} (h:aE n place = some p):place = (p:Int)∧p < n:=by
 unfold aE at h
 split at h
 ·rename_i g;cases h;exact ⟨(Int.toNat_of_nonneg g.1).symm,(Int.toNat_lt g.1).mpr g.2⟩
 ·cases h
theorem placeP_none {n:Nat} {place:Int} (h:aE n place = none):place < 0 ∨ (0≤place∧(n:Int)≤place):=by
 unfold aE at h
 split at h
 ·cases h
 ·omega
section
set_option maxRecDepth 100000
set_option maxHeartbeats 8000000
variable {w:World} {D:Nat} {C:aN} {ents:List En} {upto:Int} {lo hi:Option (Array UInt8)}
theorem mergeW_spec (S:al w D C) (ok:bK ents):WkSpec w (D + 16) true (ents.map fun e=>(ikb e.row.1,e.row.2)) (mMvs ents) (MergeW C ents) where
 mono:=fun h hs=>(aF S).mono h hs
 obj:=fun h=>(aF S).obj h
 first:=fun h hs ho=>((aF S).first h hs ho).pt (W:=MergeW C ents) (Nat.le_refl _) (by rw [dU,← firstP_place,← List.length_map (f:=En.row)];rfl) rfl
 last:=fun h hs ho=>((aF S).last h hs ho).pt (W:=MergeW C ents) (Nat.le_refl _) (by rw [ew,← lastP_place,List.length_map]) rfl
 seek:=fun {fp rest E0 c p u q t} h hs ho hu hq=>((aF S).seek (e:=⟨u,q,1⟩) (t:=t) h hs ho ⟨by show q < _;omega,by show 1 < 256;omega,by show u.size≤1000;omega⟩).pt (W:=MergeW C ents) (Nat.le_refl _) (by rw [seekAt_place,List.length_map,← seekN_eq ok]) rfl
 step:=fun {fp rest E0 c j} h hs ho=>((aF S).step h hs ho).pt (W:=MergeW C ents) (Nat.le_refl _) (by have:=((aF S).size h).2 j rfl;rw [List.length_map] at this;rw [← nextP_place this];unfold dn nextP;rw [List.length_map]) rfl
 back:=fun {fp rest E0 c j} h hs ho=>((aF S).back h hs ho).pt (W:=MergeW C ents) (Nat.le_refl _) (by have:=((aF S).size h).2 j rfl;rw [List.length_map] at this;rw [← backP_place this];rfl) rfl
 agree:=by
  intro fp rest E0 c rl vs n place tp h hs ho hr
  intro dp un gd cn cs a ccd cl A₀ base h₀ L m mg mb mean s Q E B F X N T XB TB hk hd hu k
  have hsm:=hr.small
  cases hp:aE (ents.map fun e=>(ikb e.row.1,e.row.2)).length place with
  | none =>
   rw [hp] at h
   have h2:MergeI C rest c none fp true (ents.map En.row):=h
   generalize ents.map En.row = RR at h2
   obtain ⟨dx,ch,tpp,o,q,cv,nc,tops,nt,ks,Z,cur,tc,going,tg,h3,h5⟩:=h2
   have hc:cur = -1:=h5
   subst hc
   have m1:(c,instObj 506 dx)∈((dx,MD q ch tpp o (-1) tc going tg)::(tpp,listOf tops nt)::aC ks)++E0:=aR (hs _ h3.inst)
   have m2:(dx,MD q ch tpp o (-1) tc going tg)∈((dx,MD q ch tpp o (-1) tc going tg)::(tpp,listOf tops nt)::aC ks)++E0:=.head _
   have hC:cO C ((dx,MD q ch tpp o (-1) tc going tg)::(tpp,listOf tops nt)::aC ks) E0 c true (Z.map (·.1)) none:=(aF S).mono (.mk dx ch tpp o q cv nc tops nt ks Z (-1) tc going tg h3 rfl) hs
   exact ((agree_off (w:=w) (D:=D + 16) (rdm_cur (mn:=.valid) (aF S) hC fun h=>((aF S).valid hC h).post fun r fp' g=>g.1) (ram_mkey m1 m2) (ram_mvalue m1 m2) (ram_mstep m1 m2) (ram_mback m1 m2) (aR hr.lst) hr.size hsm (placeP_none hp)).still (by omega)) dp un gd cn cs a ccd cl A₀ base h₀ L m mg mb mean s Q E B F X N T XB TB hk hd hu k
  | some j =>
   rw [hp] at h
   obtain ⟨rfl,hj⟩:=placeP_some hp
   have hj2:j < ents.length:=by rwa [List.length_map] at hj
   have he:=List.getElem?_eq_getElem hj2
   have hx:(ents.map En.row)[j]? = some (ents[j]).row:=by rw [List.getElem?_map,he];rfl
   obtain ⟨ta,t1,t2,n',e1,e2⟩:=hr.row j (ikb (ents[j]).row.1) (ents[j]).row.2 (by rw [List.getElem?_map,he];rfl)
   have hC:=(aF S).mono h hs
   have hm:∀ p∈E0,p∈fp++E0:=fun p hp=>aR hp
   exact ((agree_on (w:=w) (D:=D + 16) (rdm_cur (mn:=.valid) (aF S) hC fun h=>((aF S).valid hC h).post fun r fp' g=>g.1) (rdm_cur (mn:=.key) (aF S) hC fun h=>((aF S).key hC hx h).post fun r fp' g=>g.1) (rdm_cur (mn:=.value) (aF S) hC fun h=>((aF S).value hC hx h).post fun r fp' g=>g.1) (hm _ hr.lst) hr.size hsm hj e1 (hm _ e2)).still.toL (by omega)) dp un gd cn cs a ccd cl A₀ base h₀ L m mg mb mean s Q E B F X N T XB TB hk hd hu k
noncomputable def uRows (ents:List En):List RowB:=ents.map fun e=>(e.u,e.row.2)
theorem userW_spec (S:al w D C) (f:ed ents upto lo hi):WkSpec w (D + 12) false (uRows ents) (uMvs ents upto lo hi) (cI C upto lo hi ents) where
 mono:=by
  intro fp rest rest' c p h hs
  rcases h with ⟨du,inner,kd,q,st,going,tg,sk,tsk,sv,tsv,fpi,hC,hne,hin⟩ | ⟨j,e,du,inner,kd,q,tg,sk,tsk,sv,tsv,fpi,he,hp,hC,hne,hin⟩ | ⟨j,n,e,du,inner,kd,q,tg,tsk,tsv,fpi,he,hp,hb,hn,hC,hne,hin⟩
  ·exact .off du inner kd q st going tg sk tsk sv tsv fpi (S.mono hC hs) hne (hs _ hin)
  ·exact .fwd j e du inner kd q tg sk tsk sv tsv fpi he hp (S.mono hC hs) hne (hs _ hin)
  ·exact .bwd j n e du inner kd q tg tsk tsv fpi he hp hb hn (S.mono hC hs) hne (hs _ hin)
 obj:=by
  intro fp rest c p h
  obtain ⟨du,inner,kd,q,st,going,tg,good,sk,tsk,sv,tsv,fpi,rfl,hC,hne,hin⟩:=UsI.parts h
  exact ⟨du,_,_,hin,.head _,fun mn=>by cases mn <;> rfl⟩
 first:=fun h hs ho=>(user_first S f h hs ho).deep (by omega)
 last:=fun h hs ho=>(user_last S f h hs ho).deep (by omega)
 seek:=fun h hs ho hu hq=>(user_seek S f hu h hs ho).deep (by omega)
 step:=fun h hs ho=>(user_step S f h hs ho).deep (by omega)
 back:=fun h hs ho=>(user_back S f h hs ho).deep (by omega)
 agree:=by
  intro fp rest E0 c rl vs n place tp hx5 hs ho hr
  intro dp un gd cn cs a ccd cl A₀ base h₀ L m mg mb mean s Q E B F X N T XB TB hk hd hu k
  have hsm:=hr.small
  cases hp:aE (uRows ents).length place with
  | none =>
   rw [hp] at hx5
   rcases hx5 with ⟨du,inner,kd,q,st,going,tg,sk,tsk,sv,tsv,fpi,hC,h3,h4⟩ | - | -
   obtain ⟨o1,o2⟩:=dl ho h3
   have hT:∀ p∈(du,UD q inner upto lo hi going tg false sk tsk sv tsv)::fpi,p∈((du,UD q inner upto lo hi going tg false sk tsk sv tsv)::fpi)++E0:=fun p hp=>aL hp
   have m1:(c,instObj 611 du)∈((du,UD q inner upto lo hi going tg false sk tsk sv tsv)::fpi)++E0:=aR (hs _ h4)
   have m2:=hT _ (.head _)
   exact ((agree_off (w:=w) (D:=2) (dH (f:=531) m1 hT (fun O O O O O O O O=>rfl) nofun nofun nofun nofun fun h=>((uvalid_c (D:=1) (T:=fpi++_) (aR (h _ m1))).wide).post fun r fp' g=>g.1) (ram_ukey m1 m2) (ram_uvalue m1 m2) (ram_ustep m1 m2) (ram_uback m1 m2) (aR hr.lst) hr.size hsm (placeP_none hp)).still (by omega)) dp un gd cn cs a ccd cl A₀ base h₀ L m mg mb mean s Q E B F X N T XB TB hk hd hu k
  | some j =>
   rw [hp] at hx5
   obtain ⟨rfl,hj⟩:=placeP_some hp
   rcases hx5 with - | ⟨_,e,du,inner,kd,q,tg,sk,tsk,sv,tsv,fpi,he,hpp,hC,h3,h4⟩ | ⟨_,n2,e,du,inner,kd,q,tg,tsk,tsv,fpi,he,hpp,hb,hn,hC,h3,h4⟩
   ·obtain ⟨ta,t1,t2,n',e1,e2⟩:=hr.row j e.u e.row.2 (by unfold uRows;rw [List.getElem?_map,he];rfl)
    have hx:(ents.map En.row)[j]? = some e.row:=by rw [List.getElem?_map,he];rfl
    have hCE:=S.mono hC hs
    have hT:∀ p∈(du,UD q inner upto lo hi 0 tg true sk tsk sv tsv)::fpi,p∈((du,UD q inner upto lo hi 0 tg true sk tsk sv tsv)::fpi)++E0:=fun p hp=>aL hp
    have hm:∀ p∈E0,p∈((du,UD q inner upto lo hi 0 tg true sk tsk sv tsv)::fpi)++E0:=fun p hp=>aR hp
    have m1:=hm _ (hs _ h4)
    exact ((agree_on (w:=w) (D:=D + 4) (dH (f:=531) m1 hT (fun O O O O O O O O=>rfl) nofun nofun nofun nofun fun h=>((uvalid_c (D:=D + 3) (T:=fpi++_) (aR (h _ m1))).wide).post fun r fp' g=>g.1) (dH (f:=601) m1 hT (fun O O O O O O O O=>rfl) nofun nofun nofun nofun fun h=>(ukey0_c S (S.mono hC fun p hp=>h _ (hm _ (hs p hp))) (h _ m1) hx).post fun r fp' g=>g.1) (dH (f:=608) m1 hT (fun O O O O O O O O=>rfl) nofun nofun nofun nofun fun h=>(uvalue0_c S (S.mono hC fun p hp=>h _ (hm _ (hs p hp))) (h _ m1) hx).post fun r fp' g=>g.1) (hm _ hr.lst) hr.size hsm hj e1 (hm _ e2)).still.toL (by omega)) dp un gd cn cs a ccd cl A₀ base h₀ L m mg mb mean s Q E B F X N T XB TB hk hd hu k
   ·obtain ⟨ta,t1,t2,n',e1,e2⟩:=hr.row j e.u e.row.2 (by unfold uRows;rw [List.getElem?_map,he];rfl)
    have hT:∀ p∈(du,UD q inner upto lo hi 1 tg true e.u tsk e.row.2 tsv)::fpi,p∈((du,UD q inner upto lo hi 1 tg true e.u tsk e.row.2 tsv)::fpi)++E0:=fun p hp=>aL hp
    have hm:∀ p∈E0,p∈((du,UD q inner upto lo hi 1 tg true e.u tsk e.row.2 tsv)::fpi)++E0:=fun p hp=>aR hp
    have m1:=hm _ (hs _ h4)
    exact ((agree_on (w:=w) (D:=2) (dH (f:=531) m1 hT (fun O O O O O O O O=>rfl) nofun nofun nofun nofun fun h=>((uvalid_c (D:=1) (T:=fpi++_) (aR (h _ m1))).wide).post fun r fp' g=>g.1) (dH (f:=601) m1 hT (fun O O O O O O O O=>rfl) nofun nofun nofun nofun fun h=>((ukey1_c (D:=0) (T:=fpi++_) (aR (h _ m1))).wide).post fun r fp' g=>g.1) (dH (f:=608) m1 hT (fun O O O O O O O O=>rfl) nofun nofun nofun nofun fun h=>((uvalue1_c (D:=0) (T:=fpi++_) (aR (h _ m1))).wide).post fun r fp' g=>g.1) (hm _ hr.lst) hr.size hsm hj e1 (hm _ e2)).still.toL (by omega)) dp un gd cn cs a ccd cl A₀ base h₀ L m mg mb mean s Q E B F X N T XB TB hk hd hu k
end
section
variable {w:World} {D:Nat} {c dx o r:Addr} {q:LP} {t:Tok} {vs:Array Value} {n2:Nat} {R:List Row} {led T:Led}
theorem ram_lneed (hl:bG T c dx o r vs n2 R) (m2:(dx,LD q r o (-1) t)∈T):RaM w 2 T c "need" 92:=⟨328,nofun,fun ok h=>(aw ok (h _ hl.inst) (h _ m2) rfl nofun nofun nofun),fun h=>by
 have hl:=hl.mono h
 have m1:=hl.inst
 have m2:=h _ m2
 refine' bB .own (binds:=[("self",.ref c)]) ?ho ?hcd ?hb ?hl ?c1 ?c2 ?c3 ?c4 ?_
 fail "e"
 intro bb ok hcl φ χ kφ xφ
 exact bd (dN (c:=!false) (dJ (bt (pm0 ok decl_name% (aw ok m1 m2 rfl nofun nofun nofun) (ar (P:=fun a=>a = .bool false) ok (lvalid_c (D:=0) (q:=q) (p:=-1) (t:=t) hl) (fun v fp' h=>h.1.trans (by simp)) (fun p hp=>by rw [List.mem_singleton.mp hp];exact m2) rfl (Nat.le_refl _)) nofun rfl) rfl)) (fun O=>bd (lz_raise ok hcl px_cstr (xφ [] rfl) nofun nofun PySem.F.excBase_Exception rfl rfl rfl rfl)) fun h=>nomatch h)⟩
theorem ram_lkey (hl:bG T c dx o r vs n2 R) (m2:(dx,LD q r o (-1) t)∈T):RaM w 3 T c "key" 92:=by
 refine' bR (fa:=370) (ram_lneed hl m2) nofun (fun ok h=>(aw ok (h _ hl.inst) (h _ m2) rfl nofun nofun nofun)) ?ho ?hcd ?hb ?hl ?c1 ?c2 ?c3 ?c4 ?d1 ?d2 ?d3 ?d4
 fail "e"
 case d1 | d2 | d3 | d4=>exact fun O=>rfl
theorem ram_lvalue (hl:bG T c dx o r vs n2 R) (m2:(dx,LD q r o (-1) t)∈T):RaM w 3 T c "value" 92:=by
 refine' bR (fa:=377) (ram_lneed hl m2) nofun (fun ok h=>(aw ok (h _ hl.inst) (h _ m2) rfl nofun nofun nofun)) ?ho ?hcd ?hb ?hl ?c1 ?c2 ?c3 ?c4 ?d1 ?d2 ?d3 ?d4
 fail "e"
 case d1 | d2 | d3 | d4=>exact fun O=>rfl
theorem ram_lstep (hl:bG T c dx o r vs n2 R) (m2:(dx,LD q r o (-1) t)∈T):RaM w 3 T c "step" 92:=by
 refine' bR (fa:=356) (ram_lneed hl m2) nofun (fun ok h=>(aw ok (h _ hl.inst) (h _ m2) rfl nofun nofun nofun)) ?ho ?hcd ?hb ?hl ?c1 ?c2 ?c3 ?c4 ?d1 ?d2 ?d3 ?d4
 fail "e"
 case d1 | d2 | d3 | d4=>exact fun O=>rfl
theorem ram_lback (hl:bG T c dx o r vs n2 R) (m2:(dx,LD q r o (-1) t)∈T):RaM w 3 T c "back" 92:=by
 refine' bR (fa:=363) (ram_lneed hl m2) nofun (fun ok h=>(aw ok (h _ hl.inst) (h _ m2) rfl nofun nofun nofun)) ?ho ?hcd ?hb ?hl ?c1 ?c2 ?c3 ?c4 ?d1 ?d2 ?d3 ?d4
 fail "e"
 case d1 | d2 | d3 | d4=>exact fun O=>rfl
theorem leaf_agree {rl:Addr} {nv:Nat} {tp:Tok} (hl:bG T c dx o r vs n2 R) (m2:(dx,LD q r o (-1) t)∈T) (hr:(rl,listOf #[] nv)∈T):ef w 14 678 [.ref c,.ref rl,.int (-1) tp] [] T fun r fp'=>r = .bool true∧fp' = []:=by
 have m1:=hl.inst
 refine (agree_off (w:=w) (D:=4) (nR:=0) ⟨321,nofun,fun ok hT=>(aw ok (hT _ m1) (hT _ m2) rfl nofun nofun nofun),fun ok hD hk hT=>ar ok (lvalid_c (D:=3) (q:=q) (p:=-1) (t:=t) (hl.mono hT)) (fun v fp' h=>h.1.trans (by simp)) (fun p hp=>by rw [List.mem_singleton.mp hp];exact hT _ m2) hk (by omega)⟩
  (ram_lkey hl m2) (ram_lvalue hl m2) (ram_lstep hl m2) (ram_lback hl m2) hr rfl (by decide) (.inl (by decide)))
end
section
variable {w:World} {F:FnC} {b:Bx} {C:Addr} {m:MM} {led:Led} {χ χ':MM→Led→Prop} {k:XK} {env:Env}
theorem Lz.mono {α:Type} {t:Sem α} {φ φ':α→MM→Led→Prop} (h:Lz k w F b t C χ φ m led) (hx:∀ m' led',χ m' led'→χ' m' led') (hp:∀ a m' led',φ a m' led'→φ' a m' led'):Lz k w F b t C χ' φ' m led:=fun s Q E f N q x =>
 h s Q E f N (fun a m' led' h' tk' p=>q a m' led' h' tk' (hp _ _ _ p)) fun e s' z=>x e s' (by
  cases k with
  | own=>obtain ⟨ea,vs,h1,h2,tk',m1,led',a,b,c,d,f,n⟩:=z;exact ⟨ea,vs,h1,h2,tk',m1,led',a,b,hx _ _ c,d,f,n⟩
  | fly=>obtain ⟨ea,vs,t,G,h2,tk',m1,led',a,b,c,d,f,n⟩:=z;exact ⟨ea,vs,t,G,h2,tk',m1,led',a,b,hx _ _ c,d,f,n⟩
  | held=>exact wpAny_mono z (fun O s'' hh=>by obtain ⟨ea,vs,t,G,h2,tk',m1,led',a,b,c,d,f,n⟩:=hh;exact ⟨ea,vs,t,G,h2,tk',m1,led',a,b,hx _ _ c,d,f,n⟩) fun O O z=>z)
theorem kz0 {φ:FP} (h:φ .next m led):kz k w F b env [] C χ φ .next m led:=(ae h).lz
end
noncomputable def cW (fo:Mvs) (p:Option Nat) (act:Int) (u:Array UInt8) (q:Nat):Option (Option Nat):=if act = 0 then fo.first else if act = 1 then fo.last else if act = 2 then fo.seek u q else match p with | none=>none | some j=>if act < 6 then fo.step j else fo.back j
section
variable {w:World} {D:Nat} {wk:Bool} {rows:List RowB} {fo:Mvs} {W:WkP} {fp R0 E0:Led} {c:Addr} {p:Option Nat} {u:Array UInt8} {q:Nat} {act:Int} {ta tt:Tok}
theorem px_wk {F:FnC} {b:Bx} {m:MM} {led:Led} {D':Nat} {pl:Sem Bool} (ok:Okx w D' b) (S:WkSpec w D wk rows fo W) (hC:W fp R0 c p) (hs:∀ p∈fp++R0,p∈led) (mn:MN):Px w F b (getMethod (.ref c) mn.name pl) (fun a=>a = (.ref (adrW wk mn),[.ref c])) m led:=by
 obtain ⟨dx,es,n,h1,h2,h3⟩:=S.obj hC
 have h3:=h3 mn
 have h1:=hs _ (aR h1)
 have h2:=hs _ (aL h2)
 cases wk <;> cases mn <;> exact aw ok h1 h2 h3 nofun nofun nofun
theorem keepW (w:World) (kd:Bool) (mn:MN):keepIn (Mine.hd.heap_39 w.params) (.ref (adrW kd mn)) = true:=by
 cases kd <;> cases mn <;> rfl
theorem lz_wk {F:FnC} {b:Bx} {m:MM} {D':Nat} {mn:MN} {pl:Sem Bool} {o:Option (Option Nat)} {p1 p2 p3 p4:Pos} {x:Str} (ok:Okx w D' b) (hcl:b.cl = []) (S:WkSpec w D wk rows fo W) (hC:W fp R0 c p) (hs:∀ x∈R0,x∈E0) (H:bc w D (adrW wk mn) [.ref c] fp E0 56 (XpW W R0 c fp o) (PtW W R0 c fp o)) (hv:m x = some (.ref c)) (hD:D≤D') (hk:F.cs.kind = .function) (hx:(evx F b).kindOf x = some .local) (hd:(x == ("__debug__":Str)) = false) (hi:interactive (evx F b) = false) (hsw:swapsWith (.Call (.Attribute (.Name x p1) mn.name p2) [] [] p3) none p4.line (evx F b) = pure false)
  (he:eval (.Call (.Attribute (.Name x p1) mn.name p2) [] [] p3) (evx F b) = (do
   let ov ← eval (.Name x p1) (evx F b)
   standAt p2.atName
   let (f,first) ← holding [ov] (getMethod ov mn.name pl)
   callWith p3 f first (backTo p3 (starEach [] (evx F b))) [])) :
  Lz .fly w F b (execs [.Expr (.Call (.Attribute (.Name x p1) mn.name p2) [] [] p3) p4] (evx F b)) 56 (fun O led'=>∃ fp',led' = fp'++E0∧XpW W R0 c fp o fp') (fun fl m' led'=>fl = .next∧∃ r fp',led' = fp'++E0∧PtW W R0 c fp o r fp') m (fp++E0) :=
 bd (dw (lz_m0 ok (af hv hk hx hd) (px_wk ok S hC (fun q hq=>(List.mem_append.mp hq).elim (List.mem_append_left _) fun h=>aR (hs q h)) mn) (eO ok hcl H hk hD (fun O h=>h) (fun fp' h=>⟨fp',rfl,h⟩) fun r fp' h=>(ae ⟨rfl,r,fp',rfl,h⟩).lz) (keepW w wk mn) he) hi hsw)
theorem turn_c (S:WkSpec w D wk rows fo W) (hC:W fp R0 c p) (hs:∀ x∈R0,x∈E0) (ho:Off fp E0) (h0:0≤act) (hp:2 < act→∃ j,p = some j) (hu:u.size≤8) (hq:q≤3) :
  ef w (D + 2) 705 [.ref c,.int act ta,.bytes (tgB wk u q) tt] fp E0 fun r fp'=>r = .bool (cW fo p act u q).isNone∧ak fp' fp∧W fp' R0 c ((cW fo p act u q).getD none):=by
 revert w D wk rows fo W fp R0 E0 c p u q act ta tt
 refine no_implicit_lambda% (e16 ?n fun T0=>(?_:bp T0) _ _ _ _ _ _ _ _ _ _ _ _ _ _ _ _)
 case n=>fail "n"
 intro w D wk rows fo W fp R0 E0 c p u q act ta tt
 intros
 clear T0
 intro dp un gd cn cs a ccd cl A₀ base h₀ L m mg mb mean s Q E B F X N T0 XB TB hk hd hu2 k
 refine wpAny_call ?_
 refine' code_defSX (binds:=[("walker",.ref c),("act",.int act ta),("target",.bytes (tgB wk u q) tt)]) B F X N T0 rfl ?ho ?hcd ?hr ?hb ?hl ?_ hk ?c1 ?c2 ?c3 ?c4
 (case ho=>with_unfolding_all rfl)
 (case hcd=>with_unfolding_all rfl)
 (case hr=>show dp < recursionLimit;omega)
 (case hb=>exact BindsTo.of_eq rfl)
 (case hl=>exact locs rfl)
 (case c1=>rfl)
 (case c2=>rfl)
 (case c3=>rfl)
 (case c4=>decide)
 intro g1 L1 h1 FG F1 N1 B1 X1 T1 D1
 have ok:Okx w (D + 1) (⟨dp + 1,un + 3,gd,[],[envX cn cs L a ccd cl],ktrTop dp un gd cn cs L a ccd cl [],base,g1,L1,mg,mb,mean⟩:Bx):=⟨B1,X1,T1,by show dp + 1 + (D + 1) < _;omega,by show un + 3 + 8 * (D + 1) < _;omega⟩
 have hB:Base w (⟨dp + 1,un + 3,gd,[],[envX cn cs L a ccd cl],ktrTop dp un gd cn cs L a ccd cl [],base,g1,L1,mg,mb,mean⟩:Bx):=⟨rfl,⟨_,rfl⟩,⟨_,rfl⟩,XB,TB⟩
 refine wpAny_execs_cons (try_g (F:=⟨_,_,705,_⟩) (C:=56) (χ:=fun O led'=>∃ fp',led' = fp'++E0∧XpW W R0 c fp (cW fo p act u q) fp') (φ:=fun m' led'=>∃ r fp',led' = fp'++E0∧PtW W R0 c fp (cW fo p act u q) r fp') ok hB D1 F1 N1 ?_ nofun nofun (fun m' led' h' tk' hp F' N'=>?_) (fun Ar g' m' led' h' tk' A hx F' N'=>?_) rfl rfl rfl)
 ·refine bd (dN (bn (i:=act) (Px.mono decl_name% isI) ab rfl) (fun h=>?_) fun h1=>bd (dN (bn (i:=act) (Px.mono decl_name% isI) ab rfl) (fun h=>?_) fun h2=>bd (dN (bn (i:=act) (Px.mono decl_name% isI) ab rfl) (fun h=>?_) fun h3=>bd (dN (bE (i:=act) (Px.mono decl_name% isI) ab rfl) (fun h=>?_) fun h4=>?_))))
  ·have h:act = 0:=of_decide_eq_true h
   have e:cW fo p act u q = fo.first:=by unfold cW;rw [if_pos h]
   rw [e]
   exact Lz.mono (lz_wk (mn:=.first) ok rfl S hC hs (S.first hC hs ho) rfl (by omega) rfl rfl rfl rfl rfl rfl) (fun O led' h=>h) fun fl m' led' h=>by obtain ⟨rfl,h⟩:=h;exact kz0 (⟨rfl,h⟩)
  ·have h:act = 1:=of_decide_eq_true h
   have e:cW fo p act u q = fo.last:=by unfold cW;rw [if_neg (by omega),if_pos h]
   rw [e]
   exact Lz.mono (lz_wk (mn:=.last) ok rfl S hC hs (S.last hC hs ho) rfl (by omega) rfl rfl rfl rfl rfl rfl) (fun O led' h=>h) fun fl m' led' h=>by obtain ⟨rfl,h⟩:=h;exact kz0 (kz0 (⟨rfl,h⟩))
  ·have h:act = 2:=of_decide_eq_true h
   have e:cW fo p act u q = fo.seek u q:=by unfold cW;rw [if_neg (by omega),if_neg (by omega),if_pos h]
   rw [e]
   refine bd (dw (lz_m1 ok decl_name% (px_wk ok S hC (fun q hq=>(List.mem_append.mp hq).elim (List.mem_append_left _) fun h=>aR (hs q h)) .seek) (az decl_name% rfl) (ar1 ?_) (keepW w wk .seek) rfl rfl rfl) rfl rfl)
   exact eO ok rfl (S.seek hC hs ho hu hq) rfl (by omega) (fun O h=>h) (fun fp' h=>⟨fp',rfl,h⟩) fun r fp' h=>kz0 (kz0 (kz0 (kz0 ⟨rfl,r,fp',rfl,h⟩)))
  ·have h:act < 6:=of_decide_eq_true h
   have n0:act≠0:=of_decide_eq_false h1
   have n1:act≠1:=of_decide_eq_false h2
   have n2:act≠2:=of_decide_eq_false h3
   obtain ⟨j,rfl⟩:=hp (by omega)
   have e:cW fo (some j) act u q = fo.step j:=by unfold cW;rw [if_neg n0,if_neg n1,if_neg n2];exact if_pos h
   rw [e]
   exact Lz.mono (lz_wk (mn:=.step) ok rfl S hC hs (S.step hC hs ho) rfl (by omega) rfl rfl rfl rfl rfl rfl) (fun O led' h=>h) fun fl m' led' h=>by obtain ⟨rfl,h⟩:=h;exact kz0 (kz0 (kz0 (kz0 (⟨rfl,h⟩))))
  ·have h:¬ act < 6:=of_decide_eq_false h4
   have n0:act≠0:=of_decide_eq_false h1
   have n1:act≠1:=of_decide_eq_false h2
   have n2:act≠2:=of_decide_eq_false h3
   obtain ⟨j,rfl⟩:=hp (by omega)
   have e:cW fo (some j) act u q = fo.back j:=by unfold cW;rw [if_neg n0,if_neg n1,if_neg n2];exact if_neg h
   rw [e]
   exact Lz.mono (lz_wk (mn:=.back) ok rfl S hC hs (S.back hC hs ho) rfl (by omega) rfl rfl rfl rfl rfl rfl) (fun O led' h=>h) fun fl m' led' h=>by obtain ⟨rfl,h⟩:=h;exact kz0 (kz0 (kz0 (kz0 (⟨rfl,h⟩))))
 ·obtain ⟨r,fp',rfl,o,ho2,hsa,hW⟩:=hp
  refine wpAny_execs_cons (wpAny_Return_some (wpAny_Constant_bool ?_))
  exact leaveS0_ F' N' .refl fun F8 N8=>k _ fp' _ _ F8 N8 ⟨by rw [ho2];rfl,hsa,by rw [ho2];exact hW⟩
 ·obtain ⟨fp',rfl,ho2,hsa,hW⟩:=hx
  refine wpAny_execs_cons (wpAny_Return_some (wpAny_Constant_bool ?_))
  exact leaveS0_ F' N' A.turn fun F8 N8=>k _ fp' _ _ F8 N8 ⟨by rw [ho2];rfl,hsa,by rw [ho2];exact hW⟩
end
end
section
open PySem PySem.W PyProof.Rows PySem.Spec PyProof.Rows.LCg
set_option maxHeartbeats 8000000
set_option maxRecDepth 100000
set_option tactic.hygienic false
structure da (rest:Led) (nl:Addr) (vs:Array Value) (n:Nat) (k:Nat):Prop where
 lst:(nl,listOf vs n)∈rest
 size:vs.size = k
 pos:0 < k
 small:k≤12
 num:∀ (i:Nat) v,vs[i]? = some v→∃ x t,v = .int x t∧0≤x∧x < 999983
noncomputable def l8 (q k:Nat):List Int:=[(k:Int),(q:Int),0,0,0,0,0,0]
theorem l8_tag (u:Array UInt8) {q k:Nat} (h:q≤3):u++byteArr (l8 q k) = ikb ⟨u,q,k⟩:=by
 unfold ikb IK.ints
 rw [byteArr_app,byteArr_bInts]
 have e:l8 q k = tagL q k:=by
  have:q = 0 ∨ q = 1 ∨ q = 2 ∨ q = 3:=by omega
  rcases this with rfl | rfl | rfl | rfl <;> simp [l8,tagL]
 rw [e]
theorem l8_in {q k:Nat} (h:q≤3) (hk:k≤2):KBa.In (l8 q k) :=
 have z:0≤(0:Int)∧(0:Int) < 256:=by decide
 bA ⟨Int.natCast_nonneg _,Int.ofNat_lt.mpr (Nat.lt_of_le_of_lt hk (by decide))⟩ (bA ⟨Int.natCast_nonneg _,Int.ofNat_lt.mpr (Nat.lt_of_le_of_lt h (by decide))⟩ (bA z (bA z (bA z (bA z (bA z (bA z fun O h=>nomatch h)))))))
section
variable {w:World} {D D':Nat} {F:FnC} {b:Bx} {m:MM} {led rest:Led} {env:Env} {pos:Pos} {i j:Int} {l r e:Expr}
theorem cj (h1:Px w F b (eval l env) (IsI i) m led) (h2:Px w F b (eval r env) (IsI j) m led) (hj:¬ (j == 0) = true):Px w F b (eval (.BinOp l .Mod r pos) env) (IsI (i.fmod j)) m led :=
 aG h1 h2 fun u v hu hv s Q E f N q=>by obtain ⟨t,rfl⟩:=hu;obtain ⟨t',rfl⟩:=hv;exact PySem.AutoIntOps.mod_1 hj (q _ s.heap _ ⟨_,rfl⟩ f N)
theorem cq (h1:Px w F b (eval l env) (IsI i) m led) (h2:Px w F b (eval r env) (IsI j) m led) (hj:¬ (j == 0) = true) (hz:j.natAbs < 1073741824):Px w F b (eval (.BinOp l .FloorDiv r pos) env) (IsI (i.fdiv j)) m led:=px_fdiv h1 h2 hj (by rw [PyProof.noPylong_small hz];decide)
theorem px_mul (h1:Px w F b (eval l env) (IsI i) m led) (h2:Px w F b (eval r env) (IsI j) m led) (hm:IntMulOk i j):Px w F b (eval (.BinOp l .Mult r pos) env) (IsI (i * j)) m led :=
 aG h1 h2 fun u v hu hv s Q E f N q=>by obtain ⟨t,rfl⟩:=hu;obtain ⟨t',rfl⟩:=hv;exact mul_int (q _ s.heap _ ⟨_,rfl⟩ f N) hm
theorem pi_nil:Px w F b (spliced (backTo pos (starEach [] env))) (fun vs=>IntsAre vs []) m led:=fun s Q E f N q=>args_nil (q [] s.heap s.toks .nil f N)
theorem dv {es:List Expr} {ns:List Int} (h1:Px w F b (eval e env) (IsI i) m led) (h2:Px w F b (spliced (backTo pos (starEach es env))) (fun vs=>IntsAre vs ns) m led) (he:starEach (e::es) env = (false,eval e env)::starEach es env):Px w F b (spliced (backTo pos (starEach (e::es) env))) (fun vs=>IntsAre vs (i::ns)) m led:=fun s Q E f N q =>
 args_cons (h1 s _ E f N fun a h' tk' pa F' N'=>h2 _ _ E F' N' fun vs h2' tk2' pvs F2' N2'=>q (a::vs) h2' tk2' (by obtain ⟨t,rfl⟩:=pa;exact .cons _ _ pvs) F2' N2') he
noncomputable def IsD (v:Value):Prop:=∃ z:Int,IsI z v∧0≤z∧z < 2000000
theorem draw_c {nl:Addr} {vs:Array Value} {n kk:Nat} {ti:Tok} (hn:da rest nl vs n kk) (h0:0≤i) (h1:i≤20):am w 1 650 [.ref nl,.int i ti] [] rest (fun r fp'=>IsD r):=by
 have hsz:=hn.size
 have hp:=hn.pos
 have hs:=hn.small
 have hb1:0≤i.fmod (vs.size:Int):=Int.fmod_nonneg_of_pos _ (by omega (splitNatSub:=true))
 have hb2:i.fmod (vs.size:Int) < (vs.size:Int):=Int.fmod_lt_of_pos _ (by omega (splitNatSub:=true))
 have hb3:0≤i.fdiv (vs.size:Int):=Int.fdiv_nonneg h0 (by omega (splitNatSub:=true))
 have hb4:i.fdiv (vs.size:Int)≤20:=by
  have:=Int.mul_fdiv_add_fmod i (vs.size:Int)
  have h5:(i.fdiv (vs.size:Int))≤(vs.size:Int) * i.fdiv (vs.size:Int):=by
   have:(1:Int) * i.fdiv (vs.size:Int)≤(vs.size:Int) * i.fdiv (vs.size:Int):=Int.mul_le_mul_of_nonneg_right (by omega (splitNatSub:=true)) hb3
   omega (splitNatSub:=true)
  omega (splitNatSub:=true)
 obtain ⟨x,t,hx,hx0,hx1⟩:∃ x t,vs[(i.fmod (vs.size:Int)).toNat]? = some (.int x t)∧0≤x∧x < 999983:=by
  have hlt:(i.fmod (vs.size:Int)).toNat < vs.size:=by omega (splitNatSub:=true)
  obtain ⟨x,t,e,a,b⟩:=hn.num _ _ (Array.getElem?_eq_getElem hlt)
  exact ⟨x,t,by rw [Array.getElem?_eq_getElem hlt,e],a,b⟩
 have hn0:¬ (((vs.size:Nat):Int) == 0) = true:=by rw [beq_iff_eq];omega (splitNatSub:=true)
 have hn1:((vs.size:Nat):Int).natAbs < 1073741824:=by omega (splitNatSub:=true)
 have hk63:i.fmod (vs.size:Int) < 2 ^ 63:=by omega (splitNatSub:=true)
 have hz63:((vs.size:Nat):Int) < 2 ^ 63:=by omega (splitNatSub:=true)
 refine' ai (binds:=[("nums",.ref nl),("i",.int i ti)]) ?ho ?hcd ?hb ?hl ?c1 ?c2 ?c3 ?c4 ?_
 fail "e"
 intro bb ok φ kφ
 exact aZ (cJ (Px.mono (aK (k:=i.fmod (vs.size:Int)) decl_name% (cj (ac ⟨_,rfl,_,rfl⟩ rfl rfl rfl) (dm ok decl_name% (ah ok nofun nofun (by decide) rfl rfl rfl) hn.lst hz63 rfl rfl) hn0) hn.lst hb1 hk63 hx fun O=>nofun) isI) (px_mul ab (cq (ac ⟨_,rfl,_,rfl⟩ rfl rfl rfl) (dm ok decl_name% (ah ok nofun nofun (by decide) rfl rfl rfl) hn.lst hz63 rfl rfl) hn0 hn1) (by mul_fits))) fun v hv=>kφ (.ret v) _ [] ⟨_,hv,by omega (splitNatSub:=true),by omega (splitNatSub:=true)⟩
theorem lik_c {u:Array UInt8} {q kd:Nat} {t0 t1 t2:Tok} (hq:q≤3) (hkd:kd≤2) (hu:u.size≤1000):am w 1 657 [.bytes u t0,.int (q:Int) t1,.int (kd:Int) t2] [] rest (fun r O=>IsB (ikb ⟨u,q,kd⟩) r):=by
 rw [← l8_tag u hq]
 have hin:=l8_in hq hkd
 unfold l8 at hin ⊢
 refine' ai (binds:=[("user",.bytes u t0),("seq",.int (q:Int) t1),("kind",.int (kd:Int) t2)]) ?ho ?hcd ?hb ?hl ?c1 ?c2 ?c3 ?c4 ?_
 fail "e"
 intro bb ok φ kφ
 exact aZ (aG (P:=IsB u) (Px.mono decl_name% fun v h=>⟨_,h⟩) (px_make (ah ok nofun nofun (by decide) rfl rfl rfl) (dv (ac ⟨_,rfl,_,rfl⟩ rfl rfl rfl) (dv (ac ⟨_,rfl,_,rfl⟩ rfl rfl rfl) (dv ab (dv ab (dv ab (dv ab (dv ab (dv ab pi_nil rfl) rfl) rfl) rfl) rfl) rfl) rfl) rfl) hin (by show 8≤1000;decide) rfl rfl) (op_addB (by rw [PySem.byteArr_size];show u.size + 8≤16777216;omega))) fun v hv=>kφ (.ret v) _ [] hv
end
section
variable {prog:Program} {w:World} {A:Around} {E:VS} {s:Shared} {h₀:Heap} {L:Addr} {news:Led}
theorem item_P (P:Value→Prop) {value slice:Expr} {l:Addr} {items:Array Value} {n:Nat} {k:Int} {u:Tok} {Q:VS} (N:News h₀ L s.heap news) (hm:(l,listOf items n)∈news)
  (h0:0≤k) (h1:k < (items.size:Int)) (hz:items.size≤1000) (hall:∀ v∈items.toList,P v) (h:∀ v,P v→Q v s)
  (hs:subscripted slice false (.ref l) (.int k u) = operate [.ref l,.int k u] (getItem (.ref l) (.int k u)):=by with_unfolding_all rfl) :
  wpAny (model prog w) A (subscriptTail value slice (.ref l) (.int k u)) Q E s:=by
 have hlt:k.toNat < items.size:=by omega
 exact item_list N hm h0 (by omega) (Array.getElem?_eq_getElem hlt) (h _ (hall _ (Array.mem_toList_iff.mpr (Array.getElem_mem hlt)))) hs
end
noncomputable def usersL:List (Array UInt8):=[#[],#[97],#[97,0]]
noncomputable def UsrV (v:Value):Prop:=∃ (b:Array UInt8) (t:Tok),v = .bytes b t∧b.size≤8
noncomputable def KdV (v:Value):Prop:=∃ (k:Nat) (t:Tok),v = .int (k:Int) t∧k≤2
noncomputable def BndV (v:Value):Prop:=∃ (o:Option (Array UInt8)) (t:Tok),v = bW o t∧∀ b,o = some b→b.size≤8
theorem all_P1 {P:Value→Prop} {a:Value} {l:List Value} (h:P a) (g:∀ v∈l,P v):∀ v∈a::l,P v:=fun v hv=>by
 rcases List.mem_cons.mp hv with rfl | hv
 ·exact h
 ·exact g v hv
theorem usrV {b:Array UInt8} {t:Tok} (h:b.size≤8):UsrV (.bytes b t):=⟨b,t,rfl,h⟩
theorem kdV0 {t:Tok}:KdV (.int 0 t):=⟨0,t,rfl,by decide⟩
theorem kdV1 {t:Tok}:KdV (.int 1 t):=⟨1,t,rfl,by decide⟩
theorem kdV2 {t:Tok}:KdV (.int 2 t):=⟨2,t,rfl,by decide⟩
theorem bndV0:BndV .none:=⟨none,0,rfl,fun O h=>nomatch h⟩
theorem bndV1 {b:Array UInt8} {t:Tok} (h:b.size≤8):BndV (.bytes b t):=⟨some b,t,rfl,fun O h'=>by cases h';exact h⟩
section
variable {w:World} {D D':Nat} {F:FnC} {b:Bx} {m:MM} {led:Led} {env:Env} {pos:Pos} {s:Shared} {Q:FS} {E:VS} {x:Str} {P:Value→Prop} {c:Bool} {i j:Int} {l r e:Expr} {v:Value}
noncomputable def AllN (P:Value→Prop) (n:Nat) (vs:List Value):Prop:=vs.length = n∧∀ v∈vs,P v
theorem px_all0:Px w F b (spliced (backTo pos (starEach [] env))) (AllN P 0) m led:=fun s Q E f N q=>args_nil (q [] s.heap s.toks ⟨rfl,fun O h=>nomatch h⟩ f N)
theorem bz {n:Nat} {es:List Expr} (h1:Px w F b (eval e env) P m led) (h2:Px w F b (spliced (backTo pos (starEach es env))) (AllN P n) m led) (he:starEach (e::es) env = (false,eval e env)::starEach es env):Px w F b (spliced (backTo pos (starEach (e::es) env))) (AllN P (n + 1)) m led:=fun s Q E f N q =>
 args_cons (h1 s _ E f N fun a h' tk' pa F' N'=>h2 _ _ E F' N' fun vs h2' tk2' pvs F2' N2'=>q (a::vs) h2' tk2' ⟨congrArg (· + 1) pvs.1,all_P1 pa pvs.2⟩ F2' N2') he
inductive TbP (P:Value→Prop) (n:Nat):Value→Led→Prop
 | mk (l:Addr) (vs:Array Value) (k:Nat) (hz:vs.size = n) (h:∀ v∈vs.toList,P v):TbP P n (.ref l) [(l,listOf vs k)]
theorem sx_table {n:Nat} {elts:List Expr} {lp:Pos} {φ:FP} {rest:List Stmt} (h:Px w F b (spliced (backTo lp (starEach elts env))) (AllN P n) m led) (hn:n≤1000) (hq:∀ r fp,TbP P n r fp→φ (.ret r) m (fp++led)):Lx w F b (execs (.Return (some (.List elts lp)) pos::rest) env) φ m led :=
 aj (dB fun s Q E f N q=>List_ (h s _ E f N fun vs h' tk' p F' N'=>newList_K F' N' (fun l h2' F2' N2' O=>q _ _ _ h2' _ (hq _ _ (.mk l _ 0 (by rw [List.size_toArray];exact p.1) p.2)) F2' N2') (by rw [p.1];exact Nat.le_trans hn (by decide))))
theorem px_tab {n f:Nat} {o slice:Expr} {cp:Pos} (ok:Okx w D b) (ho:Px w F b (eval o env) (fun a=>a = .ref f) m led) (H:∀ {rest},am w D' f [] [] rest (TbP P n)) (h2:∀ z,Px w F b (eval slice env) (IsI i) m (z::led)) (h0:0≤i) (h1:i < n) (hn:n≤1000) (hk:F.cs.kind = .function) (hD:D'≤D) (hkf:keepIn (Mine.hd.heap_39 w.params) (.ref f) = true)
  (he:eval (.Call o [] [] cp) env = (do callWith cp (← eval o env) [] (backTo cp (starEach [] env)) (backToKw cp (keywordEach [] env))))
  (hs:∀ l u,subscripted slice false (.ref l) (.int i u) = operate [.ref l,.int i u] (getItem (.ref l) (.int i u))):Px w F b (eval (.Subscript (.Call o [] [] cp) slice pos) env) P m led:=fun s Q E f N q =>
 Subscript_ (Call_ (ho s _ E f N fun a h' tk' pa F' N'=>by
  subst pa
  refine callWith_K0 (ok.X.keeps F'.keep) hkf (H.use ok.B F' ok.X N' ok.T hk (by have:=ok.hd;omega) (by have:=ok.hu;omega) (fun p hp=>hp) fun r fp' h2' tk2 F2 N2 hr=>?_)
  obtain ⟨l,vs,k,hz,hall⟩:=hr
  exact h2 _ _ _ E F2 N2 fun a2 h3' tk3 pa2 F3 N3=>by
   obtain ⟨t,rfl⟩:=pa2
   exact item_P P N3 (.head _) h0 (by omega) (by omega) hall (fun v hv=>q v h3' _ hv F3 (bJ N3 fun O h=>.tail _ h)) (hs l t)) he)
end
section
variable {w:World} {D:Nat} {rest:Led}
theorem cY {F:FnC} {b:Bx} {m:MM} {led:Led} {env:Env} {k pos} {P:Value→Prop} {c:List UInt8} (h:∀ t,P (.bytes c.toArray t)):Px w F b (eval (.Constant (.bytes c) k pos) env) P m led:=px_bytes.mono fun v hv=>by obtain ⟨t,rfl⟩:=hv;exact h t
theorem eK {F:FnC} {b:Bx} {m:MM} {led:Led} {env:Env} {k pos} {P:Value→Prop} {i:Int} (h:∀ t,P (.int i t)):Px w F b (eval (.Constant (.int i) k pos) env) P m led:=ab.mono fun v hv=>by obtain ⟨t,rfl⟩:=hv;exact h t
theorem users_c:am w (D + 1) 622 [] [] rest (TbP UsrV 3):=by
 refine' ai (binds:=[]) ?ho ?hcd ?hb ?hl ?c1 ?c2 ?c3 ?c4 ?_
 fail "e"
 intro bb ok φ kφ
 exact sx_table (bz (cY fun t=>usrV (by decide)) (bz (cY fun t=>usrV (by decide)) (bz (cY fun t=>usrV (by decide)) px_all0 rfl) rfl) rfl) (by decide) fun r fp h=>kφ (.ret r) _ fp h
theorem kinds_c:am w (D + 1) 629 [] [] rest (TbP KdV 7):=by
 refine' ai (binds:=[]) ?ho ?hcd ?hb ?hl ?c1 ?c2 ?c3 ?c4 ?_
 fail "e"
 intro bb ok φ kφ
 exact sx_table (bz (eK fun t=>kdV1) (bz (eK fun t=>kdV1) (bz (eK fun t=>kdV0) (bz (eK fun t=>kdV1) (bz (eK fun t=>kdV2) (bz (eK fun t=>kdV1) (bz (eK fun t=>kdV0) px_all0 rfl) rfl) rfl) rfl) rfl) rfl) rfl) (by decide) fun r fp h=>kφ (.ret r) _ fp h
theorem bounds_c:am w (D + 1) 636 [] [] rest (TbP BndV 6):=by
 refine' ai (binds:=[]) ?ho ?hcd ?hb ?hl ?c1 ?c2 ?c3 ?c4 ?_
 fail "e"
 intro bb ok φ kφ
 exact sx_table (bz (bQ.mono fun v h=>h ▸ bndV0) (bz (cY fun t=>bndV1 (by decide)) (bz (bQ.mono fun v h=>h ▸ bndV0) (bz (cY fun t=>bndV1 (by decide)) (bz (cY fun t=>bndV1 (by decide)) (bz (cY fun t=>bndV1 (by decide)) px_all0 rfl) rfl) rfl) rfl) rfl) rfl) (by decide) fun r fp h=>kφ (.ret r) _ fp h
theorem targets_c:am w (D + 1) 643 [] [] rest (TbP UsrV 4):=by
 refine' ai (binds:=[]) ?ho ?hcd ?hb ?hl ?c1 ?c2 ?c3 ?c4 ?_
 fail "e"
 intro bb ok φ kφ
 exact sx_table (bz (cY fun t=>usrV (by decide)) (bz (cY fun t=>usrV (by decide)) (bz (cY fun t=>usrV (by decide)) (bz (cY fun t=>usrV (by decide)) px_all0 rfl) rfl) rfl) rfl) (by decide) fun r fp h=>kφ (.ret r) _ fp h
end
inductive Cn (P:Value→Prop) (A:List Value→Prop):List Value→Prop
 | mk (v:Value) (r:List Value) (hv:P v) (hr:A r):Cn P A (v::r)
section
variable {w:World} {D D':Nat} {F:FnC} {b:Bx} {m:MM} {led:Led} {env:Env} {pos:Pos} {s:Shared} {Q:FS} {E:VS} {x:Str} {P:Value→Prop} {c:Bool} {i j:Int} {l r e:Expr} {v:Value}
theorem bv {A:List Value→Prop} {es:List Expr} (h1:Px w F b (eval e env) P m led) (h2:Px w F b (spliced (backTo pos (starEach es env))) A m led) (he:starEach (e::es) env = (false,eval e env)::starEach es env):Px w F b (spliced (backTo pos (starEach (e::es) env))) (Cn P A) m led:=fun s Q E f N q =>
 args_cons (h1 s _ E f N fun a h' tk' pa F' N'=>h2 _ _ E F' N' fun vs h2' tk2' pvs F2' N2'=>q (a::vs) h2' tk2' (.mk a vs pa pvs) F2' N2') he
theorem px_cn0:Px w F b (spliced (backTo pos (starEach [] env))) (fun vs=>vs = []) m led:=fun s Q E f N q=>args_nil (q [] s.heap s.toks rfl f N)
theorem cn5a {v2 v3 v4 v5:Value} {P1:Value→Prop} {G:List Value→Prop} (k:∀ a,P1 a→G [a,v2,v3,v4,v5]):∀ vs,Cn P1 (Cn (fun a=>a = v2) (Cn (fun a=>a = v3) (Cn (fun a=>a = v4) (Cn (fun a=>a = v5) fun vs=>vs = [])))) vs→G vs:=fun vs h=>by
 obtain ⟨_,_,h3,_,_,rfl,_,_,rfl,_,_,rfl,_,_,rfl,rfl⟩:=h
 exact k _ h3
theorem cn5 {v1 v2 v4 v5:Value} {P3:Value→Prop} {G:List Value→Prop} (k:∀ a,P3 a→G [v1,v2,a,v4,v5]):∀ vs,Cn (fun a=>a = v1) (Cn (fun a=>a = v2) (Cn P3 (Cn (fun a=>a = v4) (Cn (fun a=>a = v5) fun vs=>vs = [])))) vs→G vs:=fun vs h=>by
 obtain ⟨_,_,rfl,_,_,rfl,_,_,h3,_,_,rfl,_,_,rfl,rfl⟩:=h
 exact k _ h3
theorem px_draw {nl:Addr} {vs:Array Value} {n kk:Nat} {g e1 e2:Expr} {cp:Pos} (ok:Okx w D b) (hn:da led nl vs n kk) (hg:Px w F b (eval g env) (fun a=>a = .ref 650) m led) (h1:Px w F b (eval e1 env) (fun a=>a = .ref nl) m led) (h2:Px w F b (eval e2 env) (IsI i) m led) (h0:0≤i) (hi:i≤20) (hk:F.cs.kind = .function) (hD:1≤D)
  (ha:starEach [e1,e2] env = (false,eval e1 env)::starEach [e2] env) (ha2:starEach [e2] env = (false,eval e2 env)::starEach [] env) (hp:(backTo cp (starEach [e2] env)).any (·.1) = false)
  (he:eval (.Call g [e1,e2] [] cp) env = (do callWith cp (← eval g env) [] (backTo cp (starEach [e1,e2] env)) (backToKw cp (keywordEach [] env)))):Px w F b (eval (.Call g [e1,e2] [] cp) env) IsD m led :=
 pf1 ok hg (aU h1 h2 ha ha2) (fun vs h=>by
  obtain ⟨_,_,rfl,rfl,t,rfl⟩:=h
  exact ar ok (draw_c hn h0 hi) (fun O O h=>h) (fun p hp=>nomatch hp) hk hD) nofun ha hp he
end
section
variable {w:World} {D D':Nat} {F:FnC} {b:Bx} {m:MM} {led:Led} {env:Env} {pos:Pos} {e l' r:Expr} {i:Int} {n:Nat} {P:Value→Prop} {whole:Sem Value}
inductive NewL (m:MM) (led:Led) (R:Array Value→Led→Prop):Value→MM→Led→Prop
 | mk (l:Addr) (ys:Array Value) (k:Nat) (led':Led) (hm:(l,listOf ys k)∈led') (hs:∀ p∈led,p∈led') (h:R ys led'):NewL m led R (.ref l) m led'
theorem px_lenL (h1:Lx w F b (eval e env) (NewL m led fun ys O=>ys.size = n) m led) (hn:Px w F b (eval l' env) (fun a=>a = .builtin "len") m led) (hz:n≤1000)
  (ha:starEach [e] env = (false,eval e env)::starEach [] env)
  (he:eval (.Call l' [e] [] pos) env = (do callWith pos (← eval l' env) [] (backTo pos (starEach [e] env)) (backToKw pos (keywordEach [] env)))):Px w F b (eval (.Call l' [e] [] pos) env) (IsI n) m led :=
 fun s Q E f N q=>Call_ (hn s _ E f N fun a h' tk' pa F' N'=>by
  subst pa
  exact callWith_method1 (args_cons (h1 _ _ E F' N' fun v m' led' h2 tk2 hv F2 N2=>by
   obtain ⟨l,ys,k,_,hm,hs,rfl⟩:=hv
   exact args_nil (PySem.Calls.call_len_list (News.isList N2 hm) (by omega) (q _ h2 _ ⟨_,rfl⟩ F2 (bJ N2 hs)))) ha) ha rfl) he
inductive CutT (m:MM) (led:Led) (zs:List Value):Value→MM→Led→Prop
 | mk (D:Addr) (hlt:∀ p∈led,@LT.lt Nat _ p.1 D):CutT m led zs (.ref D) m ((D,aS zs 0)::led)
theorem lx_cut {o up:Expr} {sp:Pos} {t:Addr} {vs zs:List Value} (h1:Px w F b (eval o env) (fun a=>a = .ref t) m led) (h2:Px w F b (eval up env) (IsI i) m led) (hm:(t,aS vs n)∈led) (h0:0≤i) (h3:i < (vs.length:Int)) (hz:vs.length≤1000) (hv:vs.take i.toNat = zs)
  (hs:∀ x,subscripted (.Slice none (some up) none sp) false (.ref t) (.ref x) = operate [.ref x,.ref t] (getItem (.ref t) (.ref x))) (hg:∀ r,letTemporaryGo o (.ref t) r = pure ()) :
  Lx w F b (eval (.Subscript o (.Slice none (some up) none sp) pos) env) (CutT m led zs) m led:=fun s Q E f N q =>
 Subscript_ (h1 s _ E f N fun a h' tk' pa F' N'=>by
  subst pa
  refine wpAny_Slice (wpAny_pure (h2 _ _ E F' N' fun a2 h2' tk2 pa2 F2 N2=>?_))
  obtain ⟨u,rfl⟩:=pa2
  exact wpAny_pure (slice_tup (s:={ s with heap:=h2',toks:=tk2 }) F2 N2 hm h0 h3 hz hv (fun D h3' F3 N3 hlt=>q _ _ _ h3' _ (.mk D hlt) F3 N3) (hs _) hg))
theorem pc_cutLt {o up:Expr} {sp tp pos':Pos} {t:Addr} {vs zs:List Value} {elts:List Expr} {k:Nat} {A:List Value→Prop} {ds es:List FD} (ok:Okx w D b) (h1:Px w F b (eval o env) (fun a=>a = .ref t) m led) (h2:Px w F b (eval up env) (IsI i) m led) (hm:(t,aS vs n)∈led) (h0:0≤i) (h3:i < (vs.length:Int)) (hz:vs.length≤1000) (hv:vs.take i.toNat = zs) (hd:db zs ds)
  (ha:∀ z,Px w F b (spliced (backTo tp (starEach elts env))) A m (z::led)) (hA:∀ ws,A ws→db ws es∧ws.length≤1000) (hK:bf ds es)
  (hs:∀ x,subscripted (.Slice none (some up) none sp) false (.ref t) (.ref x) = operate [.ref x,.ref t] (getItem (.ref t) (.ref x))) (hg:∀ r,letTemporaryGo o (.ref t) r = pure ()) (hb:behindInMarks .Lt (.Tuple elts k tp) = false) :
  Px w F b (isTrue (.Compare (.Subscript o (.Slice none (some up) none sp) pos) [.Lt] [.Tuple elts k tp] pos') env whole) (fun a=>a = ltL ds es) m led:=fun s Q E f N q =>
 wpAny_isTrue_Compare1 (lx_cut h1 h2 hm h0 h3 hz hv hs hg s _ E f N fun v m' led' h' tk' hv' F' N'=>by
  obtain ⟨D,hlt⟩:=hv'
  exact Tuple_ (ha _ _ _ E F' N' fun ws h2' tk2 pa F2 N2=>kup_newTuple F2 N2 (fun D2 h3' F3 N3 hlt2=>lt_tuples N3 (.tail _ (.head _)) (.head _) hd (hA ws pa).1 hK (by have:=ok.hu;have e:(tpx F b).units = b.un:=rfl;rw [e];omega)
   (wpAny_truthy_bool (q _ h3' tk2 rfl F3 (bJ N3 fun p hp=>.tail _ (.tail _ hp))))) (Nat.le_trans (hA ws pa).2 (by decide)))) hb
end
inductive CellU (c:Addr) (φ:Flow→MM→Led→Prop) (v:Value) (m:MM) (led:Led):Prop
 | mk (led1:Led) (hs:∀ p∈led1,p∈led) (o:Obj) (v₀:Option Value) (g:Obj→Led) (U:UpdF c o led1 g) (hd:o.data = .cell v₀) (hq:∀ o',o'.data = .cell (some v)→φ .next m (g o')):CellU c φ v m led
section
variable {w:World} {D D':Nat} {F:FnC} {b:Bx} {m:MM} {led:Led} {env:Env} {pos:Pos} {s:Shared} {Q:FS} {E:VS} {x:Str} {P:Value→Prop} {c c2:Bool} {φ:FP}
theorem lx_cellL {ca:Addr} {value:Expr} {pos':Pos} (h:Lx w F b (eval value (evx F b)) (CellU ca φ) m led) (hc:b.cl.lookup x = some ca) (hk:F.cs.kind = .function) (hx:(evx F b).kindOf x = some .cell) (hs:swapsWith value (some (.Name x pos')) pos.line (evx F b) = pure false):Lx w F b (exec (.Assign [.Name x pos'] value pos) (evx F b)) φ m led:=fun s Q E f N q =>
 wpAny_Assign_Name (h s _ E f N fun v m' led' h' tk' hp F' N'=>by
  obtain ⟨led1,hs,o,v₀,g,U,hd,hq⟩:=hp
  exact storeX_C F' (bJ N' hs) hc U hd (fun h2 o' F2 N2 d2=>q _ _ _ h2 _ (hq o' d2) F2 N2) hk hx) hs
theorem lb1 {id:String} {o e:Expr} {es:List Expr} {A:List Value→Prop} {ψ:VP} (h1:Px w F b (eval o env) (fun a=>a = .builtin id) m led) (h3:Px w F b (spliced (backTo pos (starEach (e::es) env))) A m led) (h4:∀ vs,A vs→Lx w F b (call (.builtin id) ([]++vs)) ψ m led)
  (ha:starEach (e::es) env = (false,eval e env)::starEach es env) (hp:(backTo pos (starEach es env)).any (·.1) = false)
  (he:eval (.Call o (e::es) [] pos) env = (do callWith pos (← eval o env) [] (backTo pos (starEach (e::es) env)) (backToKw pos (keywordEach [] env)))):Lx w F b (eval (.Call o (e::es) [] pos) env) ψ m led :=
 fun s Q E f N q=>Call_ (h1 s _ E f N fun a h' tk' pa F' N'=>by
  subst pa
  exact callWith_method1 (h3 _ _ E F' N' fun vs h3' tk3' pa F3' N3'=>h4 vs pa _ _ _ F3' N3' q) ha hp) he
end
section
variable {w:World} {D D':Nat} {F:FnC} {b:Bx} {m:MM} {led:Led} {x:Str} {φ:FP}
theorem cN {env:Env} {pos:Pos} {test:Expr} {body orelse:List Stmt} {cc:Bool} (h:Px w F b (isTrue test env (eval test env)) (fun a=>a = cc) m led) (h1:cc = true→Lx w F b (execs body env) φ m led) (h2:cc = false→Lx w F b (execs orelse env) φ m led):Lx w F b (exec (.If test body orelse pos) env) φ m led:=fun s Q E f N q =>
 wpAny_If (h s _ E f N fun a h' tk' pa F' N'=>by
  subst pa
  cases a with
  | true=>exact h1 rfl _ _ _ F' N' q
  | false=>exact h2 rfl _ _ _ F' N' q)
theorem bo {env:Env} {st:Stmt} (h:Lx w F b (exec st env) φ m led):Lx w F b (execs [st] env) φ m led:=fun s Q E f N q=>wpAny_execs_cons (h s _ E f N fun fl m' led' h' tk' hp F' N'=>by
 cases fl with
 | next=>exact wpAny_execs_nil (q _ _ _ h' tk' hp F' N')
 | ret v=>exact q _ _ _ h' tk' hp F' N'
 | brk=>exact q _ _ _ h' tk' hp F' N'
 | cont=>exact q _ _ _ h' tk' hp F' N')
end
theorem countP_take {α:Type} {l:List α} {p:α→Bool} {i:Nat} {e:α} (h:l[i]? = some e):(l.take (i + 1)).countP p = (l.take i).countP p + if p e = true then 1 else 0:=by
 rw [List.take_add_one,h,List.countP_append]
 exact congrArg (_ + ·) (by show List.countP p [e] = _;rw [List.countP_cons,List.countP_nil,Nat.zero_add])
noncomputable def JCnt {α:Type} (l:List α) (p:α→Bool) (i:Nat) (ys:List Value) (nw:Led):Prop:=ys.length = (l.take i).countP p
theorem jcnt {α:Type} {l:List α} {p:α→Bool} {i:Nat} {e:α} {w:World} {F:FnC} {b:Bx} {env:Env} {x:Str} {v:Value} {m:MM} {ys:List Value} {nw T:Led} {ct:Expr} {px:Pos} (he:l[i]? = some e) (hJ:JCnt l p i ys nw) (hown:OwnV w F b env x v m T) (h1:Px w F b (isTrue ct env (eval ct env)) (fun a=>a = p e) m T):TurnR w F b env ct (.Name x px) m ys nw T (JCnt l p (i + 1)) :=
 .mk (p e) h1 (fun h=>(hown T px fun O h=>h).lx fun a ha=>EltP.mk a [] (fun O h=>nomatch h) (by unfold JCnt at hJ ⊢;rw [countP_take he,if_pos h,List.length_append,hJ];rfl)) fun h=>by unfold JCnt at hJ ⊢;rw [countP_take he,if_neg (by rw [h];exact Bool.false_ne_true),hJ];rfl
theorem jcnt_all {α:Type} {l:List α} {p:α→Bool} {n:Nat} {ys:List Value} {nw:Led} (h:JCnt l p n ys nw) (hn:n = l.length):ys.toArray.size = l.countP p:=by
 subst hn
 rw [List.size_toArray]
 unfold JCnt at h
 rwa [List.take_length] at h
end
section
open PySem PySem.W PyProof.Rows PySem.Spec PyProof.Rows.LCg PySem.SeqAt
set_option maxHeartbeats 8000000
set_option maxRecDepth 100000
set_option tactic.hygienic false
structure cU (led:Led) (vs:Array Value) (ents:List En):Prop where
 size:vs.size = ents.length
 at':∀ (i:Nat) e,ents[i]? = some e→∃ a t1 t2 t3 t4 t5 k,vs[i]? = some (.ref a)∧(a,aS [.bytes e.u t1,.int (0 - (e.q:Int)) t2,.int (0 - (e.k:Int)) t3,.int (e.c:Int) t4,.int (e.i:Int) t5] k)∈led
theorem cU.mono {led led':Led} {vs:Array Value} {ents:List En} (h:cU led vs ents) (hs:∀ p∈led,p∈led'):cU led' vs ents :=
 ⟨h.size,fun i e he=>by obtain ⟨a,t1,t2,t3,t4,t5,k,h1,h2⟩:=h.at' i e he;exact ⟨a,t1,t2,t3,t4,t5,k,h1,hs _ h2⟩⟩
section
variable {w:World} {D D':Nat} {F:FnC} {b:Bx} {m:MM} {led:Led} {env:Env} {pos:Pos} {e l' r:Expr} {i k j:Int} {n:Nat} {P:Value→Prop} {whole:Sem Value}
inductive SlcL (m:MM) (led:Led) (zs:List Value):Value→MM→Led→Prop
 | mk (D:Addr) (hlt:∀ p∈led,@LT.lt Nat _ p.1 D):SlcL m led zs (.ref D) m ((D,listOf zs.toArray 0)::led)
theorem lx_slice {o lo up:Expr} {sp:Pos} {l:Addr} {its:Array Value} {zs:List Value} (h1:Px w F b (eval o env) (fun a=>a = .ref l) m led) (h2:Px w F b (eval lo env) (IsI i) m led) (h3:Px w F b (eval up env) (IsI j) m led) (hm:(l,listOf its n)∈led) (hz:its.size≤1000) (h0:0≤i) (hij:0≤j) (hv:(its.toList.drop i.toNat).take (j.toNat - i.toNat) = zs)
  (hs:∀ x,subscripted (.Slice (some lo) (some up) none sp) false (.ref l) (.ref x) = operate [.ref x,.ref l] (getItem (.ref l) (.ref x))) (hg:∀ r,letTemporaryGo o (.ref l) r = pure ()) :
  Lx w F b (eval (.Subscript o (.Slice (some lo) (some up) none sp) pos) env) (SlcL m led zs) m led:=by
 revert w F b m led env pos i j n o lo up sp l its zs
 refine no_implicit_lambda% (aW ?_)
 refine no_implicit_lambda% (aW ?_)
 refine no_implicit_lambda% (aW ?_)
 refine no_implicit_lambda% (e20 ?n fun T0=>(?_:bp T0) () () () _ _ _ _ _ _ _ _ _ _ _ _ _ _ _ _ _)
 case n=>fail "n"
 intro O O O w F b m led env pos i j n o lo up sp l its zs
 intros
 clear T0
 exact (fun s Q E f N q =>
 Subscript_ (h1 s _ E f N fun a h' tk' pa F' N'=>by
  subst pa
  refine wpAny_Slice (h2 _ _ E F' N' fun a2 h2' tk2 pa2 F2 N2=>?_)
  obtain ⟨u,rfl⟩:=pa2
  refine h3 _ _ E F2 N2 fun a3 h3' tk3 pa3 F3 N3=>?_
  obtain ⟨u3,rfl⟩:=pa3
  refine wpAny_pure (kms_slice_lit (s:={ s with heap:=h3',toks:=tk3 }) (lo:=some i) (hi:=some j) F3 N3 (News.isList N3 hm) (.int _ _) (.int _ _) (zs:=zs) ?_ (fun D h4 F4 N4 hlt=>q _ _ _ h4 _ (.mk D hlt) F4 N4) (hs _) hg (Nat.le_trans hz (by decide)))
  show (its.toList.drop (if i < 0 then _ else min i.toNat its.toList.length)).take ((if j < 0 then _ else min j.toNat its.toList.length) - (if i < 0 then _ else min i.toNat its.toList.length)) = zs
  rw [if_neg (by omega (splitNatSub:=true)),if_neg (by omega (splitNatSub:=true)),← hv]
  rcases Nat.le_total i.toNat its.toList.length with g | g
  ·rw [Nat.min_eq_left g]
   rcases Nat.le_total j.toNat its.toList.length with g2 | g2
   ·rw [Nat.min_eq_left g2]
   ·rw [Nat.min_eq_right g2,List.take_of_length_le (by rw [List.length_drop];exact Nat.le_refl _),List.take_of_length_le (by rw [List.length_drop];omega (splitNatSub:=true))]
  ·rw [Nat.min_eq_right g,List.drop_of_length_le (Nat.le_refl _),List.drop_of_length_le g,List.take_nil,List.take_nil]))
theorem lx_sliceTo {o up:Expr} {sp:Pos} {l:Addr} {its:Array Value} {zs:List Value} (h1:Px w F b (eval o env) (fun a=>a = .ref l) m led) (h3:Px w F b (eval up env) (IsI j) m led) (hm:(l,listOf its n)∈led) (hz:its.size≤1000) (hij:0≤j) (hv:its.toList.take j.toNat = zs)
  (hs:∀ x,subscripted (.Slice none (some up) none sp) false (.ref l) (.ref x) = operate [.ref x,.ref l] (getItem (.ref l) (.ref x))) (hg:∀ r,letTemporaryGo o (.ref l) r = pure ()) :
  Lx w F b (eval (.Subscript o (.Slice none (some up) none sp) pos) env) (SlcL m led zs) m led:=fun s Q E f N q =>
 Subscript_ (h1 s _ E f N fun a h' tk' pa F' N'=>by
  subst pa
  refine wpAny_Slice (wpAny_pure (h3 _ _ E F' N' fun a3 h3' tk3 pa3 F3 N3=>?_))
  obtain ⟨u3,rfl⟩:=pa3
  refine wpAny_pure (kms_slice_lit (s:={ s with heap:=h3',toks:=tk3 }) (lo:=none) (hi:=some j) F3 N3 (News.isList N3 hm) .none (.int _ _) (zs:=zs) ?_ (fun D h4 F4 N4 hlt=>q _ _ _ h4 _ (.mk D hlt) F4 N4) (hs _) hg (Nat.le_trans hz (by decide)))
  show (its.toList.drop 0).take ((if j < 0 then _ else min j.toNat its.toList.length) - 0) = zs
  rw [if_neg (by omega),← hv,List.drop_zero,Nat.sub_zero]
  rcases Nat.le_total j.toNat its.toList.length with g2 | g2
  ·rw [Nat.min_eq_left g2]
  ·rw [Nat.min_eq_right g2,List.take_of_length_le (Nat.le_refl _),List.take_of_length_le g2])
theorem px_max {e1 e2:Expr} (h1:Px w F b (eval e1 env) (IsI i) m led) (h2:Px w F b (eval e2 env) (IsI j) m led) (hn:Px w F b (eval l' env) (fun a=>a = .builtin "max") m led)
  (ha:starEach [e1,e2] env = (false,eval e1 env)::starEach [e2] env) (ha2:starEach [e2] env = (false,eval e2 env)::starEach [] env) (hp:(backTo pos (starEach [e2] env)).any (·.1) = false)
  (he:eval (.Call l' [e1,e2] [] pos) env = (do callWith pos (← eval l' env) [] (backTo pos (starEach [e1,e2] env)) (backToKw pos (keywordEach [] env)))):Px w F b (eval (.Call l' [e1,e2] [] pos) env) (IsI (max i j)) m led :=
 pb1 hn (aU h1 h2 ha ha2) (fun vs hvs s Q E f N q=>by
  obtain ⟨_,_,rfl,⟨t,rfl⟩,⟨u,rfl⟩⟩:=hvs
  exact max_two_N rfl f N fun h' tk F' N'=>q _ h' tk ⟨_,by congr 1;omega⟩ F' N') ha hp he
theorem px_min {e1 e2:Expr} (h1:Px w F b (eval e1 env) (IsI i) m led) (h2:Px w F b (eval e2 env) (IsI j) m led) (hn:Px w F b (eval l' env) (fun a=>a = .builtin "min") m led)
  (ha:starEach [e1,e2] env = (false,eval e1 env)::starEach [e2] env) (ha2:starEach [e2] env = (false,eval e2 env)::starEach [] env) (hp:(backTo pos (starEach [e2] env)).any (·.1) = false)
  (he:eval (.Call l' [e1,e2] [] pos) env = (do callWith pos (← eval l' env) [] (backTo pos (starEach [e1,e2] env)) (backToKw pos (keywordEach [] env)))):Px w F b (eval (.Call l' [e1,e2] [] pos) env) (IsI (min i j)) m led :=
 pb1 hn (aU h1 h2 ha ha2) (fun vs hvs s Q E f N q=>by
  obtain ⟨_,_,rfl,⟨t,rfl⟩,⟨u,rfl⟩⟩:=hvs
  exact min_two_N rfl f N fun h' tk F' N'=>q _ h' tk ⟨_,by congr 1;omega⟩ F' N') ha hp he
theorem pv_inL {ns:List Int} (h1:Px w F b (eval l' env) (IsI k) m led) (h2:Lx w F b (eval r env) (NewL m led fun ys O=>IntsAre ys.toList ns) m led) (hm:behindInMarks .In r = false):Px w F b (eval (.Compare l' [.In] [r] pos) env) (fun a=>a = .bool (ns.any (· == k))) m led:=fun s Q E f N q =>
 wpAny_Compare1 (h1 s _ E f N fun a h' tk' pa F' N'=>by
  obtain ⟨t,rfl⟩:=pa
  exact h2 _ _ E F' N' fun v m' led' h2' tk2 hv F2 N2=>by
   obtain ⟨l,ys,kk,_,hm2,hs,hi⟩:=hv
   refine in_list_ints (vs:=ys.toList) (News.isList N2 hm2) hi ?_
   exact q _ h2' _ rfl F2 (bJ N2 hs)) hm
noncomputable def bO (vs:List Value) (us:List (Array UInt8)):Prop:=vs.length = us.length∧∀ (i:Nat) u,us[i]? = some u→∃ t,vs[i]? = some (.bytes u t)
theorem pc_notinB {x:Array UInt8} {us:List (Array UInt8)} (h1:Px w F b (eval l' env) (IsB x) m led) (h2:Lx w F b (eval r env) (NewL m led fun ys O=>bO ys.toList us) m led) (hm:behindInMarks .NotIn r = false):Px w F b (isTrue (.Compare l' [.NotIn] [r] pos) env whole) (fun a=>a = !(us.any (· == x))) m led:=fun s Q E f N q =>
 wpAny_isTrue_Compare1 (h1 s _ E f N fun a h' tk' pa F' N'=>by
  obtain ⟨t,rfl⟩:=pa
  exact h2 _ _ E F' N' fun v m' led' h2' tk2 hv F2 N2=>by
   obtain ⟨l,ys,kk,_,hm2,hs,hl,hi⟩:=hv
   refine notIn_listAt (fun y=>match y with | .bytes u _=>u == x | _=>false) (News.isList N2 hm2) (fun y hy=>?_) (wpAny_truthy_bool (q _ h2' _ ?_ F2 (bJ N2 hs)))
   ·obtain ⟨i,hi9⟩:=List.mem_iff_getElem?.mp (Array.mem_toList_iff.mpr hy)
    have hlt:i < us.length:=by have:=(List.getElem?_eq_some_iff.mp hi9).1;omega (splitNatSub:=true)
    obtain ⟨t2,ht2⟩:=hi i _ (List.getElem?_eq_getElem hlt)
    rw [hi9] at ht2
    cases ht2
    exact eqAt_bytes _ _ _ _
   ·rw [← Array.any_toList]
    congr 1
    rw [Bool.eq_iff_iff,List.any_eq_true,List.any_eq_true]
    constructor
    ·rintro ⟨y,hy,hb⟩
     obtain ⟨i,hi9⟩:=List.mem_iff_getElem?.mp hy
     have hlt:i < us.length:=by have:=(List.getElem?_eq_some_iff.mp hi9).1;omega (splitNatSub:=true)
     obtain ⟨t2,ht2⟩:=hi i _ (List.getElem?_eq_getElem hlt)
     rw [hi9] at ht2
     cases ht2
     exact ⟨_,List.getElem_mem hlt,hb⟩
    ·rintro ⟨u,hu,hb⟩
     obtain ⟨i,hi9⟩:=List.mem_iff_getElem?.mp hu
     obtain ⟨t2,ht2⟩:=hi i _ hi9
     exact ⟨_,List.mem_of_getElem? ht2,hb⟩) hm
inductive SrcL (w:World) (F:FnC) (b:Bx) (sc:Scope) (cl:List (Str × Addr)) (elt:Expr) (x:Str) (φ:Value→MM→Led→Prop) (m:MM):Value→MM→Led→Prop
 | mk (ax:Addr) (its:Array Value) (k:Nat) (led':Led) (J:Nat→List Value→Led→Prop) (hm:(ax,listOf its k)∈led') (hz:its.size≤1000) (h0:J 0 [] led') (turn:TurnU w F b sc cl elt x m led' (fun i v=>its[i]? = some v) its.size J)
  (hq:∀ D ys nw,J its.size ys nw→(∀ p∈led',p∈nw)→(∀ p∈nw,@Ne Nat p.1 D)→φ (.ref D) m ((D,lst ys)::nw)):SrcL w F b sc cl elt x φ m (.ref ax) m led'
theorem lx_compUL {elt iter:Expr} {x:Str} {sc:Scope} {cl:List (Str × Addr)} {px:Pos} {φ:VP} (hi:Lx w F b (eval iter (evx F b)) (SrcL w F b sc cl elt x φ m) m led)
  (hclos:closureFor sc (evx F b) = pure cl) (hcell:∀ y∈sc.names,y.2≠.cell) (hkind:sc.kind = .function) (hnames:∀ y∈sc.names,y.2 = .local→sc.names.lookup y.1 = some .local) (hx:sc.names.lookup x = some .local)
  (hk:∀ C,(compEnvC sc cl C (evx F b)).scope.kind = .function) (hl:∀ C,(compEnvC sc cl C (evx F b)).kindOf x = some .local) (hd:(x == ("__debug__":Str)) = false) (hs:∀ x,foldedSetIterable iter (evx F b) x = pure x) :
  Lx w F b (eval (.ListComp elt [⟨.Name x px,iter,[],0⟩] sc pos) (evx F b)) φ m led:=fun s Q E f N q =>
 ListComp_U f hclos hcell hkind hnames hx (hi s _ E f N fun a m' led2 h' tk' pa F' N'=>by
  obtain ⟨ax,its,k,_,J,hm,hz,h0,turn,hq⟩:=pa
  exact CompSrc.ledger (by exact rfl) F' N' hm (Nat.le_trans hz (by decide)) fun g=>rest_U turn (fun nw h=>.inr ⟨_,h _ hm,rfl,_,rfl⟩) h0 (fun ys nw hJ hsub D h tk F2 N2 o=>q _ _ _ h tk (hq D ys nw hJ hsub (eM o)) F2 N2) hk hl hd) hs
end
section
variable {w:World} {D:Nat} {rest:Led} {el:Addr} {vs:Array Value} {n:Nat} {ents:List En} {upto:Int} {tu:Tok} {u:Array UInt8}
theorem below_c (hl:(el,listOf vs n)∈rest) (he:cU rest vs ents) (hsz:ents.length≤5):am w (D + 1) 683 [.ref el,.bytes u tu] [] rest fun r fp'=>IsI (belowZ ents u) r:=by
 have hez:=he.size
 refine' calls_ofC (binds:=[("entries",.ref el),("user",.bytes u tu)]) ?ho ?hcd ?hb ?hkd ?hnd ?c1 ?c2 ?c3 ?_
 (case ho=>with_unfolding_all rfl)
 (case hcd=>with_unfolding_all rfl)
 (case hb=>exact fun s=>BindsTo.of_eq rfl)
 (case hkd=>rfl)
 (case hnd=>decide +kernel)
 (case c1=>rfl)
 (case c2=>rfl)
 (case c3=>rfl)
 intro bb cells ok Y l1 φ kφ
 obtain ⟨oA,rfl,dA⟩:=CellsAre.one Y
 have dA:oA.data = .cell (some (.bytes u tu)):=dA
 refine aZ (px_lenL (n:=belowZ ents u) (lx_compT (J:=JCnt ents (fun e=>ltB e.u u)) decl_name% (.tail _ hl) (by omega) rfl (fun i v ys nw T C hi hP hJ hsub hT hown=>?_) (fun D ys nw h hs hne=>.mk D _ _ _ (.head _) (fun p hp=>.tail _ (hs p hp)) (jcnt_all h he.size)) nofun (by decide) rfl (by decide) rfl (fun O=>rfl) (fun O=>rfl) rfl (fun O=>rfl)) (ah ok nofun nofun (by decide) rfl rfl rfl) (by have:=cF ents u;omega) rfl rfl) fun v hv=>kφ (.ret v) _ [_] hv
 obtain ⟨e9,he9⟩:∃ e,ents[i]? = some e:=⟨_,List.getElem?_eq_getElem (by omega)⟩
 obtain ⟨aa,t1,t2,t3,t4,t5,kx,hv,hxm⟩:=he.at' i e9 he9
 obtain rfl:v = .ref aa:=Option.some.inj ((show vs[i]? = some v from hP).symm.trans hv)
 exact jcnt he9 hJ hown (pc_ltB (Px.mono (bh (k:=0) (hown _ _ fun O h=>h) ab (hT _ (hsub _ (.tail _ hxm))) (by decide) (by decide) rfl fun O=>nofun) fun a h=>⟨_,h⟩) (Px.mono (cD (hT _ (hsub _ (.head _))) dA rfl rfl rfl rfl) fun a h=>⟨_,h⟩) rfl)
end
theorem bO.nil:bO [] []:=⟨rfl,fun i u h=>by simp at h⟩
theorem bO.push {ys:List Value} {us:List (Array UInt8)} {u:Array UInt8} {t:Tok} (h:bO ys us):bO (ys++[.bytes u t]) (us++[u]):=by
 have hl:=h.1
 refine ⟨by simp [hl],fun i x hx=>?_⟩
 rcases Nat.lt_or_ge i us.length with g | g
 ·rw [List.getElem?_append_left g] at hx
  rw [List.getElem?_append_left (by omega)]
  exact h.2 i x hx
 ·rw [List.getElem?_append_right g] at hx
  have h0:i - us.length = 0:=by
   rcases Nat.eq_zero_or_pos (i - us.length) with e | e
   ·exact e
   ·rw [List.getElem?_eq_none (by simp;omega)] at hx;cases hx
  rw [h0] at hx
  cases hx
  rw [List.getElem?_append_right (by omega),show i - ys.length = 0 by omega]
  exact ⟨t,rfl⟩
theorem bO.take {ys:List Value} {us:List (Array UInt8)} (h:bO ys us) (n:Nat):bO (ys.take n) (us.take n):=by
 refine ⟨by rw [List.length_take,List.length_take,h.1],fun i x hx=>?_⟩
 rw [List.getElem?_take] at hx ⊢
 split at hx
 ·rename_i g
  rw [if_pos g]
  exact h.2 i x hx
 ·cases hx
noncomputable def vkL (ents:List En) (upto:Int) (i:Nat):List (Array UInt8):=((ents.take i).filter fun e=>e.vk upto).map (·.u)
theorem vkL_succ {ents:List En} {upto:Int} {i:Nat} {e:En} (h:ents[i]? = some e):vkL ents upto (i + 1) = vkL ents upto i++if e.vk upto = true then [e.u] else []:=by
 unfold vkL
 rw [List.take_add_one,h,List.filter_append,List.map_append]
 congr 1
 show List.map _ (List.filter _ [e]) = _
 rw [List.filter_cons,List.filter_nil]
 split <;> rfl
theorem vkL_take {ents:List En} {upto:Int} {i:Nat} (hi:i≤ents.length):(vkL ents upto ents.length).take (vkL ents upto i).length = vkL ents upto i:=by
 have:vkL ents upto ents.length = vkL ents upto i++((ents.drop i).filter fun e=>e.vk upto).map (·.u):=by
  unfold vkL
  rw [List.take_length,← List.map_append,← List.filter_append,List.take_append_drop]
 rw [this,List.take_left]
theorem vkL_at {ents:List En} {upto:Int} {i:Nat} {e:En} (h:ents[i]? = some e) (hv:e.vk upto = true):(vkL ents upto ents.length)[(vkL ents upto i).length]? = some e.u:=by
 have hi:=(List.getElem?_eq_some_iff.mp h).1
 have h1:=vkL_take (upto:=upto) (show i + 1≤ents.length by omega)
 have h2:=vkL_succ (upto:=upto) h
 rw [if_pos hv] at h2
 have h3:(vkL ents upto (i + 1))[(vkL ents upto i).length]? = some e.u:=by
  rw [h2,List.getElem?_append_right (Nat.le_refl _),Nat.sub_self];rfl
 rw [← h1,List.getElem?_take] at h3
 split at h3
 ·exact h3
 ·cases h3
theorem vkL_any {ents:List En} {upto:Int} {i:Nat} (u:Array UInt8):(vkL ents upto i).any (· == u) = (ents.take i).any fun d=>d.vk upto && d.u == u:=by
 unfold vkL
 rw [List.any_map,List.any_filter]
 rfl
theorem vkL_len {ents:List En} {upto:Int} {i:Nat}:(vkL ents upto i).length≤ents.length:=by
 unfold vkL
 rw [List.length_map]
 exact Nat.le_trans (List.length_filter_le _ _) (by rw [List.length_take];exact Nat.min_le_right _ _)
noncomputable def natI (l:List Nat):List Int:=l.map fun (n:Nat)=>(n:Int)
noncomputable def newTo (ents:List En) (upto:Int) (i:Nat):List Nat:=(List.range i).filter (bF ents upto)
theorem eN {ents:List En} {upto:Int} {i:Nat}:newTo ents upto (i + 1) = newTo ents upto i++if bF ents upto i = true then [i] else []:=by
 unfold newTo
 rw [List.range_succ,List.filter_append]
 congr 1
 rw [List.filter_cons,List.filter_nil]
theorem ints_push {vs:List Value} {ns:List Int} {k:Int} {t:Tok} (h:IntsAre vs ns):IntsAre (vs++[.int k t]) (ns++[k]):=by
 induction h with
 | nil=>exact .cons k t .nil
 | cons n u h ih=>exact .cons n u ih
theorem neg2 (q:Nat):(0:Int) - (0 - (q:Int)) = (q:Int):=by omega
noncomputable def NwP (rest:Led) (ents:List En) (upto:Int) (r:Value) (fp':Led):Prop:=∃ fl fvs k,r = .ref fl∧(fl,listOf fvs k)∈fp'∧IntsAre fvs.toList (natI (aI ents upto))∧∀ p∈rest,@Ne Nat p.1 fl
inductive NwJ (T0:Led) (fl hd el:Addr) (ents:List En) (upto:Int):Nat→MM→Led→Prop
 | mk {i:Nat} {m:MM} (e1:m "found" = some (.ref fl)) (e2:m "heads" = some (.ref hd)) (e3:∃ v,m "at" = some v∧IsI ((vkL ents upto i).length:Int) v) (e4:m "entries" = some (.ref el)) (fvs:Array Value) (k:Nat) (hz:fvs.size≤i) (hf:IntsAre fvs.toList (natI (newTo ents upto i))):NwJ T0 fl hd el ents upto i m ((fl,listOf fvs k)::T0)
section
variable {w:World} {D:Nat} {rest:Led} {el:Addr} {vs:Array Value} {n:Nat} {ents:List En} {upto:Int} {tu:Tok}
theorem newest_c (hl:(el,listOf vs n)∈rest) (he:cU rest vs ents) (hsz:ents.length≤5):am w (D + 1) 688 [.ref el,.int upto tu] [] rest (NwP rest ents upto):=by
 revert w D rest el vs n ents upto tu
 refine no_implicit_lambda% (aW ?_)
 refine no_implicit_lambda% (aW ?_)
 refine no_implicit_lambda% (aW ?_)
 refine no_implicit_lambda% (e12 ?n fun T0=>(?_:bp T0) () () () _ _ _ _ _ _ _ _ _)
 case n=>fail "n"
 intro O O O w D rest el vs n ents upto tu
 intros
 clear T0
 have hez:=he.size
 refine' calls_ofC (binds:=[("entries",.ref el),("upto",.int upto tu)]) ?ho ?hcd ?hb ?hkd ?hnd ?c1 ?c2 ?c3 ?_
 (case ho=>with_unfolding_all rfl)
 (case hcd=>with_unfolding_all rfl)
 (case hb=>exact fun s=>BindsTo.of_eq rfl)
 (case hkd=>rfl)
 (case hnd=>decide +kernel)
 (case c1=>rfl)
 (case c2=>rfl)
 (case c3=>rfl)
 intro bb cells ok Y l1 φ kφ
 obtain ⟨oA,rfl,dA⟩:=CellsAre.one Y
 have dA:oA.data = .cell (some (.int upto tu)):=dA
 refine aj (aM (dO fun fl g1=>?_) rfl rfl rfl)
 have r1:∀ p∈rest,@Ne Nat p.1 fl:=fun p hp=>Nat.ne_of_lt (g1 p (.tail _ hp))
 have r2:@Ne Nat (bb.L + 1) fl:=Nat.ne_of_lt (g1 _ (.head _))
 refine aj (lx_asgT (J:=fun i ys nw=>bO ys (vkL ents upto i)) decl_name% (.tail _ (.tail _ hl)) (by omega) bO.nil (fun j v ys nw T C hj hP2 hJ2 hsub hT hown=>?_) (fun hd ys nw hJ2 hsub hne2=>?_) nofun nofun (by decide) rfl (by decide) rfl rfl rfl (fun O=>rfl) (fun O=>rfl) rfl (fun O=>rfl))
 ·obtain ⟨e9,he9⟩:∃ e,ents[j]? = some e:=⟨_,List.getElem?_eq_getElem (by omega)⟩
  obtain ⟨aa,t1,t2,t3,t4,t5,kx,hv,hxm⟩:=he.at' j e9 he9
  obtain rfl:v = .ref aa:=Option.some.inj ((show vs[j]? = some v from hP2).symm.trans hv)
  have hxm2:=hT _ (hsub _ (.tail _ (.tail _ hxm)))
  refine .mk (e9.vk upto) (ck (c:=e9.vis upto) (c2:=decide (e9.k < 2)) (pc_leI (Px.mono (bq ab (Px.mono (bh (k:=1) (hown _ _ fun O h=>h) ab hxm2 (by decide) (by decide) rfl fun O=>nofun) isI)) fun v h=>neg2 e9.q ▸ h) (Px.mono (cD (hT _ (hsub _ (.tail _ (.head _)))) dA rfl rfl rfl rfl) isI) rfl) fun O=>Px.mono (cS (Px.mono (bh (k:=2) (hown _ _ fun O h=>h) ab hxm2 (by decide) (by decide) rfl fun O=>nofun) isI) (bq ab ab) rfl) fun a h=>h.trans (decide_eq_decide.mpr (by omega))) (fun hc=>(bh (k:=0) (hown _ _ fun O h=>h) ab hxm2 (by decide) (by decide) rfl fun O=>nofun).lx fun a ha=>?_) fun hc=>?_
  ·subst ha
   refine EltP.mk _ [] (fun O h=>nomatch h) ?_
   show bO _ (vkL ents upto (j + 1))
   rw [vkL_succ he9,if_pos hc]
   exact bO.push hJ2
  ·show bO _ (vkL ents upto (j + 1))
   rw [vkL_succ he9,if_neg (by rw [hc];exact Bool.false_ne_true),List.append_nil]
   exact hJ2
 ·have hJ2:bO ys (vkL ents upto ents.length):=by rw [← hez];exact hJ2
  have q1:@Ne Nat hd fl:=fun e=>hne2 _ (hsub _ (.head _)) e.symm
  refine Lx.sub (led':=(fl,listOf #[] 0)::(hd,lst ys)::(bb.L + 1,oA)::([]++rest)) (fun p hp=>?_) ?_
  ·fail "c"
   ·exact .tail _ (hsub _ (.head _))
   ·fail "c"
    ·exact .head _
    ·exact .tail _ (hsub _ (.tail _ hp))
  refine aD ab (fun v hv=>?_) rfl rfl rfl
  have hoff:∀ p∈(hd,lst ys)::(bb.L + 1,oA)::([]++rest),p.1≠fl:=fun p hp=>by
   fail "c"
   ·exact q1
   ·fail "c"
    ·exact r2
    ·exact r1 p hp
  refine sx_forUp (n:=vs.size) ok (ah ok nofun nofun (by decide) rfl rfl rfl) (dm ok decl_name% (ah ok nofun nofun (by decide) rfl rfl rfl) (.tail _ (.tail _ (.tail _ hl))) (by omega) rfl rfl) (by omega) (NwJ ((hd,lst ys)::(bb.L + 1,oA)::([]++rest)) fl hd el ents upto) (.mk rfl rfl ⟨v,rfl,by exact hv⟩ rfl #[] 0 (Nat.le_refl _) .nil) (fun i m₁ led₁ I o t hi hJ hne Φ hΦ hR=>?_) (fun m' led' hJ=>?_) rfl rfl rfl rfl (fun O=>rfl)
  ·obtain ⟨e1,e2,⟨va,ea,ha⟩,e4,fvs,k,hz,hf⟩:=hJ
   have e5:∃ v,ms m₁ "i" (.int (i:Int) t) "i" = some v∧IsI (i:Int) v:=⟨_,rfl,_,rfl⟩
   have e1:ms m₁ "i" (.int (i:Int) t) "found" = some (.ref fl):=e1
   have e2:ms m₁ "i" (.int (i:Int) t) "heads" = some (.ref hd):=e2
   have ea:ms m₁ "i" (.int (i:Int) t) "at" = some va:=ea
   have e4:ms m₁ "i" (.int (i:Int) t) "entries" = some (.ref el):=e4
   generalize ms m₁ "i" (.int (i:Int) t) = m₁ at e1 e2 ea e4 e5 ⊢
   have qI:@Ne Nat I fl:=fun e=>hne _ (.head _) e.symm
   obtain ⟨e9,he9⟩:∃ e,ents[i]? = some e:=⟨_,List.getElem?_eq_getElem (by omega)⟩
   obtain ⟨aa,t1,t2,t3,t4,t5,kx,hv9,hxm⟩:=he.at' i e9 he9
   have hin:∀ p∈rest,p∈(I,o)::(fl,listOf fvs k)::(hd,lst ys)::(bb.L + 1,oA)::([]++rest):=fun p hp=>.tail _ (.tail _ (.tail _ (.tail _ hp)))
   have hxm2:=hin _ hxm
   have hl2:=hin _ hl
   have hhd:(hd,listOf ys.toArray ys.length)∈(I,o)::(fl,listOf fvs k)::(hd,lst ys)::(bb.L + 1,oA)::([]++rest):=(List.Mem.tail _ (List.Mem.tail _ (List.Mem.head _)):(hd,lst ys)∈(I,o)::(fl,listOf fvs k)::(hd,lst ys)::(bb.L + 1,oA)::([]++rest))
   have hys:ys.toArray.size≤5:=by rw [List.size_toArray,hJ2.1];exact Nat.le_trans vkL_len hsz
   have hne2:∀ fvs' k',∀ p∈(fl,listOf fvs' k')::(hd,lst ys)::(bb.L + 1,oA)::([]++rest),p.1≠I:=fun fvs' k' p hp=>by
    fail "c"
    ·exact hne (fl,listOf fvs k) (.head _)
    ·exact hne p (.tail _ hp)
   refine sx_if (c:=e9.vk upto) (ck (c:=e9.vis upto) (c2:=decide (e9.k < 2)) (pc_leI (Px.mono (bq ab (Px.mono (bh (k:=1) (aK (k:=(i:Int)) (af e4 rfl rfl rfl) (ac e5 rfl rfl rfl) hl2 (by omega) (by omega) hv9 fun O=>nofun) ab hxm2 (by decide) (by decide) rfl fun O=>nofun) isI)) fun v h=>neg2 e9.q ▸ h) (Px.mono (px_cell (.tail _ (.tail _ (.tail _ (.head _)))) dA rfl rfl rfl rfl) isI) rfl) fun O=>Px.mono (cS (Px.mono (bh (k:=2) (aK (k:=(i:Int)) (af e4 rfl rfl rfl) (ac e5 rfl rfl rfl) hl2 (by omega) (by omega) hv9 fun O=>nofun) ab hxm2 (by decide) (by decide) rfl fun O=>nofun) isI) (bq ab ab) rfl) fun a h=>h.trans (decide_eq_decide.mpr (by omega))) (fun hvk=>?_) fun hvk=>?_
   ·have hat:=vkL_at he9 hvk
    obtain ⟨tb,hb9⟩:=hJ2.2 _ _ hat
    have hal:(vkL ents upto i).length≤5:=Nat.le_trans vkL_len hsz
    refine dh (ψ:=fun fl' m' led'=>fl' = .next∧(∃ v,m' "at" = some v∧IsI ((vkL ents upto i).length:Int) v)∧m' "found" = some (.ref fl)∧m' "heads" = some (.ref hd)∧m' "entries" = some (.ref el)∧∃ fvs' k',fvs'.size≤i + 1∧IntsAre fvs'.toList (natI (newTo ents upto (i + 1)))∧led' = (I,o)::(fl,listOf fvs' k')::(hd,lst ys)::(bb.L + 1,oA)::([]++rest)) (c:=bF ents upto i) ?_ (fun hnew ψ0 kψ=>?_) (fun hnew ψ0 kψ=>ae (kψ _ _ _ ⟨rfl,⟨va,ea,ha⟩,e1,e2,e4,fvs,k,by omega,by rw [eN,if_neg (by rw [hnew];exact Bool.false_ne_true),List.append_nil];exact hf,rfl⟩)) (fun m' led' h=>?_) fun f m' led' hf9 h=>absurd h.1 hf9
    ·have hnw:bF ents upto i = (decide (e9.k = 1) && !((vkL ents upto i).any (· == e9.u))):=by
      unfold bF
      rw [bu he9,hvk,vkL_any]
      rfl
     rw [hnw]
     refine ck (Px.mono (bn (Px.mono (bh (k:=2) (aK (k:=(i:Int)) (af e4 rfl rfl rfl) (ac e5 rfl rfl rfl) hl2 (by omega) (by omega) hv9 fun O=>nofun) ab hxm2 (by decide) (by decide) rfl fun O=>nofun) isI) (bq ab ab) rfl) fun a h=>h.trans (by rw [Bool.eq_iff_iff,beq_iff_eq,decide_eq_true_iff];omega)) fun O=>pc_notinB (Px.mono (aK (k:=((vkL ents upto i).length:Int)) (af e2 rfl rfl rfl) (ac ⟨va,ea,ha⟩ rfl rfl rfl) hhd (by omega) (by omega) (by simpa using hb9) fun O=>nofun) isB) ((lx_sliceTo (zs:=ys.take (vkL ents upto i).length) (af e2 rfl rfl rfl) (ac ⟨va,ea,ha⟩ rfl rfl rfl) hhd (by omega) (by omega) rfl (fun O=>nofun) (fun O=>nofun)).mono fun v m' led' h=>?_) rfl
     obtain ⟨DD,hlt⟩:=h
     refine .mk DD _ 0 _ (.head _) (fun p hp=>.tail _ hp) ?_
     have:=hJ2.take (vkL ents upto i).length
     rw [vkL_take (by omega)] at this
     exact this
    ·refine aO (lx_append (af e1 rfl rfl rfl) (.tail _ (.head _)) ((ac (P:=IsI (i:Int)) e5 rfl rfl rfl).lx fun v9 hv9=>.mk fvs k ((I,o)::(fl,listOf (fvs.push v9) (k + 1))::(hd,lst ys)::(bb.L + 1,oA)::([]++rest)) (.tail _ (.head _)) (.tail qI (.head hoff)) (by omega) (ae (kψ _ _ _ ⟨rfl,⟨va,ea,ha⟩,e1,e2,e4,fvs.push v9,k + 1,by rw [Array.size_push];omega,?_,rfl⟩))) rfl rfl) rfl rfl
     obtain ⟨t9,rfl⟩:=hv9
     rw [eN,if_pos hnew,Array.toList_push]
     unfold natI
     rw [List.map_append]
     exact ints_push hf
    ·obtain ⟨-,⟨v2,ea2,ha2⟩,g1,g2,g4,fvs',k',hz',hf',rfl⟩:=h
     refine aj (lx_augname ea2 ab (op_iadd ha2) (fun v3 hv3=>ae (ae (hΦ .next _ ((fl,listOf fvs' k')::(hd,lst ys)::(bb.L + 1,oA)::([]++rest)) _ (.inl rfl) (NwJ.mk (m:=ms m' "at" v3) g1 g2 ⟨v3,rfl,?_⟩ g4 fvs' k' hz' hf') (fun p hp=>.tail _ hp) (.head _) (hne2 fvs' k')))) rfl rfl)
     rw [vkL_succ he9,if_pos hvk,List.length_append]
     exact hv3
   ·refine ae (ae (hΦ .next _ ((fl,listOf fvs k)::(hd,lst ys)::(bb.L + 1,oA)::([]++rest)) _ (.inl rfl) (NwJ.mk e1 e2 ⟨va,ea,?_⟩ e4 fvs k (by omega) ?_) (fun p hp=>.tail _ hp) (.head _) hne))
    ·rw [vkL_succ he9,if_neg (by rw [hvk];exact Bool.false_ne_true),List.append_nil]
     exact ha
    ·rw [eN,if_neg ?_,List.append_nil]
     ·exact hf
     ·unfold bF
      rw [bu he9,hvk]
      exact Bool.false_ne_true
  ·obtain ⟨e1,e2,e3,e4,fvs,k,hz,hf⟩:=hJ
   rw [hez] at hf
   exact aZ (af e1 rfl rfl rfl) fun v hv=>kφ (.ret v) _ [_,_,_] ⟨fl,fvs,k,hv,.head _,hf,r1⟩
end
noncomputable def gI (g:Option Nat):Int:=match g with | none=>-1 | some i=>i
noncomputable def cX (ents:List En) (a b:Nat):List En:=(ents.drop a).take (b - a)
theorem cU.slice {led:Led} {vs:Array Value} {ents:List En} (h:cU led vs ents) (a b:Nat):cU led ((vs.toList.drop a).take (b - a)).toArray (cX ents a b):=by
 have hz:=h.size
 refine ⟨by unfold cX;simp [hz],fun i e he=>?_⟩
 unfold cX at he
 rw [List.getElem?_take] at he
 split at he
 ·rename_i hi
  rw [List.getElem?_drop] at he
  obtain ⟨aa,t1,t2,t3,t4,t5,k,h1,h2⟩:=h.at' (a + i) e he
  refine ⟨aa,t1,t2,t3,t4,t5,k,?_,h2⟩
  rw [List.getElem?_toArray,List.getElem?_take,if_pos hi,List.getElem?_drop]
  rw [← h1,Array.getElem?_toList]
 ·cases he
noncomputable def kdI (ents:List En) (i:Nat):List Int:=(ents.take i).map fun e=>0 - (e.k:Int)
theorem kdI_succ {ents:List En} {i:Nat} {e:En} (h:ents[i]? = some e):kdI ents (i + 1) = kdI ents i++[0 - (e.k:Int)]:=by
 unfold kdI
 rw [List.take_add_one,h,List.map_append]
 rfl
theorem kdI_bad {ents:List En} {a b n:Nat} (hn:n = (cX ents a b).length):(kdI (cX ents a b) n).any (· == -2) = badZ ents a b:=by
 subst hn
 unfold kdI
 rw [List.take_length,List.any_map]
 unfold badZ
 show List.any (cX ents a b) _ = List.any (cX ents a b) _
 congr 1
 funext e
 show ((0:Int) - (e.k:Int) == -2) = (e.k == 2)
 rw [Bool.eq_iff_iff,beq_iff_eq,beq_iff_eq]
 omega
noncomputable def PrP (p:Bool × Option Nat) (r:Value) (fp':Led):Prop:=∃ t tg n,r = .ref t∧(t,aS [.bool p.1,.int (gI p.2) tg] n)∈fp'
section
variable {w:World} {D:Nat} {F:FnC} {b:Bx} {m:MM} {led:Led} {el:Addr} {vs:Array Value} {n:Nat} {ents:List En} {lo up:Expr} {i j:Int}
theorem px_bad {a9 b9:Nat} {x:Str} {sc:Scope} {cl:List (Str × Addr)} {o:Expr} {k1 k2 k3} {p1 p2 p3 p4 p5 p6 p7 p8 p9 p10 sp:Pos} (ho:Px w F b (eval o (evx F b)) (fun a=>a = .ref el) m led) (h2:Px w F b (eval lo (evx F b)) (IsI (a9:Int)) m led) (h3:Px w F b (eval up (evx F b)) (IsI (b9:Int)) m led) (hl:(el,listOf vs n)∈led) (he:cU led vs ents) (hsz:ents.length≤5)
  (hclos:closureFor sc (evx F b) = pure cl) (hcell:∀ y∈sc.names,y.2≠.cell) (hkind:sc.kind = .function) (hnames:∀ y∈sc.names,y.2 = .local→sc.names.lookup y.1 = some .local) (hx:sc.names.lookup x = some .local)
  (hk:∀ C,(compEnvC sc cl C (evx F b)).scope.kind = .function) (hlc:∀ C,(compEnvC sc cl C (evx F b)).kindOf x = some .local) (hd:(x == ("__debug__":Str)) = false) (hs:∀ y,foldedSetIterable (.Subscript o (.Slice (some lo) (some up) none sp) p5) (evx F b) y = pure y)
  (hs2:∀ x,subscripted (.Slice (some lo) (some up) none sp) false (.ref el) (.ref x) = operate [.ref x,.ref el] (getItem (.ref el) (.ref x))) (hg:∀ r,letTemporaryGo o (.ref el) r = pure ()) :
  Px w F b (eval (.Compare (.BinOp (.Constant (.int 0) k1 p1) .Sub (.Constant (.int 2) k2 p2) p3) [.In] [.ListComp (.Subscript (.Name x p6) (.Constant (.int 2) k3 p7) p8) [⟨.Name x p4,.Subscript o (.Slice (some lo) (some up) none sp) p5,[],0⟩] sc p9] p10) (evx F b)) (fun a=>a = .bool (badZ ents a9 b9)) m led:=by
 have hez:=he.size
 have hes:=he.slice a9 b9
 have hll:(cX ents a9 b9).length≤5:=by unfold cX;rw [List.length_take,List.length_drop];exact Nat.le_trans (Nat.min_le_right _ _) (Nat.le_trans (Nat.sub_le _ _) hsz)
 have hez2:=hes.size
 refine Px.mono (pv_inL (k:=-2) (ns:=kdI (cX ents a9 b9) (cX ents a9 b9).length) (Px.mono (bq ab ab) fun a h=>by rw [show (-2:Int) = 0 - 2 from rfl];exact h) (lx_compUL ((lx_slice (zs:=(vs.toList.drop a9).take (b9 - a9)) ho h2 h3 hl (by omega) (by omega) (by omega) rfl hs2 hg).mono fun v m' led' h=>?_) hclos hcell hkind hnames hx hk hlc hd hs) rfl) fun a h=>h.trans (congrArg Value.bool (kdI_bad rfl))
 obtain ⟨DD,hlt⟩:=h
 refine .mk DD _ 0 _ (fun i2 ys nw=>IntsAre ys (kdI (cX ents a9 b9) i2)) (.head _) (by omega) .nil (fun j2 v ys nw T C hj2 hP2 hJ2 hsub hT hown=>?_) fun D9 ys nw hJ2 hsub hne=>?_
 ·obtain ⟨e9,he9⟩:∃ e,(cX ents a9 b9)[j2]? = some e:=⟨_,List.getElem?_eq_getElem (by omega)⟩
  obtain ⟨aa,t1,t2,t3,t4,t5,kx,hv,hxm⟩:=hes.at' j2 e9 he9
  obtain rfl:v = .ref aa:=Option.some.inj ((show _ = some v from hP2).symm.trans hv)
  refine (bh (k:=2) (hown _ _ fun O h=>h) ab (hT _ (hsub _ (.tail _ hxm))) (by decide) (by decide) rfl fun O=>nofun).lx fun a ha=>?_
  subst ha
  refine EltP.mk _ [] (fun O h=>nomatch h) ?_
  show IntsAre _ (kdI (cX ents a9 b9) (j2 + 1))
  rw [kdI_succ he9]
  exact ints_push hJ2
 ·refine .mk D9 _ _ _ (.head _) (fun p hp=>.tail _ (hsub _ (.tail _ hp))) ?_
  rw [hez2] at hJ2
  exact hJ2
end
theorem find_take {ns:List Nat} {p:Nat→Bool} {k i:Nat} (h:ns[k]? = some i):(ns.take (k + 1)).find? p = match (ns.take k).find? p with | some g=>some g | none=>if p i then some i else none:=by
 rw [List.take_add_one,h,List.find?_append]
 cases (ns.take k).find? p with
 | some g=>rfl
 | none =>
  show List.find? p [i] = _
  rw [List.find?_cons,List.find?_nil]
  cases p i <;> rfl
theorem natI_at {vs:List Value} {ns:List Nat} (h:IntsAre vs (natI ns)) {k:Nat} {v:Value} (hv:vs[k]? = some v):∃ i t,ns[k]? = some i∧v = .int (i:Int) t:=by
 have gen:∀ (vs:List Value) (zs:List Int),IntsAre vs zs→∀ (ns:List Nat),zs = natI ns→∀ (k:Nat) v,vs[k]? = some v→∃ i t,ns[k]? = some i∧v = .int (i:Int) t:=by
  intro vs zs h
  induction h with
  | nil=>intro ns _ k v hv;simp at hv
  | cons n u h ih =>
   intro ns hns k v hv
   cases ns with
   | nil=>cases hns
   | cons a ns =>
    injection hns with h1 h2
    cases k with
    | zero =>
     simp only [List.getElem?_cons_zero,Option.some.injEq] at hv
     subst hv
     exact ⟨a,u,rfl,by rw [h1]⟩
    | succ k =>
     rw [List.getElem?_cons_succ] at hv
     obtain ⟨i,t,h3,h4⟩:=ih ns h2 k v hv
     exact ⟨i,t,h3,h4⟩
 exact gen vs _ h ns rfl k v hv
structure AhM (m:MM) (el nl:Addr) (start stop:Nat) (past hi:Option (Array UInt8)) (tp th:Tok) (g:Option Nat):Prop where
 e1:m "entries" = some (.ref el)
 e2:m "newest" = some (.ref nl)
 e3:∃ v,m "start" = some v∧IsI (start:Int) v
 e4:∃ v,m "stop" = some v∧IsI (stop:Int) v
 e5:m "past" = some (bW past tp)
 e6:∃ v,m "goal" = some v∧IsI (gI g) v
section
variable {w:World} {D:Nat} {rest:Led} {el nl:Addr} {vs nvs:Array Value} {n nk:Nat} {ents:List En} {ns:List Nat} {start:Nat} {past hi lo:Option (Array UInt8)} {ts tp th tu:Tok} {upto:Int}
theorem ahead_c (hl:(el,listOf vs n)∈rest) (he:cU rest vs ents) (hsz:ents.length≤5) (hn:(nl,listOf nvs nk)∈rest) (hni:IntsAre nvs.toList (natI ns)) (hnl:∀ i∈ns,i < ents.length) (hns:ns.length≤5) (hst:start≤5):am w (D + 2) 693 [.ref el,.ref nl,.int (start:Int) ts,bW past tp,bW hi th] [] rest (PrP (c9 ents ns start past hi)):=by
 revert w D rest el nl vs nvs n nk ents ns start past hi ts tp th
 refine no_implicit_lambda% (aW ?_)
 refine no_implicit_lambda% (aW ?_)
 refine no_implicit_lambda% (aW ?_)
 refine no_implicit_lambda% (e20 ?n fun T0=>(?_:bp T0) () () () _ _ _ _ _ _ _ _ _ _ _ _ _ _ _ _ _)
 case n=>fail "n"
 intro O O O w D rest el nl vs nvs n nk ents ns start past hi ts tp th
 intros
 clear T0
 have hez:=he.size
 have hnz:nvs.size = ns.length:=by rw [← Array.length_toList,hni.length];unfold natI;rw [List.length_map]
 refine' ai (binds:=[("entries",.ref el),("newest",.ref nl),("start",.int (start:Int) ts),("past",bW past tp),("high",bW hi th)]) ?ho ?hcd ?hb ?hl ?c1 ?c2 ?c3 ?c4 ?_
 fail "e"
 refine no_implicit_lambda% (eC neM fun T0=>(?_:bp T0) _ _)
 intro bb φ ok kφ
 clear T0
 refine aD (dm ok decl_name% (ah ok nofun nofun (by decide) rfl rfl rfl) hl (by omega) rfl rfl) (fun v hv=>?_) rfl rfl rfl
 refine dh (ψ:=fun fl m' led'=>fl = .next∧led' = []++rest∧m' "entries" = some (.ref el)∧m' "newest" = some (.ref nl)∧m' "past" = some (bW past tp)∧m' "start" = some (.int (start:Int) ts)∧∃ v,m' "stop" = some v∧IsI (stopZ ents start hi:Int) v) (dK (o:=hi) (Px.mono decl_name% dC) bQ rfl) (fun hc ψ0 kψ=>?_) (fun hc ψ0 kψ=>?_) (fun m' led' h=>?_) fun f m' led' hf h=>absurd h.1 hf
 ·obtain ⟨hb,rfl⟩:=Option.isSome_iff_exists.mp hc
  refine aD (px_max (i:=(start:Int)) (j:=(belowZ ents hb:Int)) (ac ⟨_,rfl,_,rfl⟩ rfl rfl rfl) (pf1 (P:=IsI (belowZ ents hb:Int)) (A:=fun vs=>vs = [.ref el,bW (some hb) th]) ok (ao ok nofun rfl rfl rfl) (Px.mono (aU decl_name% decl_name% rfl rfl) fun vs h=>by obtain ⟨_,_,rfl,rfl,rfl⟩:=h;rfl) (fun vs2 h=>by subst h;exact ar ok (below_c (D:=D) hl he hsz) (fun O O h=>h) (fun O h=>nomatch h) rfl (by omega)) nofun rfl rfl rfl) (ah ok nofun nofun (by decide) rfl rfl rfl) rfl rfl rfl rfl) (fun v2 hv2=>?_) rfl rfl rfl
  exact ae (kψ _ _ _ ⟨rfl,rfl,rfl,rfl,rfl,rfl,v2,rfl,by show IsI ((max start (belowZ ents hb):Nat):Int) v2;rw [show ((max start (belowZ ents hb):Nat):Int) = max (start:Int) (belowZ ents hb:Int) from Lean.Omega.Int.ofNat_max _ _];exact hv2⟩)
 ·obtain rfl:hi = none:=by cases hi with | none=>rfl | some _=>cases hc
  exact ae (kψ _ _ _ ⟨rfl,rfl,rfl,rfl,rfl,rfl,v,rfl,by show IsI (ents.length:Int) v;rw [← hez];exact hv⟩)
 obtain ⟨-,hled,g1,g2,g3,g4,v2,g5,hv2⟩:=h
 rw [hled]
 clear hled led'
 refine aD (bq ab ab) (fun v3 hv3=>?_) rfl rfl rfl
 refine sx_forL (items:=nvs) (n:=nk) (af g2 rfl rfl rfl) (fun k m₁ led₁=>led₁ = []++rest∧AhM m₁ el nl start (stopZ ents start hi) past hi tp th ((ns.take k).find? fun i=>decide (start≤i) && (decide (i < stopZ ents start hi) && hasZ ents (fun e=>bg past e.u) i))) (fun i m₁ nw h=>by rw [h.1];exact hn) ⟨rfl,g1,g2,⟨_,g4,_,rfl⟩,⟨v2,g5,hv2⟩,g3,⟨v3,rfl,hv3⟩⟩ (fun k v4 m₁ led₁ I o hk hJ hne Φ hΦ hR=>?_) (fun m' led' hJ=>?_) rfl rfl (fun O=>rfl)
 ·obtain ⟨hled,M⟩:=hJ
  rw [hled] at hne ⊢
  clear hled led₁
  obtain ⟨i,t4,hi9,rfl⟩:=natI_at hni (by rw [Array.getElem?_toList];exact hk)
  have hil:=hnl i (List.mem_of_getElem? hi9)
  obtain ⟨e9,he9⟩:∃ e,ents[i]? = some e:=⟨_,List.getElem?_eq_getElem hil⟩
  obtain ⟨aa,t1,t2,t3,t5,t6,kx,hv9,hxm⟩:=he.at' i e9 he9
  have M1:AhM (ms m₁ "i" (.int (i:Int) t4)) el nl start (stopZ ents start hi) past hi tp th _:=⟨M.e1,M.e2,M.e3,M.e4,M.e5,M.e6⟩
  have e7:∃ v,ms m₁ "i" (.int (i:Int) t4) "i" = some v∧IsI (i:Int) v:=⟨_,rfl,_,rfl⟩
  generalize ms m₁ "i" (.int (i:Int) t4) = m2 at M1 e7 ⊢
  have hf:=find_take (p:=fun i=>decide (start≤i) && (decide (i < stopZ ents start hi) && hasZ ents (fun e=>bg past e.u) i)) hi9
  rw [bu he9] at hf
  generalize hgg:(ns.take k).find? (fun i=>decide (start≤i) && (decide (i < stopZ ents start hi) && hasZ ents (fun e=>bg past e.u) i)) = g at M1 hf
  refine aH (c:=decide (gI g < 0) && (decide ((start:Int)≤(i:Int)) && (decide ((i:Int) < (stopZ ents start hi:Int)) && (bg past e9.u && true)))) (pc_and (bE (ac M1.e6 rfl rfl rfl) ab rfl) fun O=>pc_and (pc_geI (ac e7 rfl rfl rfl) (ac M1.e3 rfl rfl rfl) rfl) fun O=>pc_and (bE (ac e7 rfl rfl rfl) (ac M1.e4 rfl rfl rfl) rfl) fun O=>pc_and ?_ fun O=>pc_and0) (fun hc=>?_) fun hc=>?_
  ·have ho:bg past e9.u = (!past.isSome || match past with | none=>false | some s=>ltB s e9.u):=by cases past <;> rfl
   rw [ho]
   refine cZ (pc_is (o:=past) (Px.mono (af M1.e5 rfl rfl rfl) dC) bQ rfl) fun hp=>?_
   obtain ⟨s9,rfl⟩:∃ s,past = some s:=by cases past with | none=>cases hp | some s=>exact ⟨s,rfl⟩
   exact pc_gtB (Px.mono (bh (k:=0) (aK (k:=(i:Int)) (af M1.e1 rfl rfl rfl) (ac e7 rfl rfl rfl) (.tail _ hl) (by omega) (by omega) hv9 fun O=>nofun) ab (.tail _ hxm) (by decide) (by decide) rfl fun O=>nofun) fun a h=>⟨_,h⟩) (Px.mono (af M1.e5 rfl rfl rfl) dC) rfl
  ·simp only [Bool.and_eq_true,decide_eq_true_eq,and_true] at hc
   obtain ⟨c1,c2,c3,c4⟩:=hc
   obtain rfl:g = none:=by cases g with | none=>rfl | some x=>have:((x:Nat):Int) < 0:=c1;omega
   refine aD (ac e7 rfl rfl rfl) (fun v5 hv5=>ae (ae (hΦ .next _ ([]++rest) _ (.inl rfl) ⟨rfl,M1.e1,M1.e2,M1.e3,M1.e4,M1.e5,⟨v5,rfl,?_⟩⟩ (fun p hp=>.tail _ hp) (.head _) hne))) rfl rfl rfl
   rw [hf]
   show IsI (gI (if _ = true then some i else none)) v5
   rw [decide_eq_true (show start≤i by omega),decide_eq_true (show i < stopZ ents start hi by omega),c4]
   exact hv5
  ·refine ae (hΦ .next _ ([]++rest) _ (.inl rfl) ⟨rfl,M1.e1,M1.e2,M1.e3,M1.e4,M1.e5,?_⟩ (fun p hp=>.tail _ hp) (.head _) hne)
   rw [hf]
   cases g with
   | some x=>exact M1.e6
   | none =>
    show ∃ v,m2 "goal" = some v∧IsI (gI (if _ = true then some i else none)) v
    rw [if_neg]
    ·exact M1.e6
    ·intro h9
     simp only [Bool.and_eq_true,decide_eq_true_eq] at h9
     rw [decide_eq_true (show gI none < 0 by decide),decide_eq_true (show (start:Int)≤(i:Int) by omega),decide_eq_true (show (i:Int) < (stopZ ents start hi:Int) by omega),h9.2.2] at hc
     cases hc
 ·obtain ⟨hled,M⟩:=hJ
  rw [hled]
  clear hled led'
  have hall:ns.take nvs.size = ns:=List.take_of_length_le (by omega)
  rw [hall] at M
  change AhM m' el nl start (stopZ ents start hi) past hi tp th (cz ents ns start past hi) at M
  have hgl:∀ g,cz ents ns start past hi = some g→g < ents.length:=fun g hg=>hnl g (List.mem_of_find?_eq_some hg)
  have hsl:stopZ ents start hi≤5:=by
   cases hi with
   | none=>exact hsz
   | some h=>exact Nat.max_le.mpr ⟨hst,Nat.le_trans (cF _ _) hsz⟩
  refine dh (ψ:=fun fl m' led'=>fl = .next∧led' = []++rest∧AhM m' el nl start ((cz ents ns start past hi).getD (stopZ ents start hi)) past hi tp th (cz ents ns start past hi)) (pc_geI (ac M.e6 rfl rfl rfl) ab rfl) (fun hc ψ0 kψ=>?_) (fun hc ψ0 kψ=>?_) (fun m2 led' h=>?_) fun f m' led' hf h=>absurd h.1 hf
  ·cases hg:cz ents ns start past hi with
   | none=>rw [hg] at hc;cases hc
   | some g =>
    rw [hg] at M kψ
    exact aD (ac M.e6 rfl rfl rfl) (fun v5 hv5=>ae (kψ _ _ _ ⟨rfl,rfl,M.e1,M.e2,M.e3,⟨v5,rfl,hv5⟩,M.e5,M.e6⟩)) rfl rfl rfl
  ·cases hg:cz ents ns start past hi with
   | some g=>rw [hg] at hc;have:=of_decide_eq_false hc;have:¬ (0:Int)≤(g:Int):=this;omega
   | none =>
    rw [hg] at M kψ
    exact ae (kψ _ _ _ ⟨rfl,rfl,M⟩)
  obtain ⟨-,hled,M⟩:=h
  rw [hled]
  clear hled led'
  have hA:c9 ents ns start past hi = (badZ ents start ((cz ents ns start past hi).getD (stopZ ents start hi) + 1),cz ents ns start past hi):=rfl
  rw [hA] at kφ
  generalize (cz ents ns start past hi).getD (stopZ ents start hi) = sp at M kφ
  generalize cz ents ns start past hi = gg at M kφ
  clear hA hgl hsl hall hv hv2 hv3
  refine aj (dB fun s Q E f N q=>Tuple_ (aU (px_bad (a9:=start) (b9:=sp + 1) (af M.e1 rfl rfl rfl) (ac M.e3 rfl rfl rfl) (Px.mono (cJ (ac M.e4 rfl rfl rfl) ab) fun a h=>by rw [show ((sp + 1:Nat):Int) = (sp:Int) + 1 by omega];exact h) hl he hsz nofun (by decide) rfl (by decide) rfl (fun O=>rfl) (fun O=>rfl) rfl (fun O=>rfl) (fun O=>nofun) (fun O=>nofun)) (ac M.e6 rfl rfl rfl) rfl rfl s _ E f N fun vs2 h' tk' pa F' N'=>?_))
  obtain ⟨_,_,rfl,rfl,⟨tg,rfl⟩⟩:=pa
  exact kup_newTuple F' N' (fun a h2' F2' N2' hlt=>q _ _ _ h2' _ (kφ (.ret (.ref a)) _ [_] ⟨a,tg,0,rfl,.head _⟩) F2' N2') (by show 2≤sizeLine;decide)
end
noncomputable def lastT (p:Nat→Bool) (l:List Nat):Option Nat:=l.foldl (fun g i=>if p i = true then some i else g) none
theorem lastT_succ {p:Nat→Bool} {ns:List Nat} {k i:Nat} (h:ns[k]? = some i):lastT p (ns.take (k + 1)) = if p i = true then some i else lastT p (ns.take k):=by
 unfold lastT
 rw [List.take_add_one,h,List.foldl_append]
 rfl
theorem lastT_new {ents:List En} {upto:Int} {p:Nat→Bool}:∀ n,lastT p (newTo ents upto n) = c6 (fun i=>bF ents upto i && p i) n
 | 0=>rfl
 | n + 1=>by
  rw [eN,c6,← lastT_new n]
  unfold lastT
  rw [List.foldl_append]
  cases hn:bF ents upto n with
  | false=>simp
  | true=>simp
noncomputable def stN (ents:List En) (upto:Int) (mf i:Nat):Nat:=match c6 (fun i=>hasZ ents (fun e=>e.vis upto) i && decide (mf≤i)) i with | none=>mf | some x=>x + 1
theorem stN_gt {ents:List En} {upto:Int} {mf i:Nat}:(((i:Int) > (stN ents upto mf i:Int) - 1) ↔ mf≤i)∧mf≤stN ents upto mf i:=by
 unfold stN
 cases h:c6 (fun i=>hasZ ents (fun e=>e.vis upto) i && decide (mf≤i)) i with
 | none =>
  show ((i:Int) > (mf:Int) - 1 ↔ mf≤i)∧mf≤mf
  omega
 | some x =>
  obtain ⟨h1,h2,-⟩:=df.mp h
  simp only [Bool.and_eq_true,decide_eq_true_eq] at h2
  show ((i:Int) > ((x + 1:Nat):Int) - 1 ↔ mf≤i)∧mf≤x + 1
  omega
theorem stN_succ {ents:List En} {upto:Int} {mf i:Nat} {e:En} (he:ents[i]? = some e):stN ents upto mf (i + 1) = if e.vis upto = true∧mf≤i then i + 1 else stN ents upto mf i:=by
 unfold stN
 rw [c6,bu he]
 by_cases h:e.vis upto = true∧mf≤i
 ·rw [if_pos h,if_pos (by rw [h.1,decide_eq_true h.2];rfl)]
 ·rw [if_neg h,if_neg (by intro g;simp only [Bool.and_eq_true,decide_eq_true_eq] at g;exact h g)]
structure BhM (m:MM) (el nl:Addr) (floor edge:Nat) (upto:Int) (tu:Tok):Prop where
 e1:m "entries" = some (.ref el)
 e2:m "newest" = some (.ref nl)
 e3:∃ v,m "floor" = some v∧IsI (floor:Int) v
 e4:∃ v,m "edge" = some v∧IsI (edge:Int) v
 e5:m "upto" = some (.int upto tu)
section
variable {w:World} {D:Nat} {rest:Led} {el nl:Addr} {vs nvs:Array Value} {n nk:Nat} {ents:List En} {edge:Nat} {lo:Option (Array UInt8)} {te tl9 tu:Tok} {upto:Int}
theorem behind_c (hl:(el,listOf vs n)∈rest) (he:cU rest vs ents) (hsz:ents.length≤5) (hn:(nl,listOf nvs nk)∈rest) (hni:IntsAre nvs.toList (natI (aI ents upto))) (hed:edge≤ents.length) (hs:dq ents):am w (D + 2) 698 [.ref el,.ref nl,.int (edge:Int) te,.int upto tu,bW lo tl9] [] rest (PrP (c8 ents upto edge lo)):=by
 revert w D rest el nl vs nvs n nk ents edge lo te tl9 tu upto
 refine no_implicit_lambda% (e16 ?n fun T0=>(?_:bp T0) _ _ _ _ _ _ _ _ _ _ _ _ _ _ _ _)
 case n=>fail "n"
 intro w D rest el nl vs nvs n nk ents edge lo te tl9 tu upto
 intros
 clear T0
 have hez:=he.size
 have hnn:(aI ents upto).length≤5:=by unfold aI;exact Nat.le_trans (List.length_filter_le _ _) (by rw [List.length_range];exact hsz)
 have hnz:nvs.size = (aI ents upto).length:=by rw [← Array.length_toList,hni.length];unfold natI;rw [List.length_map]
 refine' ai (binds:=[("entries",.ref el),("newest",.ref nl),("edge",.int (edge:Int) te),("upto",.int upto tu),("low",bW lo tl9)]) ?ho ?hcd ?hb ?hl ?c1 ?c2 ?c3 ?c4 ?_
 fail "e"
 refine no_implicit_lambda% (eC neM fun T0=>(?_:bp T0) _ _)
 intro bb φ ok kφ
 clear T0
 refine aD ab (fun v hv=>?_) rfl rfl rfl
 refine dh (ψ:=fun fl m' led'=>fl = .next∧led' = []++rest∧BhM m' el nl (floorZ ents lo) edge upto tu) (dK (o:=lo) (Px.mono decl_name% dC) bQ rfl) (fun hc ψ0 kψ=>?_) (fun hc ψ0 kψ=>?_) (fun m' led' h=>?_) fun f m' led' hf h=>absurd h.1 hf
 ·obtain ⟨hb,rfl⟩:=Option.isSome_iff_exists.mp hc
  refine aD (pf1 (P:=IsI (belowZ ents hb:Int)) (A:=fun vs=>vs = [.ref el,bW (some hb) tl9]) ok (ao ok nofun rfl rfl rfl) (Px.mono (aU decl_name% decl_name% rfl rfl) fun vs h=>by obtain ⟨_,_,rfl,rfl,rfl⟩:=h;rfl) (fun vs2 h=>by subst h;exact ar ok (below_c (D:=D) hl he hsz) (fun O O h=>h) (fun O h=>nomatch h) rfl (by omega)) nofun rfl rfl rfl) (fun v2 hv2=>?_) rfl rfl rfl
  exact ae (kψ _ _ _ ⟨rfl,rfl,rfl,rfl,⟨v2,rfl,hv2⟩,⟨_,rfl,_,rfl⟩,rfl⟩)
 ·obtain rfl:lo = none:=by cases lo with | none=>rfl | some _=>cases hc
  exact ae (kψ _ _ _ ⟨rfl,rfl,rfl,rfl,⟨v,rfl,hv⟩,⟨_,rfl,_,rfl⟩,rfl⟩)
 obtain ⟨-,hled,M⟩:=h
 rw [hled]
 clear hled led' hv
 have hfl:floorZ ents lo≤ents.length:=by
  cases lo with
  | none=>exact Nat.zero_le _
  | some l=>exact cF _ _
 refine aD (bq ab ab) (fun v3 hv3=>?_) rfl rfl rfl
 refine sx_forL (items:=nvs) (n:=nk) (af M.e2 rfl rfl rfl) (fun k m₁ led₁=>led₁ = []++rest∧BhM m₁ el nl (floorZ ents lo) edge upto tu∧∃ v,m₁ "goal" = some v∧IsI (gI (lastT (fun i=>decide (floorZ ents lo≤i) && decide (i < edge)) ((aI ents upto).take k))) v) (fun i m₁ nw h=>by rw [h.1];exact hn) ⟨rfl,⟨M.e1,M.e2,M.e3,M.e4,M.e5⟩,v3,rfl,hv3⟩ (fun k v4 m₁ led₁ I o hk hJ hne Φ hΦ hR=>?_) (fun m' led' hJ=>?_) rfl rfl (fun O=>rfl)
 ·obtain ⟨hled,M,vg,eg,hg⟩:=hJ
  rw [hled] at hne ⊢
  clear hled led₁
  obtain ⟨i,t4,hi9,rfl⟩:=natI_at hni (by rw [Array.getElem?_toList];exact hk)
  have M1:BhM (ms m₁ "i" (.int (i:Int) t4)) el nl (floorZ ents lo) edge upto tu:=⟨M.e1,M.e2,M.e3,M.e4,M.e5⟩
  have e7:∃ v,ms m₁ "i" (.int (i:Int) t4) "i" = some v∧IsI (i:Int) v:=⟨_,rfl,_,rfl⟩
  have eg1:ms m₁ "i" (.int (i:Int) t4) "goal" = some vg:=eg
  generalize ms m₁ "i" (.int (i:Int) t4) = m2 at M1 e7 eg1 ⊢
  have hf:=lastT_succ (p:=fun i=>decide (floorZ ents lo≤i) && decide (i < edge)) hi9
  refine aH (ck (pc_geI (ac e7 rfl rfl rfl) (ac M1.e3 rfl rfl rfl) rfl) fun O=>bE (ac e7 rfl rfl rfl) (ac M1.e4 rfl rfl rfl) rfl) (fun hc=>?_) fun hc=>?_
  ·simp only [Bool.and_eq_true,decide_eq_true_eq] at hc
   refine aD (ac e7 rfl rfl rfl) (fun v5 hv5=>ae (ae (hΦ .next _ ([]++rest) _ (.inl rfl) ⟨rfl,⟨M1.e1,M1.e2,M1.e3,M1.e4,M1.e5⟩,v5,rfl,?_⟩ (fun p hp=>.tail _ hp) (.head _) hne))) rfl rfl rfl
   rw [hf,if_pos (by rw [decide_eq_true (show floorZ ents lo≤i by omega),decide_eq_true (show i < edge by omega)];rfl)]
   exact hv5
  ·refine ae (hΦ .next _ ([]++rest) _ (.inl rfl) ⟨rfl,M1,vg,eg1,?_⟩ (fun p hp=>.tail _ hp) (.head _) hne)
   rw [hf,if_neg ?_]
   ·exact hg
   ·intro h9
    simp only [Bool.and_eq_true,decide_eq_true_eq] at h9
    rw [decide_eq_true (show (floorZ ents lo:Int)≤(i:Int) by omega),decide_eq_true (show (i:Int) < (edge:Int) by omega)] at hc
    cases hc
 ·obtain ⟨hled,M,vg,eg,hg⟩:=hJ
  rw [hled]
  clear hled led'
  have hall:(aI ents upto).take nvs.size = newTo ents upto ents.length:=List.take_of_length_le (by omega)
  rw [hall,lastT_new] at hg
  change IsI (gI (cg ents upto edge lo)) vg at hg
  have hbe:c8 ents upto edge lo = (badZ ents (stopB ents upto edge lo - 1) edge,cg ents upto edge lo):=rfl
  rw [hbe] at kφ
  have hmf:min (floorZ ents lo) edge≤ents.length:=by omega
  refine aD (P:=IsI ((min (floorZ ents lo) edge:Nat) - 1:Int)) (Px.mono (bq (px_min (ac M.e3 rfl rfl rfl) (ac M.e4 rfl rfl rfl) (ah ok nofun nofun (by decide) rfl rfl rfl) rfl rfl rfl rfl) ab) fun a h=>by rw [show (((min (floorZ ents lo) edge:Nat):Int) - 1) = min (floorZ ents lo:Int) (edge:Int) - 1 from congrArg (· - 1) (Lean.Omega.Int.ofNat_min _ _)];exact h) (fun v5 hv5=>?_) rfl rfl rfl
  refine dh (ψ:=fun fl m' led'=>fl = .next∧led' = []++rest∧BhM m' el nl (floorZ ents lo) edge upto tu∧(∃ v,m' "goal" = some v∧IsI (gI (cg ents upto edge lo)) v)∧∃ v,m' "stop" = some v∧IsI ((stopB ents upto edge lo:Int) - 1) v) (pc_geI (i:=gI (cg ents upto edge lo)) (ac ⟨vg,eg,hg⟩ rfl rfl rfl) ab rfl) (fun hc ψ0 kψ=>?_) (fun hc ψ0 kψ=>?_) (fun m2 led' h=>?_) fun f m' led' hf h=>absurd h.1 hf
  ·cases hgo:cg ents upto edge lo with
   | none=>rw [hgo] at hc;cases hc
   | some g =>
    obtain ⟨e2,he2,-⟩:=cm hgo
    obtain ⟨aa,t1,t2,t3,t5,t6,kx,hv9,hxm⟩:=he.at' g e2 he2
    have hgl:=(List.getElem?_eq_some_iff.mp he2).1
    rw [hgo] at hg kψ
    have hbl:=cF ents e2.u
    have hS:stopB ents upto edge lo = stN ents upto (min (floorZ ents lo) edge) (belowZ ents e2.u):=by
     unfold stopB stN
     rw [hgo]
     have hu:(((ents.map En.row)[g]?).elim #[] fun x=>x.1.u) = e2.u:=by rw [List.getElem?_map,he2];rfl
     simp only [hu]
     all_goals (cases c6 (fun i=>hasZ ents (fun e=>En.vis upto e) i && decide (min (floorZ ents lo) edge≤i)) (belowZ ents e2.u) <;> rfl)
    rw [hS] at kψ
    have eg2:∃ v,ms m' "stop" v5 "goal" = some v∧IsI (g:Int) v:=⟨vg,eg,hg⟩
    refine sx_forUp (n:=belowZ ents e2.u) ok (ah ok nofun nofun (by decide) rfl rfl rfl) (pf1 (P:=IsI (belowZ ents e2.u:Int)) (A:=fun vs=>∃ t,vs = [.ref el,.bytes e2.u t]) ok (ao ok nofun rfl rfl rfl) (Px.mono (aU (af M.e1 rfl rfl rfl) (bh (k:=0) (aK (k:=(g:Int)) (af M.e1 rfl rfl rfl) (ac eg2 rfl rfl rfl) hl (by omega) (by omega) hv9 fun O=>nofun) ab hxm (by decide) (by decide) rfl fun O=>nofun) rfl rfl) fun vs h=>by obtain ⟨_,_,rfl,rfl,rfl⟩:=h;exact ⟨t1,rfl⟩) (fun vs2 h=>by obtain ⟨t,rfl⟩:=h;exact ar ok (below_c (D:=D) hl he hsz) (fun O O h=>h) (fun O h=>nomatch h) rfl (by omega)) nofun rfl rfl rfl) (by omega)
     (fun i m₁ led₁=>led₁ = []++rest∧BhM m₁ el nl (floorZ ents lo) edge upto tu∧(∃ v,m₁ "goal" = some v∧IsI (g:Int) v)∧∃ v,m₁ "stop" = some v∧IsI ((stN ents upto (min (floorZ ents lo) edge) i:Int) - 1) v) ⟨rfl,⟨M.e1,M.e2,M.e3,M.e4,M.e5⟩,eg2,v5,rfl,hv5⟩ (fun i m₁ led₁ I o t hi hJ hne Φ hΦ hR=>?_) (fun m₂ led₂ hJ=>?_) rfl rfl rfl rfl (fun O=>rfl)
    ·obtain ⟨hled,M,eg3,vs3,es3,hs3⟩:=hJ
     rw [hled] at hne ⊢
     clear hled led₁
     obtain ⟨e9,he9⟩:∃ e,ents[i]? = some e:=⟨_,List.getElem?_eq_getElem (by omega)⟩
     obtain ⟨a2,u1,u2,u3,u4,u5,kx2,hv8,hxm8⟩:=he.at' i e9 he9
     have M1:BhM (ms m₁ "i" (.int (i:Int) t)) el nl (floorZ ents lo) edge upto tu:=⟨M.e1,M.e2,M.e3,M.e4,M.e5⟩
     have e7:∃ v,ms m₁ "i" (.int (i:Int) t) "i" = some v∧IsI (i:Int) v:=⟨_,rfl,_,rfl⟩
     have eg4:∃ v,ms m₁ "i" (.int (i:Int) t) "goal" = some v∧IsI (g:Int) v:=eg3
     have es4:ms m₁ "i" (.int (i:Int) t) "stop" = some vs3:=es3
     generalize ms m₁ "i" (.int (i:Int) t) = m2 at M1 e7 eg4 es4 ⊢
     have hsn:=stN_succ (upto:=upto) (mf:=min (floorZ ents lo) edge) he9
     have hgt:=stN_gt (ents:=ents) (upto:=upto) (mf:=min (floorZ ents lo) edge) (i:=i)
     refine aH (c:=decide ((stN ents upto (min (floorZ ents lo) edge) i:Int) - 1 < (i:Int)) && e9.vis upto) (ck (cS (ac e7 rfl rfl rfl) (ac ⟨vs3,es4,hs3⟩ rfl rfl rfl) rfl) fun O=>pc_leI (Px.mono (bq ab (Px.mono (bh (k:=1) (aK (k:=(i:Int)) (af M1.e1 rfl rfl rfl) (ac e7 rfl rfl rfl) (.tail _ hl) (by omega) (by omega) hv8 fun O=>nofun) ab (.tail _ hxm8) (by decide) (by decide) rfl fun O=>nofun) isI)) fun v h=>neg2 e9.q ▸ h) (Px.mono (af M1.e5 rfl rfl rfl) isI) rfl) (fun hc=>?_) fun hc=>?_
     ·simp only [Bool.and_eq_true,decide_eq_true_eq] at hc
      refine aD (ac e7 rfl rfl rfl) (fun v6 hv6=>ae (ae (hΦ .next _ ([]++rest) _ (.inl rfl) ⟨rfl,⟨M1.e1,M1.e2,M1.e3,M1.e4,M1.e5⟩,eg4,v6,rfl,?_⟩ (fun p hp=>.tail _ hp) (.head _) hne))) rfl rfl rfl
      rw [hsn,if_pos ⟨hc.2,hgt.1.mp hc.1⟩,show ((i + 1:Nat):Int) - 1 = (i:Int) by omega]
      exact hv6
     ·refine ae (hΦ .next _ ([]++rest) _ (.inl rfl) ⟨rfl,M1,eg4,vs3,es4,?_⟩ (fun p hp=>.tail _ hp) (.head _) hne)
      rw [hsn,if_neg ?_]
      ·exact hs3
      ·intro h9
       rw [h9.1,decide_eq_true (hgt.1.mpr h9.2)] at hc
       cases hc
    ·obtain ⟨hled,M,eg3,vs3,es3,hs3⟩:=hJ
     rw [hled]
     exact ae (kψ _ _ _ ⟨rfl,rfl,M,eg3,vs3,es3,hs3⟩)
  ·cases hgo:cg ents upto edge lo with
   | some g=>rw [hgo] at hc;have:=of_decide_eq_false hc;have:¬ (0:Int)≤(g:Int):=this;omega
   | none =>
    rw [hgo] at hg kψ
    refine ae (kψ _ _ _ ⟨rfl,rfl,⟨M.e1,M.e2,M.e3,M.e4,M.e5⟩,⟨vg,eg,hg⟩,v5,rfl,?_⟩)
    rw [eI hgo]
    exact hv5
  obtain ⟨-,hled,M,eg2,es2⟩:=h
  rw [hled]
  clear hled led' hg hv5 hall hv3 hbe
  generalize cg ents upto edge lo = gg at eg2 kφ
  generalize stopB ents upto edge lo = sp at es2 kφ
  refine aj (dB fun s Q E f N q=>Tuple_ (aU (px_bad (a9:=sp - 1) (b9:=edge) (af M.e1 rfl rfl rfl) (Px.mono (px_max ab (ac es2 rfl rfl rfl) (ah ok nofun nofun (by decide) rfl rfl rfl) rfl rfl rfl rfl) fun a h=>by rw [show ((sp - 1:Nat):Int) = max 0 ((sp:Int) - 1) by omega];exact h) (ac M.e4 rfl rfl rfl) hl he hsz nofun (by decide) rfl (by decide) rfl (fun O=>rfl) (fun O=>rfl) rfl (fun O=>rfl) (fun O=>nofun) (fun O=>nofun)) (ac eg2 rfl rfl rfl) rfl rfl s _ E f N fun vs2 h' tk' pa F' N'=>?_))
  obtain ⟨_,_,rfl,rfl,⟨tg,rfl⟩⟩:=pa
  exact kup_newTuple F' N' (fun a h2' F2' N2' hlt=>q _ _ _ h2' _ (kφ (.ret (.ref a)) _ [_] ⟨a,tg,0,rfl,.head _⟩) F2' N2') (by show 2≤sizeLine;decide)
end
end
section
open PySem PySem.W PyProof.Rows
set_option maxHeartbeats 8000000
set_option maxRecDepth 100000
set_option tactic.hygienic false
noncomputable def cf (ents:List En) (p:En→Bool):List Row:=(ents.filter p).map En.row
noncomputable def Zf (ents:List En) (f:Nat→Option Nat):MZ:=ents.filterMap fun e=>(f e.c).map fun j=>(e.row,j)
theorem Zf_rows (ents:List En) (f:Nat→Option Nat) (j:Nat):ay (Zf ents f) j = cf ents fun e=>f e.c == some j:=by
 unfold ay Zf cf
 induction ents with
 | nil=>rfl
 | cons a l ih =>
  rw [List.filterMap_cons]
  cases h:f a.c with
  | none =>
   rw [List.filter_cons_of_neg (by rw [h];simp)]
   exact ih
  | some i =>
   show List.map _ (List.filter _ ((a.row,i)::_)) = _
   by_cases hi:i = j
   ·subst hi
    rw [List.filter_cons_of_pos (by simp),List.filter_cons_of_pos (by rw [h];simp),List.map_cons,List.map_cons,ih]
   ·rw [List.filter_cons_of_neg (by simpa using hi),List.filter_cons_of_neg (by rw [h];simpa using hi)]
    exact ih
theorem Zf_all (ents:List En) (f:Nat→Option Nat):(Zf ents f).map (·.1) = cf ents fun e=>(f e.c).isSome:=by
 unfold Zf cf
 induction ents with
 | nil=>rfl
 | cons a l ih =>
  rw [List.filterMap_cons]
  cases h:f a.c with
  | none=>rw [List.filter_cons_of_neg (by rw [h];simp)];exact ih
  | some i =>
   rw [List.filter_cons_of_pos (by rw [h];rfl),List.map_cons]
   show _ = _
   rw [← ih];rfl
theorem Zf_src {ents:List En} {f:Nat→Option Nat} {n:Nat} (h:∀ s j,f s = some j→j < n):∀ z∈Zf ents f,z.2 < n:=fun z hz=>by
 obtain ⟨e,he,h1⟩:=List.mem_filterMap.mp hz
 cases hf:f e.c with
 | none=>rw [hf] at h1;cases h1
 | some j=>rw [hf] at h1;cases h1;exact h _ _ hf
theorem Zf_pw {ents:List En} {f:Nat→Option Nat} (o:bK ents) (h:∀ a b i j,a≤b→f a = some i→f b = some j→i≤j):(Zf ents f).Pairwise Zord:=by
 have hz:=o.zord
 rw [List.pairwise_map] at hz
 unfold Zf
 rw [List.pairwise_filterMap]
 refine hz.imp fun {a b} hab x hx y hy=>?_
 cases hf:f a.c with
 | none=>rw [hf] at hx;cases hx
 | some i =>
  cases hg:f b.c with
  | none=>rw [hg] at hy;cases hy
  | some j =>
   rw [hf] at hx
   rw [hg] at hy
   cases hx
   cases hy
   rcases hab with h1 | ⟨h1,h2⟩
   ·exact .inl h1
   ·exact .inr ⟨h1,h _ _ _ _ h2 hf hg⟩
theorem Zf_len (ents:List En) (f:Nat→Option Nat):(Zf ents f).length≤ents.length:=List.length_filterMap_le _ _
theorem subR_congr {ents:List En} {p q:En→Bool} (h:∀ e∈ents,p e = q e):cf ents p = cf ents q:=by
 unfold cf
 rw [List.filter_congr h]
theorem subR_all {ents:List En} {p:En→Bool} (h:∀ e∈ents,p e = true):cf ents p = ents.map En.row:=by
 unfold cf
 rw [List.filter_eq_self.mpr h]
noncomputable def dc:aN:=fun fp rest c kd R st=>if kd = true then cO dr fp rest c true R st else dr fp rest c false R st
section
variable {w:World} {D D':Nat} {C:aN}
theorem al.deep (S:al w D C) (h:D≤D'):al w D' C where
 mono:=S.mono
 obj:=S.obj
 ok:=S.ok
 size:=S.size
 valid:=fun a b=>(S.valid a b).deep h
 key:=fun a b c=>(S.key a b c).deep h
 value:=fun a b c=>(S.value a b c).deep h
 first:=fun a b c=>(S.first a b c).deep h
 last:=fun a b c=>(S.last a b c).deep h
 seek:=fun a b c d=>(S.seek a b c d).deep h
 step:=fun a b c=>(S.step a b c).deep h
 back:=fun a b c=>(S.back a b c).deep h
theorem bx (w:World):al w 22 dc:=by
 have S0:=(cy w).deep (show 6≤22 by decide)
 have S1:al w 22 (cO dr):=aF (cy w)
 constructor
 ·intro fp rest rest' c kd R st h hs;cases kd with | false=>exact S0.mono h hs | true=>exact S1.mono h hs
 ·intro fp rest c kd R st h;cases kd with | false=>exact S0.obj h | true=>exact S1.obj h
 ·intro fp rest c kd R st h;cases kd with | false=>exact S0.ok h | true=>exact S1.ok h
 ·intro fp rest c kd R st h;cases kd with | false=>exact S0.size h | true=>exact S1.size h
 ·intro fp rest E0 c kd R st h;cases kd with | false=>exact S0.valid h | true=>exact S1.valid h
 ·intro fp rest E0 c kd R i x h;cases kd with | false=>exact S0.key h | true=>exact S1.key h
 ·intro fp rest E0 c kd R i x h;cases kd with | false=>exact S0.value h | true=>exact S1.value h
 ·intro fp rest E0 c kd R st h;cases kd with | false=>exact S0.first h | true=>exact S1.first h
 ·intro fp rest E0 c kd R st h;cases kd with | false=>exact S0.last h | true=>exact S1.last h
 ·intro fp rest E0 c kd R st e t h;cases kd with | false=>exact S0.seek h | true=>exact S1.seek h
 ·intro fp rest E0 c kd R i h;cases kd with | false=>exact S0.step h | true=>exact S1.step h
 ·intro fp rest E0 c kd R i h;cases kd with | false=>exact S0.back h | true=>exact S1.back h
theorem mk_merge {rest:Led} {ks:List KS} {x dx ch tp o:Addr} {q:MP} {tc tg:Tok} {cv tops:Array Value} {nc nt:Nat} {ents:List En} {f:Nat→Option Nat} (S:al w D C) (ok:bK ents) (hcur:∀ k∈ks,C k.fp rest k.c k.kd k.R k.st) (hoff:∀ k∈ks,Off k.fp rest) (hap:ks.Pairwise fun a b=>Off a.fp b.fp) (ord:cA rest o)
  (hn:ks.length≤5) (hf1:∀ s j,f s = some j→j < ks.length) (hf2:∀ a b i j,a≤b→f a = some i→f b = some j→i≤j) (hrows:∀ (i:Nat) k,ks[i]? = some k→k.R = cf ents fun e=>f e.c == some i)
  (hcv:cv.size = ks.length) (hcv2:∀ (i:Nat) k,ks[i]? = some k→cv[i]? = some (.ref k.c)) (hts:tops.size = ks.length) (hne:x≠dx∧x≠ch∧x≠tp∧dx≠ch∧dx≠tp∧ch≠tp) (hnew:∀ p∈aC ks++rest,p.1≠x∧p.1≠dx∧p.1≠ch∧p.1≠tp) :
  cO C ((dx,MD q ch tp o (-1) tc 0 tg)::(tp,listOf tops nt)::aC ks) ((x,instObj 506 dx)::(ch,listOf cv nc)::rest) x true (cf ents fun e=>(f e.c).isSome) none∧Off ((dx,MD q ch tp o (-1) tc 0 tg)::(tp,listOf tops nt)::aC ks) ((x,instObj 506 dx)::(ch,listOf cv nc)::rest):=by
 obtain ⟨n1,n2,n3,n4,n5,n6⟩:=hne
 have sub:∀ p∈rest,p∈(x,instObj 506 dx)::(ch,listOf cv nc)::rest:=fun p hp=>.tail _ (.tail _ hp)
 refine ⟨?_,?_⟩
 ·rw [← Zf_all]
  refine .mk dx ch tp o q cv nc tops nt ks (Zf ents f) (-1) tc 0 tg ⟨.head _,.tail _ (.head _),ord.mono sub,hcv,hcv2,hts,by omega,fun k hk=>S.mono (hcur k hk) sub,hap,fun p hp=>?_,n5,Zf_pw ok hf2,Zf_src hf1,fun i k hk=>?_,by have:=Zf_len ents f;have:=ok.len;omega⟩ rfl
  ·have:=hnew p (aL hp);exact ⟨this.2.1,this.2.2.2⟩
  ·rw [Zf_rows];exact hrows i k hk
 ·intro p hp r hr
  have hkr:∀ p∈aC ks,∀ r∈rest,r.1≠p.1:=fun p hp r hr=>by
   obtain ⟨k,hk,hp⟩:=List.mem_flatMap.mp hp
   exact hoff k hk p hp r hr
  fail "c"
  ·rcases List.mem_cons.mp hr with rfl | hr
   ·exact n1
   ·rcases List.mem_cons.mp hr with rfl | hr
    ·exact fun e=>n4 e.symm
    ·exact (hnew r (aR hr)).2.1
  ·fail "c"
   ·rcases List.mem_cons.mp hr with rfl | hr
    ·exact n3
    ·rcases List.mem_cons.mp hr with rfl | hr
     ·exact n6
     ·exact (hnew r (aR hr)).2.2.2
   ·have h:=hnew p (aL hp)
    rcases List.mem_cons.mp hr with rfl | hr
    ·exact fun e=>h.1 e.symm
    ·rcases List.mem_cons.mp hr with rfl | hr
     ·exact fun e=>h.2.2.1 e.symm
     ·exact hkr p hp r hr
end
section
variable {w:World} {D D':Nat} {F:FnC} {b:Bx} {m:MM} {led:Led} {env:Env} {pos:Pos} {e o:Expr} {es:List Expr} {fv:Value} {φ:List Value→MM→Led→Prop} {ψ:VP}
theorem ce (h:φ [] m led):Lx w F b (spliced (backTo pos (starEach [] env))) φ m led:=fun s Q E f N q=>args_nil (q [] m led s.heap s.toks h f N)
theorem bT (h1:Lx w F b (eval e env) (fun v m' led'=>Lx w F b (spliced (backTo pos (starEach es env))) (fun vs=>φ (v::vs)) m' led') m led) (he:starEach (e::es) env = (false,eval e env)::starEach es env):Lx w F b (spliced (backTo pos (starEach (e::es) env))) φ m led:=fun s Q E f N q =>
 args_cons (h1 s _ E f N fun v m' led' h' tk' h2 F' N'=>h2 _ _ E F' N' fun vs m2 led2 h2' tk2 hp F2 N2=>q _ m2 led2 h2' tk2 hp F2 N2) he
theorem la_px {P:Value→Prop} (h1:Px w F b (eval e env) P m led) (h2:∀ v,P v→Lx w F b (spliced (backTo pos (starEach es env))) (fun vs=>φ (v::vs)) m led) (he:starEach (e::es) env = (false,eval e env)::starEach es env):Lx w F b (spliced (backTo pos (starEach (e::es) env))) φ m led:=bT (h1.lx h2) he
theorem c5 {lp:Pos} (h:Lx w F b (spliced (backTo lp (starEach es env))) (fun vs m' led'=>vs.length≤1000∧∀ l,(∀ p∈led',@LT.lt Nat _ p.1 l)→ψ (.ref l) m' ((l,listOf vs.toArray 0)::led')) m led):Lx w F b (eval (.List es lp) env) ψ m led:=fun s Q E f N q =>
 List_ (h s _ E f N fun vs m' led' h' tk' hp F' N'=>newList_K F' N' (fun l h2' F2' N2' hlt=>q _ _ _ h2' _ (hp.2 l hlt) F2' N2') (Nat.le_trans hp.1 (by decide)))
theorem lfL (ok:Okx w D b) (h1:Px w F b (eval o env) (fun a=>a = fv) m led) (h3:Lx w F b (spliced (backTo pos (starEach (e::es) env))) (fun vs m' led'=>Lx w F b (call fv ([]++vs)) ψ m' led') m led) (hk:keepIn (Mine.hd.heap_39 w.params) fv = true)
  (ha:starEach (e::es) env = (false,eval e env)::starEach es env) (hp:(backTo pos (starEach es env)).any (·.1) = false)
  (he:eval (.Call o (e::es) [] pos) env = (do callWith pos (← eval o env) [] (backTo pos (starEach (e::es) env)) (backToKw pos (keywordEach [] env)))):Lx w F b (eval (.Call o (e::es) [] pos) env) ψ m led :=
 fun s Q E f N q=>Call_ (h1 s _ E f N fun a h' tk' pa F' N'=>by
  subst pa
  exact callWith_K ok.X hk (h3 _ _ E F' N' fun vs m3 led3 h3' tk3' pa F3' N3'=>⟨ok.X.keeps F3'.keep,pa _ _ _ F3' N3' q⟩) ha hp) he
theorem lx_mk {C:aN} {Dc:Nat} {rest:Led} {ks:List KS} {pl od:Addr} {cv:Array Value} {n:Nat} {ents:List En} {f:Nat→Option Nat} (ok:Okx w D b) (hkk:F.cs.kind = .function) (hD:2≤D) (S:al w Dc C) (oke:bK ents) (hcur:∀ k∈ks,C k.fp rest k.c k.kd k.R k.st) (hoff:∀ k∈ks,Off k.fp rest) (hap:ks.Pairwise fun a b=>Off a.fp b.fp) (ord:cA rest od)
  (hn:ks.length≤5) (hf1:∀ s j,f s = some j→j < ks.length) (hf2:∀ a b i j,a≤b→f a = some i→f b = some j→i≤j) (hrows:∀ (i:Nat) k,ks[i]? = some k→k.R = cf ents fun e=>f e.c == some i) (hs:∀ p∈aC ks++rest,p∈led) (hl:(pl,listOf cv n)∈led) (hcv:cv.size = ks.length) (hcv2:∀ (i:Nat) k,ks[i]? = some k→cv[i]? = some (.ref k.c))
  (hq:∀ x fpx new nw,(∀ p∈fpx++(new++rest),p∈nw++led)→cO C fpx (new++rest) x true (cf ents fun e=>(f e.c).isSome) none→Off fpx (new++rest)→(∀ p∈new,∀ r∈led,r.1≠p.1)→(∀ p∈fpx,p∈aC ks ∨ ∀ r∈led,r.1≠p.1)→ψ (.ref x) m (nw++led)):Lx w F b (call (.ref 506) ([]++[.ref pl,.ref od])) ψ m led :=
 aX ok hkk hD (minit_c (D:=0) hl (by omega)) (fun p hp=>hp) fun r fp' h=>by
  obtain ⟨x,dx,ch,tp,q,tc,tg,nc,nt,tops,_,ht,hne,hfr,hsub⟩:=h
  obtain ⟨hM,hO⟩:=mk_merge (q:=q) (tc:=tc) (tg:=tg) (nt:=nt) (nc:=nc) S oke hcur hoff hap ord hn hf1 hf2 hrows hcv hcv2 (ht.trans hcv) hne fun p hp=>hfr p (hs p hp)
  refine hq x _ [(x,instObj 506 dx),(ch,listOf cv nc)] _ (fun p hp=>hsub p ?_) hM hO (fun p hp r hr=>?_) fun p hp=>?_
  ·fail "a"
   ·fail "c"
    ·exact .tail _ (.head _)
    ·fail "c"
     ·exact .tail _ (.tail _ (.tail _ (.head _)))
     ·exact .tail _ (.tail _ (.tail _ (.tail _ (hs p (aL hp)))))
   ·fail "c"
    ·exact .head _
    ·fail "c"
     ·exact .tail _ (.tail _ (.head _))
     ·exact .tail _ (.tail _ (.tail _ (.tail _ (hs p (aR hp)))))
  ·have:=hfr r hr
   fail "c"
   ·exact this.1
   ·rw [List.mem_singleton.mp hp];exact this.2.2.1
  ·fail "c"
   ·exact .inr fun r hr=>(hfr r hr).2.1
   ·fail "c"
    ·exact .inr fun r hr=>(hfr r hr).2.2.2
    ·exact .inl hp
end
structure Lf3 (rest:Led) (ents:List En) (k0 k1 k2:KS):Prop where
 c0:dr k0.fp rest k0.c false k0.R k0.st
 c1:dr k1.fp rest k1.c false k1.R k1.st
 c2:dr k2.fp rest k2.c false k2.R k2.st
 d0:k0.kd = false
 d1:k1.kd = false
 d2:k2.kd = false
 r0:k0.R = cf ents fun e=>e.c == 0
 r1:k1.R = cf ents fun e=>e.c == 1
 r2:k2.R = cf ents fun e=>e.c == 2
 o0:Off k0.fp rest
 o1:Off k1.fp rest
 o2:Off k2.fp rest
 a01:Off k0.fp k1.fp
 a02:Off k0.fp k2.fp
 a12:Off k1.fp k2.fp
 side:∀ e∈ents,e.c < 3
noncomputable def TreeP (rest E0 T:Led) (ents:List En) (r:Value) (fp':Led):Prop:=∃ x fpx R0,r = .ref x∧(∀ p∈rest,p∈R0)∧(∀ p∈fpx++R0,p∈fp'++E0)∧cO dc fpx R0 x true (ents.map En.row) none∧Off fpx R0∧Off fpx T∧Off R0 T
noncomputable def tb (a b c:Option Nat):Nat→Option Nat | 0=>a | 1=>b | 2=>c | _=>none
noncomputable def ltO (a:Option Nat) (n:Nat):Bool:=match a with | none=>true | some i=>Nat.blt i n
noncomputable def leO (a b:Option Nat):Bool:=match a,b with | some i,some j=>Nat.ble i j | _,_=>true
theorem ltO_ok {a:Option Nat} {n j:Nat} (h:ltO a n = true) (e:a = some j):j < n:=by subst e;exact Nat.le_of_ble_eq_true h
theorem leO_ok {a b:Option Nat} {i j:Nat} (h:leO a b = true) (e:a = some i) (e2:b = some j):i≤j:=by subst e e2;exact Nat.le_of_ble_eq_true h
theorem tb_lt {a b c:Option Nat} {n:Nat} (h1:ltO a n = true) (h2:ltO b n = true) (h3:ltO c n = true):∀ s j,tb a b c s = some j→j < n
 | 0,_,e=>ltO_ok h1 e
 | 1,_,e=>ltO_ok h2 e
 | 2,_,e=>ltO_ok h3 e
 | _ + 3,_,e=>nomatch (show (none:Option Nat) = some _ from e)
theorem dt {a b c:Option Nat} (h1:leO a b = true) (h2:leO a c = true) (h3:leO b c = true):∀ s t i j,s≤t→tb a b c s = some i→tb a b c t = some j→i≤j:=by
 intro s t i j hst e1 e2
 match s,t with
 | 0,0=>rw [e1] at e2;cases e2;exact Nat.le_refl _
 | 0,1=>exact leO_ok h1 e1 e2
 | 0,2=>exact leO_ok h2 e1 e2
 | 1,0=>omega
 | 1,1=>rw [e1] at e2;cases e2;exact Nat.le_refl _
 | 1,2=>exact leO_ok h3 e1 e2
 | 2,0=>omega
 | 2,1=>omega
 | 2,2=>rw [e1] at e2;cases e2;exact Nat.le_refl _
 | _,_ + 3=>exact nomatch (show (none:Option Nat) = some _ from e2)
 | _ + 3,_=>exact nomatch (show (none:Option Nat) = some _ from e1)
theorem subR3 {ents:List En} {p q:Nat→Bool} (hs:∀ e∈ents,e.c < 3) (h0:p 0 = q 0) (h1:p 1 = q 1) (h2:p 2 = q 2):cf ents (fun e=>p e.c) = cf ents (fun e=>q e.c) :=
 subR_congr fun e he=>by
  have h:=hs e he
  have:e.c = 0 ∨ e.c = 1 ∨ e.c = 2:=by omega
  rcases this with h | h | h <;> rw [h] <;> assumption
theorem allK0 {α:Type} {P:Nat→α→Prop}:∀ (i:Nat) k,([]:List α)[i]? = some k→P i k:=fun i k h=>nomatch (show (none:Option α) = some k from h)
theorem allK1 {α:Type} {P:Nat→α→Prop} {a:α} (h0:P 0 a):∀ (i:Nat) k,[a][i]? = some k→P i k
 | 0,_,h=>by cases h;exact h0
 | _ + 1,_,h=>nomatch (show (none:Option α) = some _ from h)
theorem allK2 {α:Type} {P:Nat→α→Prop} {a b:α} (h0:P 0 a) (h1:P 1 b):∀ (i:Nat) k,[a,b][i]? = some k→P i k
 | 0,_,h=>by cases h;exact h0
 | 1,_,h=>by cases h;exact h1
 | _ + 2,_,h=>nomatch (show (none:Option α) = some _ from h)
theorem allK3 {α:Type} {P:Nat→α→Prop} {a b c:α} (h0:P 0 a) (h1:P 1 b) (h2:P 2 c):∀ (i:Nat) k,[a,b,c][i]? = some k→P i k
 | 0,_,h=>by cases h;exact h0
 | 1,_,h=>by cases h;exact h1
 | 2,_,h=>by cases h;exact h2
 | _ + 3,_,h=>nomatch (show (none:Option α) = some _ from h)
theorem aY {α:Type} {P:α→Prop}:∀ k∈([]:List α),P k:=fun O h=>nomatch h
theorem aJ {α:Type} {P:α→Prop} {a:α} {l:List α} (h0:P a) (h1:∀ k∈l,P k):∀ k∈a::l,P k:=fun k h=>by
 rcases List.mem_cons.mp h with rfl | h
 ·exact h0
 ·exact h1 k h
noncomputable def eG (rest led:Led):Prop:=∃ nw,led = nw++rest
theorem eG.refl {rest:Led}:eG rest rest:=⟨[],rfl⟩
theorem eG.cons {rest led:Led} {p:Addr × Obj} (h:eG rest led):eG rest (p::led):=by obtain ⟨nw,rfl⟩:=h;exact ⟨p::nw,rfl⟩
theorem eG.app {rest led nw:Led} (h:eG rest led):eG rest (nw++led):=by obtain ⟨n,rfl⟩:=h;exact ⟨nw++n,by rw [List.append_assoc]⟩
theorem eG.sub {rest led:Led} (h:eG rest led):∀ p∈rest,p∈led:=by obtain ⟨n,rfl⟩:=h;exact fun p hp=>aR hp
structure Kid (C:aN) (rest led:Led) (k:KS):Prop where
 cur:C k.fp rest k.c k.kd k.R k.st
 off:Off k.fp rest
 sub:∀ p∈k.fp,p∈led
theorem Kid.grow {w:World} {Dc:Nat} {C:aN} {rest led led' new:Led} {k:KS} (S:al w Dc C) (h:Kid C rest led k) (hn:∀ p∈new,∀ r∈led,r.1≠p.1) (hg:∀ p∈led,p∈led'):Kid C (new++rest) led' k where
 cur:=S.mono h.cur fun p hp=>aR hp
 off:=fun p hp r hr=>(List.mem_append.mp hr).elim (fun hr e=>hn r hr p (h.sub p hp) e.symm) fun hr=>h.off p hp r hr
 sub:=fun p hp=>hg p (h.sub p hp)
theorem Kid.wide {C:aN} {rest led led':Led} {k:KS} (h:Kid C rest led k) (hg:∀ p∈led,p∈led'):Kid C rest led' k where
 cur:=h.cur
 off:=h.off
 sub:=fun p hp=>hg p (h.sub p hp)
noncomputable def mkK (x:Addr) (fp:Led) (R:List Row):KS:=⟨x,true,R,fp,none⟩
section
variable {w:World} {D:Nat} {F:FnC} {b:Bx} {m:MM} {led:Led} {ψ:VP} {ents:List En}
theorem eP {C:aN} {Dc:Nat} {rest:Led} {ks:List KS} {pl od:Addr} {cv:Array Value} {n:Nat} {a0 b0 c0:Option Nat} (ok:Okx w D b) (hkk:F.cs.kind = .function) (hD:2≤D) (S:al w Dc C) (oke:bK ents) (hcur:∀ k∈ks,Kid C rest led k) (hap:ks.Pairwise fun a b=>Off a.fp b.fp) (ord:cA rest od)
  (hn:ks.length≤5) (hf1:∀ s j,tb a0 b0 c0 s = some j→j < ks.length) (hf2:∀ a b i j,a≤b→tb a0 b0 c0 a = some i→tb a0 b0 c0 b = some j→i≤j) (hrows:∀ (i:Nat) k,ks[i]? = some k→k.R = cf ents fun e=>tb a0 b0 c0 e.c == some i) (hs:∀ p∈rest,p∈led) (hl:(pl,listOf cv n)∈led) (hcv:cv.size = ks.length) (hcv2:∀ (i:Nat) k,ks[i]? = some k→cv[i]? = some (.ref k.c))
  (hq:∀ x fpx new nw,Kid (cO C) (new++rest) (nw++led) (mkK x fpx (cf ents fun e=>(tb a0 b0 c0 e.c).isSome))→(∀ p∈new++rest,p∈nw++led)→(∀ p∈new,∀ r∈led,r.1≠p.1)→(∀ T:Led,(∀ p∈T,p∈led)→(∀ k∈ks,Off k.fp T)→Off fpx T)→ψ (.ref x) m (nw++led)):Lx w F b (call (.ref 506) ([]++[.ref pl,.ref od])) ψ m led :=
 lx_mk ok hkk hD S oke (fun k hk=>(hcur k hk).cur) (fun k hk=>(hcur k hk).off) hap ord hn hf1 hf2 hrows (fun p hp=>(List.mem_append.mp hp).elim (fun h=>by obtain ⟨k,hk,hp⟩:=List.mem_flatMap.mp h;exact (hcur k hk).sub p hp) (hs p)) hl hcv hcv2 fun x fpx new nw h1 h2 h3 h4 h5 =>
  hq x fpx new nw ⟨h2,h3,fun p hp=>h1 p (aL hp)⟩ (fun p hp=>h1 p (aR hp)) h4 fun T hT hk p hp r hr=>by
   rcases h5 p hp with h | h
   ·obtain ⟨k,hkk,hp⟩:=List.mem_flatMap.mp h
    exact hk k hkk p hp r hr
   ·exact h r (hT r hr)
end
theorem Kid.tree {rest led:Led} {k:KS} (h:Kid dr rest led k) (d:k.kd = false):Kid dc rest led k where
 cur:=by have:=h.cur;unfold dc;rw [d] at this ⊢;exact this
 off:=h.off
 sub:=h.sub
theorem Kid.tree' {rest led fp:Led} {x:Addr} {R:List Row} (h:Kid (cO dr) rest led (mkK x fp R)):Kid dc rest led (mkK x fp R) where
 cur:=h.cur
 off:=h.off
 sub:=h.sub
section
variable {w:World} {D:Nat} {F:FnC} {b:Bx} {m:MM} {led:Led} {env:Env} {pos:Pos} {e o:Expr} {es:List Expr} {fv:Value} {φ:List Value→MM→Led→Prop}
theorem dR (h1:Px w F b (eval e env) (fun a=>a = fv) m led) (h2:Lx w F b (spliced (backTo pos (starEach es env))) (fun vs=>φ (fv::vs)) m led) (he:starEach (e::es) env = (false,eval e env)::starEach es env):Lx w F b (spliced (backTo pos (starEach (e::es) env))) φ m led:=la_px h1 (fun v hv=>by subst hv;exact h2) he
end
theorem Kid.next {w:World} {Dc:Nat} {C:aN} {rest led new:Led} {k:KS} {z:Addr × Obj} (S:al w Dc C) (h:Kid C rest led k) (nw:Led) (hn:∀ p∈new,∀ r∈z::led,r.1≠p.1):Kid C (new++rest) (nw++z::led) k :=
 (h.wide fun p hp=>.tail _ hp).grow S hn fun p hp=>aR hp
section
variable {w:World} {rest E0 T:Led} {ents:List En} {k0 k1 k2:KS} {od:Addr} {shape:Int} {ts:Tok}
theorem Lf3.kids (h:Lf3 rest ents k0 k1 k2):Kid dr rest (aC [k0,k1,k2]++E0) k0∧Kid dr rest (aC [k0,k1,k2]++E0) k1∧Kid dr rest (aC [k0,k1,k2]++E0) k2:=by
 refine ⟨⟨by rw [h.d0];exact h.c0,h.o0,fun p hp=>aL (aL hp)⟩,⟨by rw [h.d1];exact h.c1,h.o1,fun p hp=>aL (aR (aL hp))⟩,⟨by rw [h.d2];exact h.c2,h.o2,fun p hp=>aL (aR (aR (aL hp)))⟩⟩
theorem tree_c (h:Lf3 rest ents k0 k1 k2) (hsub:∀ p∈rest,p∈E0) (hT:∀ p∈T,p∈E0) (t0:Off k0.fp T) (t1:Off k1.fp T) (t2:Off k2.fp T) (tr:Off rest T) (oke:bK ents) (ord:cA rest od):am w 3 664 [.int shape ts,.ref k0.c,.ref k1.c,.ref k2.c,.ref od] (aC [k0,k1,k2]) E0 (TreeP rest E0 T ents):=by
 revert w rest E0 T ents k0 k1 k2 od shape ts
 refine no_implicit_lambda% (aW ?_)
 refine no_implicit_lambda% (e12 ?n fun T0=>(?_:bp T0) () _ _ _ _ _ _ _ _ _ _ _)
 case n=>fail "n"
 intro O w rest E0 T ents k0 k1 k2 od shape ts
 intros
 clear T0
 refine' ai (binds:=[("shape",.int shape ts),("a",.ref k0.c),("b",.ref k1.c),("c",.ref k2.c),("order",.ref od)]) ?ho ?hcd ?hb ?hl ?c1 ?c2 ?c3 ?c4 ?_
 fail "e"
 refine no_implicit_lambda% (eC neM fun T0=>(?_:bp T0) _ _)
 intro bb φ ok kφ
 clear T0
 obtain ⟨K0,K1,K2⟩:=h.kids (E0:=E0)
 generalize hL:aC [k0,k1,k2]++E0 = led at K0 K1 K2 ⊢
 have hG:eG E0 led:=by rw [← hL];exact eG.refl.app
 have hR:∀ p∈rest,p∈led:=fun p hp=>hG.sub p (hsub p hp)
 have hT:∀ p∈T,p∈led:=fun p hp=>hG.sub p (hT p hp)
 clear hL
 have T0:=K0.tree h.d0
 have T1:=K1.tree h.d1
 have T2:=K2.tree h.d2
 have fin:∀ m x fpx new led',eG E0 led'→(∀ p∈rest,p∈new)→(∀ p∈new,p∈led')→Kid (cO dc) new led' (mkK x fpx (ents.map En.row))→Off fpx T→Off new T→φ (.ret (.ref x)) m led':=fun m x fpx new led' hg h1 h2 hk o1 o2=>by
  obtain ⟨nw,rfl⟩:=hg
  exact kφ (.ret (.ref x)) m nw ⟨x,fpx,new,rfl,h1,fun p hp=>(List.mem_append.mp hp).elim (hk.sub p) (h2 p),hk.cur,hk.off,o1,o2⟩
 have offn:∀ {new rest' led':Led},(∀ p∈new,∀ r∈led',r.1≠p.1)→(∀ p∈T,p∈led')→Off rest' T→Off (new++rest') T:=fun h1 h2 h3 p hp r hr=>(List.mem_append.mp hp).elim (fun hp=>h1 p hp r (h2 r hr)) fun hp=>h3 p hp r hr
 have all:∀ {p:Nat→Bool},p 0 = true→p 1 = true→p 2 = true→cf ents (fun e=>p e.c) = ents.map En.row:=fun {p} h0 h1 h2=>by
  rw [subR3 (q:=fun O=>true) h.side h0 h1 h2]
  exact subR_all fun O O=>rfl
 have sd:=@subR3 ents
 refine aH (bn (i:=shape) (Px.mono decl_name% isI) ab rfl) (fun O=>?_) fun O=>aH (bn (i:=shape) (Px.mono decl_name% isI) ab rfl) (fun O=>?_) fun O=>aH (bn (i:=shape) (Px.mono decl_name% isI) ab rfl) (fun O=>?_) fun O=>?_
 ·refine aj (dB (lfL ok (ao ok nofun rfl rfl rfl) (bT (c5 (dR decl_name% (dR decl_name% (dR decl_name% (ce ⟨Nat.le_of_ble_eq_true rfl,fun l hlt=>dR decl_name% (ce ?_) rfl⟩) rfl) rfl) rfl)) rfl) rfl rfl nofun nofun))
  refine eP (ks:=[k0,k1,k2]) (a0:=some 0) (b0:=some 1) (c0:=some 2) ok rfl (Nat.le_refl _) (bx w) oke (aJ (T0.wide fun p hp=>.tail _ hp) (aJ (T1.wide fun p hp=>.tail _ hp) (aJ (T2.wide fun p hp=>.tail _ hp) aY))) (.cons (aJ h.a01 (aJ h.a02 aY)) (.cons (aJ h.a12 aY) (.cons aY .nil))) ord (Nat.le_of_ble_eq_true rfl) (tb_lt rfl rfl rfl) (dt rfl rfl rfl) (allK3 ?_ ?_ ?_) (fun p hp=>.tail _ (hR p hp)) (.head _) rfl (allK3 rfl rfl rfl) fun x fpx new nw hk hn hf ha=>?_
  ·rw [h.r0];exact sd (p:=fun c=>c == 0) (q:=fun c=>tb (some 0) (some 1) (some 2) c == some 0) h.side rfl rfl rfl
  ·rw [h.r1];exact sd (p:=fun c=>c == 1) (q:=fun c=>tb (some 0) (some 1) (some 2) c == some 1) h.side rfl rfl rfl
  ·rw [h.r2];exact sd (p:=fun c=>c == 2) (q:=fun c=>tb (some 0) (some 1) (some 2) c == some 2) h.side rfl rfl rfl
  ·rw [all (p:=fun c=>(tb (some 0) (some 1) (some 2) c).isSome) rfl rfl rfl] at hk
   exact fin _ x fpx _ _ hG.cons.app (fun p hp=>aR hp) hn hk (ha T (fun p hp=>.tail _ (hT p hp)) (aJ t0 (aJ t1 (aJ t2 aY)))) (offn hf (fun p hp=>.tail _ (hT p hp)) tr)
 ·refine aj (dB (lfL ok (ao ok nofun rfl rfl rfl) (bT (c5 (bT (lfL ok (ao ok nofun rfl rfl rfl) (bT (c5 (dR decl_name% (dR decl_name% (ce ⟨Nat.le_of_ble_eq_true rfl,fun l hlt=>dR decl_name% (ce ?_) rfl⟩) rfl) rfl)) rfl) rfl rfl nofun nofun) rfl)) rfl) rfl rfl nofun nofun))
  refine eP (ks:=[k0,k1]) (a0:=some 0) (b0:=some 1) (c0:=none) ok rfl (Nat.le_refl _) (cy w) oke (aJ (K0.wide fun p hp=>.tail _ hp) (aJ (K1.wide fun p hp=>.tail _ hp) aY)) (.cons (aJ h.a01 aY) (.cons aY .nil)) ord (Nat.le_of_ble_eq_true rfl) (tb_lt rfl rfl rfl) (dt rfl rfl rfl) (allK2 ?_ ?_) (fun p hp=>.tail _ (hR p hp)) (.head _) rfl (allK2 rfl rfl) fun x fpx new nw hk hn hf ha=>?_
  ·rw [h.r0];exact sd (p:=fun c=>c == 0) (q:=fun c=>tb (some 0) (some 1) none c == some 0) h.side rfl rfl rfl
  ·rw [h.r1];exact sd (p:=fun c=>c == 1) (q:=fun c=>tb (some 0) (some 1) none c == some 1) h.side rfl rfl rfl
  ·have hT2:∀ p∈T,p∈nw++(l,listOf [Value.ref k0.c,.ref k1.c].toArray 0)::led:=fun p hp=>aR (.tail _ (hT p hp))
   have tx:Off fpx T:=ha T (fun p hp=>.tail _ (hT p hp)) (aJ t0 (aJ t1 aY))
   have tr2:Off (new++rest) T:=offn hf (fun p hp=>.tail _ (hT p hp)) tr
   have h2:Off fpx k2.fp:=ha k2.fp (fun p hp=>.tail _ (K2.sub p hp)) (aJ h.a02 (aJ h.a12 aY))
   have U2:Kid dc (new++rest) _ k2:=T2.next (bx w) nw hf
   have UX:=hk.tree'
   refine dR decl_name% (ce ⟨Nat.le_of_ble_eq_true rfl,fun l2 hlt2=>dR decl_name% (ce ?_) rfl⟩) rfl
   refine eP (ks:=[mkK x fpx _,k2]) (a0:=some 0) (b0:=some 0) (c0:=some 1) ok rfl (Nat.le_refl _) (bx w) oke (aJ (UX.wide fun p hp=>.tail _ hp) (aJ (U2.wide fun p hp=>.tail _ hp) aY)) (.cons (aJ h2 aY) (.cons aY .nil)) (ord.mono fun p hp=>aR hp) (Nat.le_of_ble_eq_true rfl) (tb_lt rfl rfl rfl) (dt rfl rfl rfl) (allK2 ?_ ?_) (fun p hp=>.tail _ (hn p hp)) (.head _) rfl (allK2 rfl rfl) fun y fpy new2 nw2 hk2 hn2 hf2 ha2=>?_
   ·exact sd (p:=fun c=>(tb (some 0) (some 1) none c).isSome) (q:=fun c=>tb (some 0) (some 0) (some 1) c == some 0) h.side rfl rfl rfl
   ·rw [h.r2];exact sd (p:=fun c=>c == 2) (q:=fun c=>tb (some 0) (some 0) (some 1) c == some 1) h.side rfl rfl rfl
   ·rw [all (p:=fun c=>(tb (some 0) (some 0) (some 1) c).isSome) rfl rfl rfl] at hk2
    exact fin _ y fpy _ _ hG.cons.app.cons.app (fun p hp=>aR (aR hp)) hn2 hk2 (ha2 T (fun p hp=>.tail _ (hT2 p hp)) (aJ tx (aJ t2 aY))) (offn hf2 (fun p hp=>.tail _ (hT2 p hp)) tr2)
 ·refine aj (dB (lfL ok (ao ok nofun rfl rfl rfl) (bT (c5 (dR decl_name% (bT (lfL ok (ao ok nofun rfl rfl rfl) (bT (c5 (ce ⟨Nat.le_of_ble_eq_true rfl,fun l hlt=>dR decl_name% (ce ?_) rfl⟩)) rfl) rfl rfl nofun nofun) rfl) rfl)) rfl) rfl rfl nofun nofun))
  refine eP (ks:=[]) (a0:=none) (b0:=none) (c0:=none) ok rfl (Nat.le_refl _) (cy w) oke aY .nil ord (Nat.le_of_ble_eq_true rfl) (tb_lt rfl rfl rfl) (dt rfl rfl rfl) allK0 (fun p hp=>.tail _ (hR p hp)) (.head _) rfl allK0 fun x1 fp1 new1 nw1 hk1 hn1 hf1 ha1=>?_
  have g0:∀ p∈led,p∈nw1++(l,listOf [].toArray 0)::led:=fun p hp=>aR (.tail _ hp)
  have U0:Kid dc (new1++rest) _ k0:=T0.next (bx w) nw1 hf1
  have V1:Kid dr (new1++rest) _ k1:=K1.next (cy w) nw1 hf1
  have V2:Kid dr (new1++rest) _ k2:=K2.next (cy w) nw1 hf1
  have hT1:∀ p∈T,p∈nw1++(l,listOf [].toArray 0)::led:=fun p hp=>g0 p (hT p hp)
  have tx1:Off fp1 T:=ha1 T (fun p hp=>.tail _ (hT p hp)) aY
  have tr1:Off (new1++rest) T:=offn hf1 (fun p hp=>.tail _ (hT p hp)) tr
  have X0:Off fp1 k0.fp:=ha1 k0.fp (fun p hp=>.tail _ (K0.sub p hp)) aY
  have X1:Off fp1 k1.fp:=ha1 k1.fp (fun p hp=>.tail _ (K1.sub p hp)) aY
  have X2:Off fp1 k2.fp:=ha1 k2.fp (fun p hp=>.tail _ (K2.sub p hp)) aY
  have U1:=hk1.tree'
  have o1:cA (new1++rest) od:=ord.mono fun p hp=>aR hp
  refine bT (lfL ok (ao ok nofun rfl rfl rfl) (bT (c5 (dR decl_name% (dR decl_name% (ce ⟨Nat.le_of_ble_eq_true rfl,fun l2 hlt2=>dR decl_name% (ce ?_) rfl⟩) rfl) rfl)) rfl) rfl rfl nofun nofun) rfl
  refine eP (ks:=[k1,k2]) (a0:=none) (b0:=some 0) (c0:=some 1) ok rfl (Nat.le_refl _) (cy w) oke (aJ (V1.wide fun p hp=>.tail _ hp) (aJ (V2.wide fun p hp=>.tail _ hp) aY)) (.cons (aJ h.a12 aY) (.cons aY .nil)) o1 (Nat.le_of_ble_eq_true rfl) (tb_lt rfl rfl rfl) (dt rfl rfl rfl) (allK2 ?_ ?_) (fun p hp=>.tail _ (hn1 p hp)) (.head _) rfl (allK2 rfl rfl) fun x2 fp2 new2 nw2 hk2 hn2 hf2 ha2=>?_
  ·rw [h.r1];exact sd (p:=fun c=>c == 1) (q:=fun c=>tb none (some 0) (some 1) c == some 0) h.side rfl rfl rfl
  ·rw [h.r2];exact sd (p:=fun c=>c == 2) (q:=fun c=>tb none (some 0) (some 1) c == some 1) h.side rfl rfl rfl
  ·have hT2:∀ p∈T,p∈nw2++(l2,listOf [Value.ref k1.c,.ref k2.c].toArray 0)::(nw1++(l,listOf [].toArray 0)::led):=fun p hp=>aR (.tail _ (hT1 p hp))
   have tx2:Off fp2 T:=ha2 T (fun p hp=>.tail _ (hT1 p hp)) (aJ t1 (aJ t2 aY))
   have tr2:Off (new2++(new1++rest)) T:=offn hf2 (fun p hp=>.tail _ (hT1 p hp)) tr1
   have Y0:Off fp2 k0.fp:=ha2 k0.fp (fun p hp=>.tail _ (U0.sub p hp)) (aJ h.a01.symm (aJ h.a02.symm aY))
   have Y1:Off fp2 fp1:=ha2 fp1 (fun p hp=>.tail _ (U1.sub p hp)) (aJ X1.symm (aJ X2.symm aY))
   have W0:Kid dc (new2++(new1++rest)) _ k0:=U0.next (bx w) nw2 hf2
   have W1:Kid dc (new2++(new1++rest)) _ _:=U1.next (bx w) nw2 hf2
   have W2:=hk2.tree'
   refine ce ⟨Nat.le_of_ble_eq_true rfl,fun l3 hlt3=>dR decl_name% (ce ?_) rfl⟩
   refine eP (ks:=[k0,mkK x1 fp1 _,mkK x2 fp2 _]) (a0:=some 0) (b0:=some 2) (c0:=some 2) ok rfl (Nat.le_refl _) (bx w) oke (aJ (W0.wide fun p hp=>.tail _ hp) (aJ (W1.wide fun p hp=>.tail _ hp) (aJ (W2.wide fun p hp=>.tail _ hp) aY))) (.cons (aJ X0.symm (aJ Y0.symm aY)) (.cons (aJ Y1.symm aY) (.cons aY .nil))) (o1.mono fun p hp=>aR hp) (Nat.le_of_ble_eq_true rfl) (tb_lt rfl rfl rfl) (dt rfl rfl rfl) (allK3 ?_ ?_ ?_) (fun p hp=>.tail _ (hn2 p hp)) (.head _) rfl (allK3 rfl rfl rfl) fun y fpy new3 nw3 hk3 hn3 hf3 ha3=>?_
   ·rw [h.r0];exact sd (p:=fun c=>c == 0) (q:=fun c=>tb (some 0) (some 2) (some 2) c == some 0) h.side rfl rfl rfl
   ·exact sd (p:=fun c=>(tb none none none c).isSome) (q:=fun c=>tb (some 0) (some 2) (some 2) c == some 1) h.side rfl rfl rfl
   ·exact sd (p:=fun c=>(tb none (some 0) (some 1) c).isSome) (q:=fun c=>tb (some 0) (some 2) (some 2) c == some 2) h.side rfl rfl rfl
   ·rw [all (p:=fun c=>(tb (some 0) (some 2) (some 2) c).isSome) rfl rfl rfl] at hk3
    exact fin _ y fpy _ _ hG.cons.app.cons.app.cons.app (fun p hp=>aR (aR (aR hp))) hn3 hk3 (ha3 T (fun p hp=>.tail _ (hT2 p hp)) (aJ t0 (aJ tx1 (aJ tx2 aY)))) (offn hf3 (fun p hp=>.tail _ (hT2 p hp)) tr2)
 ·refine aj (dB (lfL ok (ao ok nofun rfl rfl rfl) (bT (c5 (bT (lfL ok (ao ok nofun rfl rfl rfl) (bT (c5 (dR decl_name% (ce ⟨Nat.le_of_ble_eq_true rfl,fun l hlt=>dR decl_name% (ce ?_) rfl⟩) rfl)) rfl) rfl rfl nofun nofun) rfl)) rfl) rfl rfl nofun nofun))
  refine eP (ks:=[k0]) (a0:=some 0) (b0:=none) (c0:=none) ok rfl (Nat.le_refl _) (cy w) oke (aJ (K0.wide fun p hp=>.tail _ hp) aY) (.cons aY .nil) ord (Nat.le_of_ble_eq_true rfl) (tb_lt rfl rfl rfl) (dt rfl rfl rfl) (allK1 ?_) (fun p hp=>.tail _ (hR p hp)) (.head _) rfl (allK1 rfl) fun x1 fp1 new1 nw1 hk1 hn1 hf1 ha1=>?_
  ·rw [h.r0];exact sd (p:=fun c=>c == 0) (q:=fun c=>tb (some 0) none none c == some 0) h.side rfl rfl rfl
  have U1:Kid dc (new1++rest) _ k1:=T1.next (bx w) nw1 hf1
  have V2:Kid dr (new1++rest) _ k2:=K2.next (cy w) nw1 hf1
  have hT1:∀ p∈T,p∈nw1++(l,listOf [Value.ref k0.c].toArray 0)::led:=fun p hp=>aR (.tail _ (hT p hp))
  have tx1:Off fp1 T:=ha1 T (fun p hp=>.tail _ (hT p hp)) (aJ t0 aY)
  have tr1:Off (new1++rest) T:=offn hf1 (fun p hp=>.tail _ (hT p hp)) tr
  have X1:Off fp1 k1.fp:=ha1 k1.fp (fun p hp=>.tail _ (K1.sub p hp)) (aJ h.a01 aY)
  have X2:Off fp1 k2.fp:=ha1 k2.fp (fun p hp=>.tail _ (K2.sub p hp)) (aJ h.a02 aY)
  have U0:=hk1.tree'
  have o1:cA (new1++rest) od:=ord.mono fun p hp=>aR hp
  refine dR decl_name% (bT (lfL ok (ao ok nofun rfl rfl rfl) (bT (c5 (dR decl_name% (ce ⟨Nat.le_of_ble_eq_true rfl,fun l2 hlt2=>dR decl_name% (ce ?_) rfl⟩) rfl)) rfl) rfl rfl nofun nofun) rfl) rfl
  refine eP (ks:=[k2]) (a0:=none) (b0:=none) (c0:=some 0) ok rfl (Nat.le_refl _) (cy w) oke (aJ (V2.wide fun p hp=>.tail _ hp) aY) (.cons aY .nil) o1 (Nat.le_of_ble_eq_true rfl) (tb_lt rfl rfl rfl) (dt rfl rfl rfl) (allK1 ?_) (fun p hp=>.tail _ (hn1 p hp)) (.head _) rfl (allK1 rfl) fun x2 fp2 new2 nw2 hk2 hn2 hf2 ha2=>?_
  ·rw [h.r2];exact sd (p:=fun c=>c == 2) (q:=fun c=>tb none none (some 0) c == some 0) h.side rfl rfl rfl
  have hT2:∀ p∈T,p∈nw2++(l2,listOf [Value.ref k2.c].toArray 0)::(nw1++(l,listOf [Value.ref k0.c].toArray 0)::led):=fun p hp=>aR (.tail _ (hT1 p hp))
  have tx2:Off fp2 T:=ha2 T (fun p hp=>.tail _ (hT1 p hp)) (aJ t2 aY)
  have tr2:Off (new2++(new1++rest)) T:=offn hf2 (fun p hp=>.tail _ (hT1 p hp)) tr1
  have Y0:Off fp2 k1.fp:=ha2 k1.fp (fun p hp=>.tail _ (U1.sub p hp)) (aJ h.a12.symm aY)
  have Y1:Off fp2 fp1:=ha2 fp1 (fun p hp=>.tail _ (U0.sub p hp)) (aJ X2.symm aY)
  have W1:Kid dc (new2++(new1++rest)) _ k1:=U1.next (bx w) nw2 hf2
  have W0:Kid dc (new2++(new1++rest)) _ _:=U0.next (bx w) nw2 hf2
  have W2:=hk2.tree'
  refine ce ⟨Nat.le_of_ble_eq_true rfl,fun l3 hlt3=>dR decl_name% (ce ?_) rfl⟩
  refine eP (ks:=[mkK x1 fp1 _,k1,mkK x2 fp2 _]) (a0:=some 0) (b0:=some 1) (c0:=some 2) ok rfl (Nat.le_refl _) (bx w) oke (aJ (W0.wide fun p hp=>.tail _ hp) (aJ (W1.wide fun p hp=>.tail _ hp) (aJ (W2.wide fun p hp=>.tail _ hp) aY))) (.cons (aJ X1 (aJ Y1.symm aY)) (.cons (aJ Y0.symm aY) (.cons aY .nil))) (o1.mono fun p hp=>aR hp) (Nat.le_of_ble_eq_true rfl) (tb_lt rfl rfl rfl) (dt rfl rfl rfl) (allK3 ?_ ?_ ?_) (fun p hp=>.tail _ (hn2 p hp)) (.head _) rfl (allK3 rfl rfl rfl) fun y fpy new3 nw3 hk3 hn3 hf3 ha3=>?_
  ·exact sd (p:=fun c=>(tb (some 0) none none c).isSome) (q:=fun c=>tb (some 0) (some 1) (some 2) c == some 0) h.side rfl rfl rfl
  ·rw [h.r1];exact sd (p:=fun c=>c == 1) (q:=fun c=>tb (some 0) (some 1) (some 2) c == some 1) h.side rfl rfl rfl
  ·exact sd (p:=fun c=>(tb none none (some 0) c).isSome) (q:=fun c=>tb (some 0) (some 1) (some 2) c == some 2) h.side rfl rfl rfl
  ·rw [all (p:=fun c=>(tb (some 0) (some 1) (some 2) c).isSome) rfl rfl rfl] at hk3
   exact fin _ y fpy _ _ hG.cons.app.cons.app.cons.app (fun p hp=>aR (aR (aR hp))) hn3 hk3 (ha3 T (fun p hp=>.tail _ (hT2 p hp)) (aJ tx1 (aJ t1 (aJ tx2 aY)))) (offn hf3 (fun p hp=>.tail _ (hT2 p hp)) tr2)
end
end
section
open PySem PySem.W PyProof.Rows PySem.Spec PyProof.Rows.LCg PyProof.Rows.LCt
set_option maxHeartbeats 8000000
set_option maxRecDepth 100000
set_option tactic.hygienic false
noncomputable def Ly {α:Type} (w:World) (F:FnC) (b:Bx) (t:Sem α) (s:Shared) (Q:α→Shared→Prop) (E:VS) (m:MM) (led:Led):Prop :=
 ∀ h tk,Fr b.g b.L h m→News b.g b.L h led→wpAny (model PG w) (tpx F b) t Q E { s with heap:=h,toks:=tk }
noncomputable def KY (w:World) (F:FnC) (b:Bx) (env:Env) (rest:List Stmt) (s:Shared) (Q:FS) (E:VS):FP
 | .next,m',led'=>Ly w F b (execs rest env) s Q E m' led'
 | _,_,_=>False
noncomputable def bL (A₀:Around) (base h₀:Heap) (L:Addr) (mg mb:MM) (mean:ExcName→Option Value):Bx:=⟨callerA.depth + 1,callerA.units + 3,callerA.guards,cellsFrom (L + 1) lawSc.names [],[],A₀,base,h₀,L,mg,mb,mean⟩
noncomputable abbrev FL (a:Addr) (ccd:Value):FnC:=⟨Str.ofString "law",lawSc,a,ccd⟩
inductive CvL (L:Addr) (v:Nat→Option Value):List Nat→Led→Prop
 | nil:CvL L v [] []
 | cons (i:Nat) (o:Obj) (is:List Nat) (cs:Led) (h:o.data = .cell (v i)) (t:CvL L v is cs):CvL L v (i::is) (((L + 1 + i:Nat),o)::cs)
noncomputable def vset (v:Nat→Option Value) (i:Nat) (x:Value):Nat→Option Value:=fun j=>if j = i then some x else v j
section
variable {L:Addr} {v v':Nat→Option Value} {is:List Nat} {cs D:Led}
theorem CvL.mem (h:CvL L v is cs):∀ i∈is,∃ o,((L + 1 + i:Nat),o)∈cs∧o.data = .cell (v i):=by
 induction h with
 | nil=>exact fun O h=>nomatch h
 | cons i o is cs h t ih =>
  intro j hj
  rcases List.mem_cons.mp hj with rfl | hj
  ·exact ⟨o,.head _,h⟩
  ·obtain ⟨o,h1,h2⟩:=ih j hj;exact ⟨o,.tail _ h1,h2⟩
theorem CvL.adr (h:CvL L v is cs):∀ p∈cs,∃ i∈is,p.1 = L + 1 + i:=by
 induction h with
 | nil=>exact fun O h=>nomatch h
 | cons i o is cs h t ih =>
  intro p hp
  fail "c"
  ·exact ⟨i,.head _,rfl⟩
  ·obtain ⟨j,h1,h2⟩:=ih p hp;exact ⟨j,.tail _ h1,h2⟩
theorem CvL.congr (h:CvL L v is cs) (e:∀ i∈is,v i = v' i):CvL L v' is cs:=by
 induction h with
 | nil=>exact .nil
 | cons i o is cs h t ih=>exact .cons i o is cs (by rw [h,e i (.head _)]) (ih fun j hj=>e j (.tail _ hj))
theorem CvL.upd (h:CvL L v is cs) (hn:is.Nodup) {i:Nat} (hi:i∈is) (hD:∀ p∈D,@Ne Nat p.1 (L + 1 + i)):∃ o g,UpdF (L + 1 + i) o (cs++D) g∧o.data = .cell (v i)∧∀ o' x,o'.data = .cell (some x)→∃ cs',g o' = cs'++D∧CvL L (vset v i x) is cs':=by
 induction h with
 | nil=>cases hi
 | cons j o is cs h t ih =>
  rw [List.nodup_cons] at hn
  by_cases e:j = i
  ·subst e
   refine ⟨o,_,.head (r:=cs++D) fun p hp=>?_,h,fun o' x hx=>⟨_::cs,rfl,.cons _ _ _ _ (by rw [hx];unfold vset;rw [if_pos rfl]) (t.congr fun k hk=>by unfold vset;rw [if_neg];rintro rfl;exact hn.1 hk)⟩⟩
   fail "a"
   ·obtain ⟨k,hk,e⟩:=t.adr p hp
    intro e2
    have e3:L + 1 + k = L + 1 + j:=e.symm.trans e2
    have:k = j:=by omega
    exact hn.1 (this ▸ hk)
   ·exact hD p hp
  ·have hi:i∈is:=by
    rcases List.mem_cons.mp hi with e2 | hi
    ·exact absurd e2.symm e
    ·exact hi
   obtain ⟨o9,g,U,hd,hq⟩:=ih hn.2 hi
   refine ⟨o9,_,.tail (p:=(L + 1 + j,o)) (fun e2=>e (by have e3:L + 1 + j = L + 1 + i:=e2;omega)) U,hd,fun o' x hx=>?_⟩
   obtain ⟨cs',h1,h2⟩:=hq o' x hx
   refine ⟨_::cs',?_,.cons _ o _ _ ?_ h2⟩
   ·show _::g o' = _
    rw [h1];rfl
   ·rw [h];unfold vset;rw [if_neg e]
end
abbrev C7 (L:Addr) (v:Nat→Option Value) (cs:Led):Prop:=CvL L v [0,1,2,3,4,5,6] cs
noncomputable def ba (L:Addr) (D:Led):Prop:=∀ p∈D,∀ i∈[0,1,2,3,4,5,6],@Ne Nat p.1 (L + 1 + i)
section
variable {L:Addr} {v v':Nat→Option Value} {is:List Nat} {cs D D2:Led}
theorem C7.fresh {a:Addr} (h:C7 L v cs) (hf:∀ q∈cs,@Ne Nat q.1 a):∀ i∈[0,1,2,3,4,5,6],@Ne Nat a (L + 1 + i):=fun i hi e=>by
 obtain ⟨o,h1,-⟩:=h.mem i hi
 exact hf _ h1 e.symm
theorem ba.nil:ba L []:=fun p hp=>nomatch hp
theorem ba.cons {a:Addr} {o:Obj} (h:ba L D) (ha:∀ i∈[0,1,2,3,4,5,6],@Ne Nat a (L + 1 + i)):ba L ((a,o)::D):=fun p hp=>by
 fail "c"
 ·exact ha
 ·exact h p hp
theorem ba.app (h:ba L D) (h2:ba L D2):ba L (D++D2):=fun p hp=>(List.mem_append.mp hp).elim (h p) (h2 p)
theorem ba.sub (h:ba L D) (hs:∀ p∈D2,p∈D):ba L D2:=fun p hp=>h p (hs p hp)
theorem ba.off (h:ba L D) (hc:C7 L v cs):Off D cs:=fun p hp q hq e=>by
 obtain ⟨i,hi,e2⟩:=hc.adr q hq
 exact h p hp i hi (e.symm.trans e2)
theorem Off.offC (h:Off D cs) (hc:C7 L v cs):ba L D:=fun p hp i hi e=>by
 obtain ⟨o,h1,-⟩:=hc.mem i hi
 exact h p hp _ h1 e.symm
end
section
variable {w:World} {D':Nat} {F:FnC} {b:Bx} {m:MM} {led:Led} {env:Env} {pos:Pos} {s:Shared} {Q:FS} {E:VS} {x:Str} {P:Value→Prop} {φ:FP}
theorem cM {st:Stmt} {rest:List Stmt} (h:Lx w F b (exec st env) (KY w F b env rest s Q E) m led):Ly w F b (execs (st::rest) env) s Q E m led:=fun hp tk f N =>
 wpAny_execs_cons (h _ _ E f N fun fl m' led' h' tk' p F' N'=>by
  cases fl with
  | next=>exact p _ _ F' N'
  | ret v=>exact p.elim
  | brk=>exact p.elim
  | cont=>exact p.elim)
theorem ly_name {value:Expr} {pos':Pos} {rest:List Stmt} (h:Px w F b (eval value (evx F b)) P m led) (hq:∀ v,P v→Ly w F b (execs rest (evx F b)) s Q E (ms m x v) led) (hk:F.cs.kind = .function) (hx:(evx F b).kindOf x = some .local)
  (hs:swapsWith value (some (.Name x pos')) pos.line (evx F b) = pure false):Ly w F b (execs (.Assign [.Name x pos'] value pos::rest) (evx F b)) s Q E m led :=
 cM (aM (h.lx fun v hv=>hq v hv) hk hx hs)
theorem Ly.sub {α:Type} {t:Sem α} {s:Shared} {Q:α→Shared→Prop} {E:VS} {led':Led} (h:Ly w F b t s Q E m led') (hs:∀ p∈led',p∈led):Ly w F b t s Q E m led:=fun hp tk f N=>h hp tk f (bJ N hs)
theorem lx_callL {D:Nat} {f:Addr} {args:List Value} {fp rest:Led} {post:Value→Led→Prop} {ψ:VP} (ok:Okx w D b) (ho:b.outer = []) (XB:(Mine.hd.heap_39 w.params).In b.base) (TB:Top VW (looseW VW []) b.mean b.mg b.mb b.base) (hk:F.cs.kind = .function) (hD:D'≤D) (H:ef w D' f args fp rest post) (hs:∀ p∈fp++rest,p∈led) (hp:∀ r fp',post r fp'→ψ r m (fp'++rest)) :
  Lx w F b (call (.ref f) args) ψ m led:=fun s Q E f0 N q=>by
 have B:=ok.B
 have hd:=ok.hd
 have hu:=ok.hu
 unfold tpx
 rw [ho] at B ⊢
 exact H _ _ _ _ _ _ _ _ _ _ _ _ _ _ _ _ _ _ _ B f0 ok.X (bJ N hs) ok.T XB TB hk (by omega) (by omega) fun r fp' h' tk' F' N' hx=>q _ _ _ h' tk' (hp _ _ hx) F' N'
theorem px_callL {D:Nat} {f:Addr} {args:List Value} {fp rest:Led} {post:Value→Led→Prop} (ok:Okx w D b) (ho:b.outer = []) (XB:(Mine.hd.heap_39 w.params).In b.base) (TB:Top VW (looseW VW []) b.mean b.mg b.mb b.base) (hk:F.cs.kind = .function) (hD:D'≤D) (H:ef w D' f args fp rest post) (hs:∀ p∈led,p∈fp++rest) (hs2:∀ p∈fp++rest,p∈led) (hp:∀ r fp',post r fp'→P r∧fp' = fp) :
  Px w F b (call (.ref f) args) P m led:=fun s Q E f0 N q =>
 lx_callL (ψ:=fun r m' led'=>P r∧m' = m∧led' = fp++rest) ok ho XB TB hk hD H hs2 (fun r fp' h=>by obtain ⟨h1,rfl⟩:=hp _ _ h;exact ⟨h1,rfl,rfl⟩) s Q E f0 N fun r m' led' h' tk' h F' N'=>by
  obtain ⟨h1,rfl,rfl⟩:=h
  exact q _ h' tk' h1 F' (bJ N' hs)
end
inductive SetC (L:Addr) (i:Nat) (φ:Flow→MM→Led→Prop) (x:Value) (m:MM) (led:Led):Prop
 | mk (v:Nat→Option Value) (cs D:Led) (hc:C7 L v cs) (hD:ba L D) (hs:∀ p∈cs++D,p∈led) (hq:∀ cs',C7 L (vset v i x) cs'→φ .next m (cs'++D)):SetC L i φ x m led
section
variable {w:World} {F:FnC} {b:Bx} {m:MM} {led:Led} {pos:Pos} {x:Str} {i:Nat} {φ:FP}
theorem dz {value:Expr} {pos':Pos} (h:Lx w F b (eval value (evx F b)) (SetC b.L i φ) m led) (hi:i∈[0,1,2,3,4,5,6]) (hc:b.cl.lookup x = some (b.L + 1 + i)) (hk:F.cs.kind = .function) (hx:(evx F b).kindOf x = some .cell) (hs:swapsWith value (some (.Name x pos')) pos.line (evx F b) = pure false):Lx w F b (exec (.Assign [.Name x pos'] value pos) (evx F b)) φ m led :=
 lx_cellL (h.mono fun v m' led' hp=>by
  obtain ⟨v0,cs,D,h1,h2,h3,h4⟩:=hp
  obtain ⟨o,g,U,hd,hq⟩:=h1.upd (by decide) hi fun p hp=>h2 p hp i hi
  exact .mk (cs++D) h3 o _ g U hd fun o' ho'=>by
   obtain ⟨cs',e,h5⟩:=hq o' v ho'
   rw [e]
   exact h4 cs' h5) hc hk hx hs
theorem a7 {v:Nat→Option Value} {cs:Led} {y:Value} {p:Pos} (hc:C7 b.L v cs) (hv:v i = some y) (hs:∀ p∈cs,p∈led) (hi:i∈[0,1,2,3,4,5,6]) (hcl:b.cl.lookup x = some (b.L + 1 + i)) (hk:F.cs.kind = .function) (hx:(evx F b).kindOf x = some .cell) (hb:(x == ("__debug__":Str)) = false):Px w F b (eval (.Name x p) (evx F b)) (fun a=>a = y) m led:=by
 obtain ⟨o,h1,h2⟩:=hc.mem i hi
 rw [hv] at h2
 exact px_cell (hs _ h1) h2 hcl hk hx hb
end
section
variable {w:World} {D:Nat} {F:FnC} {b:Bx} {m:MM} {led:Led} {ct elt iter g e:Expr} {x y:Str} {sc:Scope} {cl:List (Str × Addr)} {J:Nat→List Value→Led→Prop} {px py pos spos cp:Pos} {ax:Addr} {its:Array Value} {k n:Nat} {φ:VP} {ψ:FP}
theorem lx_compR (hr:Px w F b (eval g (evx F b)) (fun a=>a = .type "range") m led) (he:Px w F b (eval e (evx F b)) (IsI (n:Int)) m led) (hn:n≤1000) (h0:J 0 [] led) (turn:TurnT w F b sc cl ct elt x m led (fun i v=>IsI (i:Int) v) n J)
  (hq:∀ D ys nw,J n ys nw→(∀ p∈led,p∈nw)→(∀ p∈nw,@Ne Nat p.1 D)→φ (.ref D) m ((D,lst ys)::nw))
  (hclos:closureFor sc (evx F b) = pure cl) (hcell:∀ y∈sc.names,y.2≠.cell) (hkind:sc.kind = .function) (hnames:∀ y∈sc.names,y.2 = .local→sc.names.lookup y.1 = some .local) (hx:sc.names.lookup x = some .local)
  (hk:∀ C,(compEnvC sc cl C (evx F b)).scope.kind = .function) (hl:∀ C,(compEnvC sc cl C (evx F b)).kindOf x = some .local) (hd:(x == ("__debug__":Str)) = false) (hs:∀ x,foldedSetIterable (.Call g [e] [] cp) (evx F b) x = pure x)
  (ha:starEach [e] (evx F b) = (false,eval e (evx F b))::starEach [] (evx F b))
  (hc:eval (.Call g [e] [] cp) (evx F b) = (do callWith cp (← eval g (evx F b)) [] (backTo cp (starEach [e] (evx F b))) (backToKw cp (keywordEach [] (evx F b))))) :
  Lx w F b (eval (.ListComp elt [⟨.Name x px,.Call g [e] [] cp,[ct],0⟩] sc pos) (evx F b)) φ m led:=fun s Q E f N q =>
 ListComp_T f hclos hcell hkind hnames hx (Call_ (hr s _ _ f N fun a h' tk' pa F' N'=>by
  subst pa
  refine Pv.callWith_type1 (az he ha _ _ _ F' N' fun vs h2' tk2' pa2 F2' N2'=>?_) ha rfl
  obtain ⟨_,rfl,t0,rfl⟩:=pa2
  refine range1_rows F2' N2' fun h3' tk3 t₁ u₁ v₁ R F3' N3' O=>?_
  refine CompSrcT.range (n:=n) (by exact rfl) F3' N3' R (small_up (Nat.le_trans hn (by decide))) (size_up n) (Nat.le_trans hn (by decide)) fun g=>rest_T (P:=fun i v=>∃ t,v = .int (0 + (i:Int)) t) (fun i v ys nw T C hi hP=>turn i v ys nw T C hi (by obtain ⟨t,rfl⟩:=hP;exact ⟨t,by rw [Int.zero_add]⟩)) (fun nw h=>trivial) h0 (fun ys nw hJ hsub D h tk F2 N2 o=>q _ _ _ h tk (hq D ys nw hJ hsub (eM o)) F2 N2) hk hl hd) hc) hs
theorem lx_asgRU (hr:Px w F b (eval g (evx F b)) (fun a=>a = .type "range") m led) (he:Px w F b (eval e (evx F b)) (IsI (n:Int)) m led) (hn:n≤1000) (h0:J 0 [] led) (turn:TurnU w F b sc cl elt x m led (fun i v=>IsI (i:Int) v) n J)
  (hq:∀ D ys nw,J n ys nw→(∀ p∈led,p∈nw)→(∀ p∈nw,@Ne Nat p.1 D)→ψ .next (ms m y (.ref D)) ((D,lst ys)::nw))
  (hsw:swapsWith (.ListComp elt [⟨.Name x px,.Call g [e] [] cp,[],0⟩] sc pos) (some (.Name y py)) spos.line (evx F b) = pure true)
  (hclos:closureFor sc (evx F b) = pure cl) (hcell:∀ y∈sc.names,y.2≠.cell) (hkind:sc.kind = .function) (hnames:∀ y∈sc.names,y.2 = .local→sc.names.lookup y.1 = some .local) (hx:sc.names.lookup x = some .local)
  (hy:(evx F b).kindOf y = some .local) (hp:(((evx F b).scope.kind == .class) || (((evx F b).scope.kind == .module) && (evx F b).locals != (evx F b).globals)) = false)
  (hk:∀ C,(compEnvC sc cl C (evx F b)).scope.kind = .function) (hl:∀ C,(compEnvC sc cl C (evx F b)).kindOf x = some .local) (hd:(x == ("__debug__":Str)) = false) (hs:∀ x,foldedSetIterable (.Call g [e] [] cp) (evx F b) x = pure x)
  (ha:starEach [e] (evx F b) = (false,eval e (evx F b))::starEach [] (evx F b))
  (hc:eval (.Call g [e] [] cp) (evx F b) = (do callWith cp (← eval g (evx F b)) [] (backTo cp (starEach [e] (evx F b))) (backToKw cp (keywordEach [] (evx F b))))) :
  Lx w F b (exec (.Assign [.Name y py] (.ListComp elt [⟨.Name x px,.Call g [e] [] cp,[],0⟩] sc pos) spos) (evx F b)) ψ m led:=fun s Q E f N q =>
 Assign_ListComp_U f rfl hsw hclos hcell hkind hnames hx hy hp (Call_ (hr s _ _ f N fun a h' tk' pa F' N'=>by
  subst pa
  refine Pv.callWith_type1 (az he ha _ _ _ F' N' fun vs h2' tk2' pa2 F2' N2'=>?_) ha rfl
  obtain ⟨_,rfl,t0,rfl⟩:=pa2
  refine range1_rows F2' N2' fun h3' tk3 t₁ u₁ v₁ R F3' N3' O=>?_
  refine CompSrc.range (n:=n) (by exact rfl) F3' N3' R (small_up (Nat.le_trans hn (by decide))) (size_up n) (Nat.le_trans hn (by decide)) fun g=>rest_U (P:=fun i v=>∃ t,v = .int (0 + (i:Int)) t) (fun i v ys nw T C hi hP=>turn i v ys nw T C hi (by obtain ⟨t,rfl⟩:=hP;exact ⟨t,by rw [Int.zero_add]⟩)) (fun nw h=>trivial) h0 (fun ys nw hJ hsub D h tk F2 N2 o=>q _ _ _ h tk (hq D ys nw hJ hsub (eM o)) F2 N2) hk hl hd) hc) hs
end
section
variable {w:World} {A₀:Around} {base h₀:Heap} {L:Addr} {mg mb:MM} {mean:ExcName→Option Value}
theorem okL (B:Below A₀ base [] h₀) (X:(Mine.hd.heap_39 w.params).In h₀) (T:Top VW (looseW VW []) mean mg mb h₀):Okx w 100 (bL A₀ base h₀ L mg mb mean):=⟨B,X,T,by show callerA.depth + 1 + 100 < recursionLimit;decide,by show callerA.units + 3 + _ < _;decide⟩
end
end
section
open PySem PySem.W PyProof.Rows PySem.Spec PyProof.Rows.LCg
set_option maxHeartbeats 8000000
set_option maxRecDepth 100000
set_option tactic.hygienic false
structure LM (m:MM) (nl:Addr) (z:Int) (wk:Bool) (lo hi:Option (Array UInt8)):Prop where
 nums:m "nums" = some (.ref nl)
 setup:∃ t,m "setup" = some (.int z t)
 merged:m "merged" = some (.bool wk)
 low:∃ t,m "low" = some (bW lo t)
 high:∃ t,m "high" = some (bW hi t)
theorem LM.set {m:MM} {nl:Addr} {z:Int} {wk:Bool} {lo hi:Option (Array UInt8)} {x:Str} {v:Value} (h:LM m nl z wk lo hi) (h1:(("nums":Str) == x) = false) (h2:(("setup":Str) == x) = false) (h3:(("merged":Str) == x) = false) (h4:(("low":Str) == x) = false) (h5:(("high":Str) == x) = false):LM (ms m x v) nl z wk lo hi where
 nums:=aq h1 h.nums
 setup:=by obtain ⟨t,e⟩:=h.setup;exact ⟨t,aq h2 e⟩
 merged:=aq h3 h.merged
 low:=by obtain ⟨t,e⟩:=h.low;exact ⟨t,aq h4 e⟩
 high:=by obtain ⟨t,e⟩:=h.high;exact ⟨t,aq h5 e⟩
theorem da.mono {rest rest':Led} {nl:Addr} {vs:Array Value} {n k:Nat} (h:da rest nl vs n k) (hs:∀ p∈rest,p∈rest'):da rest' nl vs n k:=⟨hs _ h.lst,h.size,h.pos,h.small,h.num⟩
section
variable {w:World} {A₀:Around} {base h₀:Heap} {L a:Addr} {ccd:Value} {m mg mb:MM} {mean:ExcName→Option Value} {s:Shared} {D:Led} {Q:FS} {E:VS} {R:List Stmt}
theorem q2 {nl:Addr} {vs:Array Value} {n kk:Nat} {v:Nat→Option Value} {cs:Led} (ok:Okx w 100 (bL A₀ base h₀ L mg mb mean)) (hn:da D nl vs n kk) (e1:m "nums" = some (.ref nl)) (hc:C7 L v cs) (hD:ba L D)
  (k:∀ z wk upto ut lo hi v' cs' m',0≤z→z < 2000000→0≤upto→upto≤3→(∀ b,lo = some b→b.size≤8)→(∀ b,hi = some b→b.size≤8)→LM m' nl z wk lo hi→C7 L v' cs'→v' 0 = some (.int upto ut)→Ly w (FL a ccd) (bL A₀ base h₀ L mg mb mean) (execs R (evx (FL a ccd) (bL A₀ base h₀ L mg mb mean))) s Q E m' (cs'++D)) :
  Ly w (FL a ccd) (bL A₀ base h₀ L mg mb mean) (execs (lawAt 2::lawAt 3::lawAt 4::lawAt 5::lawAt 6::R) (evx (FL a ccd) (bL A₀ base h₀ L mg mb mean))) s Q E m (cs++D):=by
 conv in (lawAt _)=>whnf
 conv in (lawAt _)=>whnf
 conv in (lawAt _)=>whnf
 conv in (lawAt _)=>whnf
 conv in (lawAt _)=>whnf
 have hn':∀ {cs'},da (cs'++D) nl vs n kk:=hn.mono fun p hp=>aR hp
 refine ly_name (px_draw ok hn' (ao ok nofun rfl rfl rfl) (af e1 rfl rfl rfl) ab (by decide) (by decide) rfl (by decide) rfl rfl rfl rfl) (fun vx hv=>?_) rfl rfl rfl
 obtain ⟨z,hz,h0,h1⟩:=hv
 refine ly_name (P:=fun a=>a = .bool (z.fmod 2 == 1)) (eL (cj (ac ⟨_,rfl,hz⟩ rfl rfl rfl) ab (by decide)) ab (fun u v hu hv s Q E f N q=>by obtain ⟨t,rfl⟩:=hu;obtain ⟨t',rfl⟩:=hv;exact eq_int (q _ s.heap _ rfl f N)) rfl) (fun v hv=>?_) rfl rfl rfl
 subst hv
 have c0:=Int.fmod_nonneg_of_pos (z.fdiv 8) (b:=4) (by decide)
 have c1:=Int.fmod_lt_of_pos (z.fdiv 8) (b:=4) (by decide)
 refine cM (dz (i:=0) (Px.lx (P:=IsI (3 - (z.fdiv 8).fmod 4)) (bq ab (cj (cq (ac ⟨_,rfl,hz⟩ rfl rfl rfl) ab (by decide) (by decide)) ab (by decide))) fun v9 hv=>.mk v cs D hc hD (fun O h=>h) fun cs' hc'=>?_) (by decide) rfl rfl rfl rfl)
 obtain ⟨ut,rfl⟩:=hv
 refine ly_name (P:=BndV) (px_tab ok (ao ok nofun rfl rfl rfl) (bounds_c (D:=0)) (fun O=>cj (cq (ac ⟨_,rfl,hz⟩ rfl rfl rfl) ab (by decide) (by decide)) ab (by decide)) (Int.fmod_nonneg_of_pos _ (by decide)) (Int.fmod_lt_of_pos _ (by decide)) (by decide) rfl (by decide) nofun rfl fun O O=>nofun) (fun v1 hv1=>ly_name (P:=BndV) (px_tab ok (ao ok nofun rfl rfl rfl) (bounds_c (D:=0)) (fun O=>cj (cq (ac ⟨_,rfl,hz⟩ rfl rfl rfl) ab (by decide) (by decide)) ab (by decide)) (Int.fmod_nonneg_of_pos _ (by decide)) (Int.fmod_lt_of_pos _ (by decide)) (by decide) rfl (by decide) nofun rfl fun O O=>nofun) (fun v2 hv2=>?_) rfl rfl rfl) rfl rfl rfl
 obtain ⟨lo,tl,rfl,hlo⟩:=hv1
 obtain ⟨hi,th,rfl,hhi⟩:=hv2
 obtain ⟨tz,rfl⟩:=hz
 exact k z _ _ ut lo hi _ cs' _ h0 h1 (by omega (splitNatSub:=true)) (by omega (splitNatSub:=true)) hlo hhi ⟨e1,⟨tz,rfl⟩,rfl,⟨tl,rfl⟩,⟨th,rfl⟩⟩ hc' rfl
theorem q7 {v:Nat→Option Value} {cs:Led} (hc:C7 L v cs) (hD:ba L D)
  (k:∀ el n cs',C7 L (vset v 1 (.ref el)) cs'→ba L ((el,listOf #[] n)::D)→(∀ p∈D,p.1≠el)→Ly w (FL a ccd) (bL A₀ base h₀ L mg mb mean) (execs R (evx (FL a ccd) (bL A₀ base h₀ L mg mb mean))) s Q E m (cs'++((el,listOf #[] n)::D))) :
  Ly w (FL a ccd) (bL A₀ base h₀ L mg mb mean) (execs (lawAt 7::R) (evx (FL a ccd) (bL A₀ base h₀ L mg mb mean))) s Q E m (cs++D):=by
 conv in (lawAt _)=>whnf
 refine cM (dz (i:=1) (dO fun l hlt=>?_) (by decide) rfl rfl rfl rfl)
 have hD2:ba L ((l,listOf #[] 0)::D):=hD.cons (hc.fresh fun q hq=>Nat.ne_of_lt (hlt q (aL hq)))
 exact .mk v cs ((l,listOf #[] 0)::D) hc hD2 (fun p hp=>by
  fail "a"
  ·exact .tail _ (aL hp)
  ·fail "c"
   ·exact .head _
   ·exact .tail _ (aR hp)) fun cs' hc'=>k l 0 cs' hc' hD2 fun p hp=>Nat.ne_of_lt (hlt p (aR hp))
end
inductive AppV (l:Addr) (ψ:Value→MM→Led→Prop) (v:Value) (m:MM) (led:Led):Prop
 | mk (items:Array Value) (n:Nat) (rest:Led) (hs:∀ p∈(l,listOf items n)::rest,p∈led) (hne:∀ p∈rest,p.1≠l) (hz:items.size≤10000) (hq:ψ .none m ((l,listOf (items.push v) (n + 1))::rest)):AppV l ψ v m led
inductive AddP (m:MM) (led:Led) (P:List Value→Prop):Value→MM→Led→Prop
 | mk (D D2:Addr) (ws zs:List Value) (h:P zs) (l1:∀ p∈led,@LT.lt Nat _ p.1 D) (l2:@LT.lt Nat _ D D2):AddP m led P (.ref D2) m ((D2,aS zs 0)::(D,aS ws 0)::led)
section
variable {prog:Program} {w:World} {A:Around} {E:VS} {s:Shared} {h₀:Heap} {L:Addr} {m:MM} {news:List (Addr × Obj)}
theorem tail_opsG {value slice:Expr} {o i:Value} {T id:String} {ops:List Value} {Q:VS} (hT:s.TypeIs o T)
  (hl:typeLookup (.type T) "__getitem__" = pure (some (.builtin id))) (h:wpAny (model prog w) A (getItem o i) Q E s)
  (hs:subscripted slice false o i = operate ops (getItem o i)) :
  wpAny (model prog w) A (subscriptTail value slice o i) Q E s:=by
 unfold subscriptTail
 refine wpAny_bind ?_
 rw [getitemInPython_of_ne hT.not_modules]
 refine wpAny_bind (wpAny_specialOf hT hl ?_)
 have fin:wpAny (model prog w) A (subscripted slice false o i) (fun r s₃=>wpAny (model prog w) A (letTemporaryGo value o r >>= fun O=>pure r) Q E s₃) E s:=by
  rw [hs]
  exact wpAny_operating (wpAny_mono h (fun r s₃ h₃=>wpAny_bind (wpAny_letTemporaryGo (wpAny_pure h₃))) fun O O x=>x)
 first
  | exact wpAny_pure (wpAny_bind fin)
  | exact wpAny_bind (wpAny_pure (wpAny_bind fin))
  | exact wpAny_bind fin
theorem slice_tupG {value slice:Expr} {t:Addr} {vs zs:List Value} {b:Int} {u:Tok} {n:Nat} {Q:VS}
  (F:Fr h₀ L s.heap m) (N:News h₀ L s.heap news) (hm:(t,aS vs n)∈news) (h0:0≤b) (hb:b < (vs.length:Int)) (hz:vs.length≤1000) (e:vs.take b.toNat = zs)
  (h:∀ D h',Fr h₀ L h' m→News h₀ L h' ((D,aS zs 0)::news)→(∀ p∈news,p.1 < D)→Q (.ref D) { s with heap:=h' })
  (hs:subscripted slice false (.ref t) (.ref s.heap.objs.size) = operate [.ref s.heap.objs.size,.ref t] (getItem (.ref t) (.ref s.heap.objs.size))) :
  wpAny (model prog w) A (subscriptTail value slice (.ref t) (.ref s.heap.objs.size)) Q E { s with heap:=s.heap.push { cls:=.type "slice",data:=.fields #[.none,.int b u,.none] } }:=by
 obtain ⟨b,rfl⟩:=Int.eq_ofNat_of_zero_le h0
 have ht:IsTup s.heap t vs.toArray:=⟨_,(N _ hm).1,rfl,n,rfl⟩
 have ht':IsTup (s.heap.push { cls:=.type "slice",data:=.fields #[.none,.int b u,.none] }) t vs.toArray:=ht.keeps fun O O e=>Heap.get?_push_of_some _ e
 refine tail_opsG (s:={ s with heap:=s.heap.push { cls:=.type "slice",data:=.fields #[.none,.int b u,.none] } }) ht'.typeIs slot_tuple_getitem.lookup
  (eA ht' (Heap.IsSliceOf.new ..) (by rw [List.size_toArray];omega) ?_ (by rw [List.size_toArray,sizeLine_eq];omega)) hs
 have N1:=News.push (F.push { cls:=.type "slice",data:=.fields #[.none,.int b u,.none] }) (N.grown fun O O e=>Heap.get?_push_of_some _ e) (aS zs 0)
 rw [Heap.size_push] at N1
 have ez:vs.toArray.toList.take b = zs:=e
 rw [ez]
 show Q (.ref (s.heap.push _).objs.size) _
 rw [Heap.size_push]
 exact h _ _ ((F.push _).push _) N1 fun p hp=>Nat.lt_succ_of_lt (Heap.lt_size (N p hp).1)
end
section
variable {w:World} {D D':Nat} {F:FnC} {b:Bx} {m:MM} {led:Led} {env:Env} {pos tp:Pos} {P:Value→Prop} {φ:FP}
theorem lx_cutG {o up:Expr} {sp:Pos} {t:Addr} {vs zs:List Value} {i:Int} {n:Nat} (h1:Px w F b (eval o env) (fun a=>a = .ref t) m led) (h2:Px w F b (eval up env) (IsI i) m led) (hm:(t,aS vs n)∈led) (h0:0≤i) (h3:i < (vs.length:Int)) (hz:vs.length≤1000) (hv:vs.take i.toNat = zs)
  (hs:∀ x,subscripted (.Slice none (some up) none sp) false (.ref t) (.ref x) = operate [.ref x,.ref t] (getItem (.ref t) (.ref x))) :
  Lx w F b (eval (.Subscript o (.Slice none (some up) none sp) pos) env) (CutT m led zs) m led:=fun s Q E f N q =>
 Subscript_ (h1 s _ E f N fun a h' tk' pa F' N'=>by
  subst pa
  refine wpAny_Slice (wpAny_pure (h2 _ _ E F' N' fun a2 h2' tk2 pa2 F2 N2=>?_))
  obtain ⟨u,rfl⟩:=pa2
  exact wpAny_pure (slice_tupG (s:={ s with heap:=h2',toks:=tk2 }) F2 N2 hm h0 h3 hz hv (fun D h3' F3 N3 hlt=>q _ _ _ h3' _ (.mk D hlt) F3 N3) (hs _)))
theorem lx_appendV {o e:Expr} {apos:Pos} {pl:Sem Bool} {l:Addr} {items:Array Value} {n:Nat} {ψ:VP} (ho:Px w F b (eval o env) (fun a=>a = .ref l) m led) (hm:(l,listOf items n)∈led) (h:Lx w F b (eval e env) (AppV l ψ) m led)
  (ha:starEach [e] env = (false,eval e env)::starEach [] env)
  (hc:eval (.Call (.Attribute o "append" apos) [e] [] pos) env = (do
   let ov ← eval o env
   standAt apos.atName
   let (f,first) ← holding [ov] (getMethod ov "append" pl)
   callWith pos f first (backTo pos (starEach [e] env)) [])):Lx w F b (eval (.Call (.Attribute o "append" apos) [e] [] pos) env) ψ m led:=fun s Q E f N q =>
 MethodCall_ (ho s _ E f N fun a h' tk' pa F' N'=>by
  subst pa
  exact PySem.Calls.getMethod_list_append (N' _ hm).1 rfl rfl (callWith_method1 (args_cons (h _ _ E F' N' fun v m2 led2 h2 tk2 pv F2 N2=>by
   obtain ⟨its,n2,rest,hs,hne,hz,hq⟩:=pv
   exact args_nil (app_list F2 (bJ N2 hs) (.head hne) hz fun h3 F3 N3=>q _ _ _ h3 tk2 hq F3 N3)) ha) ha rfl)) hc
theorem lx_tup {elts:List Expr} {k:Nat} {A:List Value→Prop} {ψ:VP} (h:Px w F b (spliced (backTo tp (starEach elts env))) A m led) (hz:∀ vs,A vs→vs.length≤1000) (hq:∀ vs hd,A vs→(∀ p∈led,@LT.lt Nat _ p.1 hd)→ψ (.ref hd) m ((hd,aS vs 0)::led)):Lx w F b (eval (.Tuple elts k tp) env) ψ m led:=fun s Q E f N q =>
 Tuple_ (h s _ E f N fun vs h' tk' pa F' N'=>kup_newTuple F' N' (fun a h2' F2' N2' hlt=>q _ m _ h2' _ (hq vs a pa hlt) F2' N2') (Nat.le_trans (hz vs pa) (by decide)))
theorem lx_addT {o:Expr} {elts:List Expr} {k n:Nat} {t:Addr} {vs:List Value} {A P:List Value→Prop} (h1:Px w F b (eval o env) (fun a=>a = .ref t) m led) (hm:(t,aS vs n)∈led) (h2:Px w F b (spliced (backTo tp (starEach elts env))) A m led) (hA:∀ ws,A ws→ws≠[]∧vs.length + ws.length≤1000∧P (vs++ws)) (hv:vs≠[]):Lx w F b (eval (.BinOp o .Add (.Tuple elts k tp) pos) env) (AddP m led P) m led:=fun s Q E f N q =>
 wpAny_BinOp (h1 s _ E f N fun a h' tk' pa F' N'=>by
  subst pa
  exact Tuple_ (h2 _ _ E F' N' fun ws h2' tk2 pw F2 N2=>kup_newTuple F2 N2 (fun D h3' F3 N3 l1=>add_tup F3 N3 (.tail _ hm) (.head _) hv (hA ws pw).1 (Nat.le_trans (hA ws pw).2.1 (by decide)) fun D2 h4' F4 N4 l2=>q _ m _ h4' tk2 (.mk D D2 ws _ (hA ws pw).2.2 l1 (l2 _ (.head _))) F4 N4) (Nat.le_trans (Nat.le_trans (Nat.le_add_left _ _) (hA ws pw).2.1) (by decide))))
end
structure En.Ok (e:En):Prop where
 u:e.u.size≤8
 q1:1≤e.q
 q:e.q≤3
 k:e.k≤2
 c:e.c < 3
 i:e.i < 5
structure Ents8 (D:Led) (ws:Array Value) (ents:List En) (i:Nat):Prop where
 inn:cU D ws ents
 len:ents.length = i
 idx:∀ (j:Nat) e,ents[j]? = some e→e.i = j
 ok:∀ e∈ents,e.Ok
theorem Ents8.nil {D:Led}:Ents8 D #[] [] 0:=⟨⟨rfl,fun i e he=>by simp at he⟩,rfl,fun j e he=>by simp at he,fun e he=>nomatch he⟩
theorem Ents8.push {D:Led} {ws:Array Value} {ents:List En} {i:Nat} {e:En} {a:Addr} {t1 t2 t3 t4 t5:Tok} {k:Nat} (h:Ents8 D ws ents i) (he:e.Ok) (hi:e.i = i):Ents8 ((a,aS [.bytes e.u t1,.int (0 - (e.q:Int)) t2,.int (0 - (e.k:Int)) t3,.int (e.c:Int) t4,.int (e.i:Int) t5] k)::D) (ws.push (.ref a)) (ents++[e]) (i + 1):=by
 revert D ws ents i e a t1 t2 t3 t4 t5 k
 refine no_implicit_lambda% (e12 ?n fun T0=>(?_:bp T0) _ _ _ _ _ _ _ _ _ _ _ _)
 case n=>fail "n"
 intro D ws ents i e a t1 t2 t3 t4 t5 k
 intros
 clear T0
 have hz:=h.inn.size
 have hl:=h.len
 have snoc:∀ {j:Nat} {d:En},(ents++[e])[j]? = some d→(j < ents.length∧ents[j]? = some d) ∨ (j = ents.length∧d = e):=fun {j d} hd=>by
  rcases Nat.lt_or_ge j ents.length with g | g
  ·rw [List.getElem?_append_left g] at hd;exact .inl ⟨g,hd⟩
  ·rw [List.getElem?_append_right g] at hd
   have h0:j - ents.length = 0:=by
    rcases Nat.eq_zero_or_pos (j - ents.length) with e0 | e0
    ·exact e0
    ·rw [List.getElem?_eq_none (by simp;omega)] at hd;cases hd
   rw [h0] at hd
   cases hd
   exact .inr ⟨by omega,rfl⟩
 refine ⟨⟨by simp [hz],fun j d hd=>?_⟩,by simp [hl],fun j d hd=>?_,fun d hd=>?_⟩
 ·rcases snoc hd with ⟨g,hd⟩ | ⟨rfl,rfl⟩
  ·obtain ⟨a',s1,s2,s3,s4,s5,k',h1,h2⟩:=h.inn.at' j d hd
   exact ⟨a',s1,s2,s3,s4,s5,k',by rw [Array.getElem?_push_lt (by omega),← h1,Array.getElem?_eq_getElem (by omega)],.tail _ h2⟩
  ·exact ⟨a,t1,t2,t3,t4,t5,k,by rw [← hz];simp,.head _⟩
 ·rcases snoc hd with ⟨g,hd⟩ | ⟨rfl,rfl⟩
  ·exact h.idx j d hd
  ·omega
 ·rcases List.mem_append.mp hd with hd | hd
  ·exact h.ok d hd
  ·rw [List.mem_singleton.mp hd];exact he
inductive J8 (L:Addr) (v:Nat→Option Value) (nl:Addr) (z:Int) (wk:Bool) (lo hi:Option (Array UInt8)) (el:Addr) (D0:Led) (i:Nat):MM→Led→Prop
 | mk (m₁:MM) (ws:Array Value) (n:Nat) (cs D:Led) (ents:List En) (hm:LM m₁ nl z wk lo hi) (hc:C7 L v cs) (hD:ba L ((el,listOf ws n)::D)) (hel:∀ p∈D,p.1≠el) (hs:∀ p∈D0,p∈D) (he:Ents8 D ws ents i):J8 L v nl z wk lo hi el D0 i m₁ (cs++((el,listOf ws n)::D))
section
variable {w:World} {A₀:Around} {base h₀:Heap} {L a:Addr} {ccd:Value} {m mg mb:MM} {mean:ExcName→Option Value} {s:Shared} {D:Led} {Q:FS} {E:VS} {R:List Stmt}
theorem q8 {nl el:Addr} {nvs:Array Value} {nn kk n0:Nat} {v:Nat→Option Value} {cs:Led} {z:Int} {wk:Bool} {lo hi:Option (Array UInt8)} (ok:Okx w 100 (bL A₀ base h₀ L mg mb mean)) (hn:da D nl nvs nn kk) (hm:LM m nl z wk lo hi) (hc:C7 L v cs) (hv:v 1 = some (.ref el)) (hD:ba L ((el,listOf #[] n0)::D)) (hel:∀ p∈D,p.1≠el)
  (k:∀ m' ws n ents cs' D',LM m' nl z wk lo hi→C7 L v cs'→ba L ((el,listOf ws n)::D')→(∀ p∈D,p∈D')→Ents8 D' ws ents 5→Ly w (FL a ccd) (bL A₀ base h₀ L mg mb mean) (execs R (evx (FL a ccd) (bL A₀ base h₀ L mg mb mean))) s Q E m' (cs'++((el,listOf ws n)::D'))) :
  Ly w (FL a ccd) (bL A₀ base h₀ L mg mb mean) (execs (lawAt 8::R) (evx (FL a ccd) (bL A₀ base h₀ L mg mb mean))) s Q E m (cs++((el,listOf #[] n0)::D)):=by
 revert w A₀ base h₀ L a ccd m mg mb mean s D Q E R nl el nvs nn kk n0 v cs z wk lo hi
 refine no_implicit_lambda% (e28 ?n fun T0=>(?_:bp T0) _ _ _ _ _ _ _ _ _ _ _ _ _ _ _ _ _ _ _ _ _ _ _ _ _ _ _ _)
 case n=>fail "n"
 intro w A₀ base h₀ L a ccd m mg mb mean s D Q E R nl el nvs nn kk n0 v cs z wk lo hi
 intros
 clear T0
 conv in (lawAt _)=>whnf
 refine cM (lx_forUp (n:=5) ok (ah ok nofun nofun (by decide) rfl rfl rfl) ab (by decide) (J8 L v nl z wk lo hi el D) (.mk m #[] n0 cs D [] hm hc hD hel (fun O h=>h) .nil) (fun i m₁ led₁ I o t hi9 hJ hne Φ hΦ hR=>?_) (fun m' led' hJ=>?_) rfl rfl rfl rfl (fun O=>rfl))
 rotate_left 1
 ·obtain ⟨ws,n,cs',D',ents,hm',hc',hD',hel',hs',he'⟩:=hJ
  exact k m' ws n ents cs' D' hm' hc' hD' hs' he'
 obtain ⟨ws,n,cs',D',ents,hm',hc',hD',hel',hs',he'⟩:=hJ
 have hez:=he'.inn.size
 have hel2:=he'.len
 have hcl:∀ p∈cs',p∈((I,o)::(cs'++((el,listOf ws n)::D')):Led):=fun p hp=>.tail _ (aL hp)
 have hDl:∀ p∈D',p∈((I,o)::(cs'++((el,listOf ws n)::D')):Led):=fun p hp=>.tail _ (aR (.tail _ hp))
 have hLl:(el,listOf ws n)∈((I,o)::(cs'++((el,listOf ws n)::D')):Led):=.tail _ (aR (.head _))
 refine aj (aM (Px.lx (px_draw ok (hn.mono fun p hp=>hDl p (hs' p hp)) (ao ok nofun rfl rfl rfl) (af ((aq (by decide) hm'.nums)) rfl rfl rfl) (cJ ab (ac ⟨_,rfl,_,rfl⟩ rfl rfl rfl)) (by omega) (by omega) rfl (by decide) rfl rfl rfl rfl) fun vx hv=>?_) rfl rfl rfl)
 obtain ⟨y,hy,h0,h1⟩:=hv
 have hm2:LM (ms (ms m₁ "i" (.int (i:Int) t)) "x" vx) nl z wk lo hi:=(hm'.set rfl rfl rfl rfl rfl).set rfl rfl rfl rfl rfl
 have after:∀ (m3:MM) (hd:Addr) (u:Array UInt8) (q kd:Nat) (t1 t2 t3:Tok) (hn9:Nat) (led3:Led),LM m3 nl z wk lo hi→m3 "head" = some (.ref hd)→m3 "x" = some vx→m3 "i" = some (.int (i:Int) t)→(hd,aS [.bytes u t1,.int (0 - (q:Int)) t2,.int (0 - (kd:Int)) t3] hn9)∈led3→u.size≤8→1≤q→q≤3→kd≤2→(∀ p∈((I,o)::(cs'++((el,listOf ws n)::D')):Led),p∈led3)→∀ {st:Stmt},st = lawBody 8 3→Lx w (FL a ccd) (bL A₀ base h₀ L mg mb mean) (execs [st] (evx (FL a ccd) (bL A₀ base h₀ L mg mb mean))) Φ m3 led3:=by
  intro m3 hd u q kd t1 t2 t3 hn9 led3 lm e1 e2 e3 hh hu hq1 hq3 hkd hsub st hst
  subst hst
  conv in (lawBody _ _)=>whnf
  have c0:=Int.fmod_nonneg_of_pos (y.fdiv 63) (b:=3) (by decide)
  have c1:=Int.fmod_lt_of_pos (y.fdiv 63) (b:=3) (by decide)
  refine aO (lx_appendV (l:=el) (items:=ws) (n:=n) (a7 (i:=1) hc' hv (fun p hp=>hsub p (hcl p hp)) (by decide) rfl rfl rfl rfl) (hsub _ hLl) ((lx_addT (P:=fun zs=>∃ t4 t5,zs = [.bytes u t1,.int (0 - (q:Int)) t2,.int (0 - (kd:Int)) t3,.int ((y.fdiv 63).fmod 3) t4,.int (i:Int) t5]) (af e1 rfl rfl rfl) hh (aU (P2:=IsI (i:Int)) (cj (cq (ac ⟨_,e2,hy⟩ rfl rfl rfl) ab (by decide) (by decide)) ab (by decide)) (ac ⟨_,e3,_,rfl⟩ rfl rfl rfl) rfl rfl) (fun ws h=>?_) (List.cons_ne_nil _ _)).mono fun v m' led' h=>?_) rfl rfl) rfl rfl
  ·obtain ⟨_,_,rfl,⟨t4,rfl⟩,⟨t5,rfl⟩⟩:=h
   exact ⟨List.cons_ne_nil _ _,by show 5≤1000;decide,t4,t5,rfl⟩
  ·obtain ⟨D1,D2,ws9,zs,⟨t4,t5,rfl⟩,g1,g2⟩:=h
   generalize hcc:(y.fdiv 63).fmod 3 = cc at c0 c1
   obtain ⟨cc,rfl⟩:=Int.eq_ofNat_of_zero_le c0
   have gt:∀ p∈((I,o)::(cs'++((el,listOf ws n)::D')):Led),@LT.lt Nat _ p.1 D2:=fun p hp=>Nat.lt_trans (g1 p (hsub p hp)) g2
   have hI:∀ p∈cs'++((el,listOf ws n)::D'),p.1≠I:=hne
   refine .mk ws n ((D2,aS [.bytes u t1,.int (0 - (q:Int)) t2,.int (0 - (kd:Int)) t3,.int (cc:Int) t4,.int (i:Int) t5] 0)::(I,o)::(cs'++D')) (fun p hp=>?_) (fun p hp=>?_) (by omega) (ae (hΦ .next _ (cs'++((el,listOf (ws.push (.ref D2)) (n + 1))::(D2,aS [.bytes u t1,.int (0 - (q:Int)) t2,.int (0 - (kd:Int)) t3,.int (cc:Int) t4,.int (i:Int) t5] 0)::D')) _ (.inl rfl) (.mk _ _ _ _ _ _ lm hc' ?_ ?_ (fun p hp=>.tail _ (hs' p hp)) (Ents8.push (e:=⟨u,q,kd,cc,i⟩) he' ⟨hu,hq1,hq3,hkd,by show cc < 3;omega,hi9⟩ rfl)) (fun p hp=>?_) (.tail _ (.tail _ (.head _))) fun p hp=>?_))
   ·fail "c"
    ·exact .tail _ (.tail _ (hsub _ hLl))
    ·fail "c"
     ·exact .head _
     ·fail "c"
      ·exact .tail _ (.tail _ (hsub _ (.head _)))
      ·fail "a"
       ·exact .tail _ (.tail _ (hsub _ (hcl p hp)))
       ·exact .tail _ (.tail _ (hsub _ (hDl p hp)))
   ·fail "c"
    ·exact (Nat.ne_of_lt (gt _ hLl)).symm
    ·fail "c"
     ·exact fun e=>hI _ (aR (.head _)) e.symm
     ·fail "a"
      ·exact fun e=>ba.off hD' hc' _ (.head _) p hp e
      ·exact hel' p hp
   ·have hD3:ba L D':=hD'.sub fun p hp=>.tail _ hp
    have hD4:ba L ((D2,aS [.bytes u t1,.int (0 - (q:Int)) t2,.int (0 - (kd:Int)) t3,.int (cc:Int) t4,.int (i:Int) t5] 0)::D'):=hD3.cons (hc'.fresh fun p hp=>Nat.ne_of_lt (gt p (hcl p hp)))
    exact hD4.cons (hD' _ (.head _))
   ·intro p hp
    fail "c"
    ·exact (Nat.ne_of_lt (gt _ hLl)).symm
    ·exact hel' p hp
   ·fail "a"
    ·exact .tail _ (.tail _ (.tail _ (aL hp)))
    ·fail "c"
     ·exact .head _
     ·fail "c"
      ·exact .tail _ (.head _)
      ·exact .tail _ (.tail _ (.tail _ (aR hp)))
   ·fail "a"
    ·exact hI p (aL hp)
    ·fail "c"
     ·exact hI (el,listOf ws n) (aR (.head _))
     ·fail "c"
      ·exact (Nat.ne_of_lt (gt _ (.head _))).symm
      ·exact hI p (aR (.tail _ hp))
 have d0:=Int.fmod_nonneg_of_pos (y.fdiv 3) (b:=3) (by decide)
 have d1:=Int.fmod_lt_of_pos (y.fdiv 3) (b:=3) (by decide)
 refine aj (aM (lx_tup (bv (P:=UsrV) (px_tab ok (ao ok nofun rfl rfl rfl) (users_c (D:=0)) (fun O=>cj (ac ⟨_,rfl,hy⟩ rfl rfl rfl) ab (by decide)) (Int.fmod_nonneg_of_pos _ (by decide)) (Int.fmod_lt_of_pos _ (by decide)) (by decide) rfl (by decide) nofun rfl fun O O=>nofun)
  (bv (P:=IsI (0 - 1 - (y.fdiv 3).fmod 3)) (bq (bq ab ab) (cj (cq (ac ⟨_,rfl,hy⟩ rfl rfl rfl) ab (by decide) (by decide)) ab (by decide)))
  (bv (P:=fun v=>∃ q:Nat,q≤2∧IsI (0 - (q:Int)) v) (aG ab (px_tab ok (ao ok nofun rfl rfl rfl) (kinds_c (D:=0)) (fun O=>cj (cq (ac ⟨_,rfl,hy⟩ rfl rfl rfl) ab (by decide) (by decide)) ab (by decide)) (Int.fmod_nonneg_of_pos _ (by decide)) (Int.fmod_lt_of_pos _ (by decide)) (by decide) rfl (by decide) nofun rfl fun O O=>nofun) fun u v hu hv s Q E f N q=>by
    obtain ⟨t,rfl⟩:=hu;obtain ⟨sq,t',rfl,hsq⟩:=hv;exact sub_int (q _ s.heap _ ⟨sq,hsq,_,rfl⟩ f N)) px_cn0 rfl) rfl) rfl) (fun vs h=>?_) fun vs hd h hlt=>?_) rfl rfl rfl)
 ·obtain ⟨_,_,-,_,_,-,_,_,-,rfl⟩:=h
  show 3≤1000
  decide
 obtain ⟨_,_,⟨u,t1,rfl,hu⟩,_,_,⟨t2,rfl⟩,_,_,⟨kd,hkd,t3,rfl⟩,rfl⟩:=h
 generalize hqq:(y.fdiv 3).fmod 3 = qq at d0 d1
 obtain ⟨qq,rfl⟩:=Int.eq_ofNat_of_zero_le d0
 rw [show (0 - 1 - ((qq:Nat):Int):Int) = 0 - ((qq + 1:Nat):Int) by omega] at *
 have hm3:LM (ms (ms (ms m₁ "i" (.int (i:Int) t)) "x" vx) "head" (.ref hd)) nl z wk lo hi:=hm2.set rfl rfl rfl rfl rfl
 refine aj (cN (ck (cS (ac ⟨_,rfl,_,rfl⟩ rfl rfl rfl) ab rfl) fun O=>bn (cj (cq (ac ⟨_,rfl,hy⟩ rfl rfl rfl) ab (by decide) (by decide)) ab (by decide)) ab rfl) (fun h=>?_) fun O=>ae (after _ hd u (qq + 1) kd t1 t2 t3 0 _ hm3 rfl rfl rfl (.head _) hu (by omega) (by omega) hkd (fun p hp=>.tail _ hp) rfl))
 rw [Bool.and_eq_true,decide_eq_true_eq] at h
 have hi0:0 < i:=by omega
 obtain ⟨e9,he9⟩:∃ e,ents[i - 1]? = some e:=⟨_,List.getElem?_eq_getElem (by omega)⟩
 obtain ⟨aa,y1,y2,y3,y4,y5,kx,hv9,hxm⟩:=he'.inn.at' (i - 1) e9 he9
 have ok9:=he'.ok e9 (List.mem_of_getElem? he9)
 refine bo (aM ((lx_cutG (zs:=[.bytes e9.u y1,.int (0 - (e9.q:Int)) y2,.int (0 - (e9.k:Int)) y3]) (aK (k:=(i:Int) - 1) (a7 (i:=1) hc' hv (fun p hp=>.tail _ (hcl p hp)) (by decide) rfl rfl rfl rfl) (bq (ac ⟨_,rfl,_,rfl⟩ rfl rfl rfl) ab) (.tail _ hLl) (by omega) (by omega) (by rw [show ((i:Int) - 1).toNat = i - 1 from Int.pred_toNat (i:Int)];exact hv9) fun O=>nofun) ab (.tail _ (hDl _ hxm)) (by decide) (by show (3:Int) < 5;decide) (by show 5≤1000;decide) rfl fun O=>nofun).mono fun v m' led' hcut=>?_) rfl rfl rfl)
 obtain ⟨Dc,hltc⟩:=hcut
 exact after _ Dc e9.u e9.q e9.k y1 y2 y3 0 _ (hm3.set rfl rfl rfl rfl rfl) rfl rfl rfl (.head _) ok9.u ok9.q1 ok9.q ok9.k (fun p hp=>.tail _ (.tail _ hp)) rfl
end
noncomputable def en0:En:=⟨#[],0,0,0,0⟩
theorem kinds_en (a b:En):bf a.fd b.fd:=⟨trivial,trivial,trivial,trivial,trivial,trivial⟩
section
variable {prog:Program} {w:World} {A:Around} {E:VS} {s:Shared} {h₀:Heap} {L l:Addr} {m:MM} {news D:Led} {Q:VS}
theorem sorted_ens {vs:Array Value} {n:Nat} {ents:List En} (F:Fr h₀ L s.heap m) (N:News h₀ L s.heap news) (hl:(l,listOf vs n)∈news) (hs:∀ p∈D,p∈news) (he:cU D vs ents) (h5:ents.length = 5) (hd:∀ (j:Nat) e,ents[j]? = some e→e.i = j)
  (k:∀ Dl c h' vs' ents',ents'.length = ents.length→(∀ e∈ents',e∈ents)→ents'.Pairwise (fun a b=>ltL a.fd b.fd = true)→cU D vs' ents'→(∀ q∈news,q.1 < Dl)→Fr h₀ L h' m→News h₀ L h' ((Dl,listOf vs' c)::news)→Q (.ref Dl) { s with heap:=h' }) :
  wpAny (model prog w) A (call (.builtin "sorted") [.ref l]) Q E s:=by
 revert prog w A E s h₀ L l m news D Q vs n ents
 refine no_implicit_lambda% (aW ?_)
 refine no_implicit_lambda% (e16 ?n fun T0=>(?_:bp T0) () _ _ _ _ _ _ _ _ _ _ _ _ _ _ _)
 case n=>fail "n"
 intro O prog w A E s h₀ L l m news D Q vs n ents
 intros
 clear T0
 have hz:=he.size
 have hzl:vs.toList.length = ents.length:=by simpa using hz
 refine sorted_tuples (vs:=vs.toList) F N (by simpa using hl) (by omega) (by omega) (fun i=>(ents.getD i en0).fd) (fun i v hv=>?_) (fun i j O O=>kinds_en _ _) (fun i O=>⟨_,_,rfl⟩) (fun i j hi hj hij e=>?_) fun Dl c h' p p1 p2 p3 p4 F' N'=>?_
 ·have hi:i < vs.toList.length:=(List.getElem?_eq_some_iff.mp hv).1
  have hi2:i < ents.length:=by omega
  obtain ⟨a,t1,t2,t3,t4,t5,k',g1,g2⟩:=he.at' i _ (List.getElem?_eq_getElem hi2)
  have:v = .ref a:=by
   rw [Array.getElem?_toList,g1] at hv
   exact (Option.some.inj hv).symm
  refine ⟨a,_,k',this,hs _ g2,?_⟩
  show db _ (ents.getD i _).fd
  rw [List.getD_eq_getElem?_getD,List.getElem?_eq_getElem hi2]
  exact ⟨⟨_,rfl⟩,⟨_,rfl⟩,⟨_,rfl⟩,⟨_,rfl⟩,⟨_,rfl⟩,trivial⟩
 ·have hi2:i < ents.length:=by omega
  have hj2:j < ents.length:=by omega
  simp only [List.getD_eq_getElem?_getD,List.getElem?_eq_getElem hi2,List.getElem?_eq_getElem hj2,Option.getD_some] at e
  have e1:=hd i _ (List.getElem?_eq_getElem hi2)
  have e2:=hd j _ (List.getElem?_eq_getElem hj2)
  unfold En.fd at e
  injection e with _ e
  injection e with _ e
  injection e with _ e
  injection e with _ e
  injection e with e _
  injection e with e
  omega
 ·refine k Dl c h' (p.map fun i=>vs.toList.getD i .none).toArray (p.map fun i=>ents.getD i en0) (by rw [List.length_map,p1];exact hzl) (fun e hm=>?_) (List.pairwise_map.mpr p3) ⟨by simp,fun i e hi=>?_⟩ p4 F' N'
  ·obtain ⟨i,hi,rfl⟩:=List.mem_map.mp hm
   have hi2:i < ents.length:=by have:=p2 i hi;omega
   simp only [List.getD_eq_getElem?_getD,List.getElem?_eq_getElem hi2,Option.getD_some]
   exact List.getElem_mem hi2
  ·rw [List.getElem?_map] at hi
   obtain ⟨j,hj,rfl⟩:=Option.map_eq_some_iff.mp hi
   have hj2:j < ents.length:=by have:=p2 j (List.mem_of_getElem? hj);omega
   obtain ⟨a,t1,t2,t3,t4,t5,k',g1,g2⟩:=he.at' j _ (List.getElem?_eq_getElem hj2)
   refine ⟨a,t1,t2,t3,t4,t5,k',?_,?_⟩
   ·rw [List.getElem?_toArray,List.getElem?_map,hj]
    show some (vs.toList.getD j .none) = _
    rw [List.getD_eq_getElem?_getD,Array.getElem?_toList,g1]
    rfl
   ·simp only [List.getD_eq_getElem?_getD,List.getElem?_eq_getElem hj2,Option.getD_some]
    exact g2
end
theorem CvL.cel {L:Addr} {v:Nat→Option Value} {is:List Nat} {cs:Led} (h:CvL L v is cs):∀ p∈cs,∃ x,p.2.data = .cell x:=by
 induction h with
 | nil=>exact fun O h=>nomatch h
 | cons i o is cs h t ih =>
  intro p hp
  fail "c"
  ·exact ⟨_,h⟩
  ·exact ih p hp
theorem notCel {L:Addr} {v:Nat→Option Value} {cs A D:Led} {p:Addr × Obj} (hc:C7 L v cs) (hp:p∈A++(cs++D)) (hn:∀ x,p.2.data≠.cell x):p∈A++D:=by
 fail "a"
 ·exact aL hp
 ·fail "a"
  ·obtain ⟨x,hx⟩:=hc.cel p hp
   exact absurd hx (hn x)
  ·exact aR hp
theorem cA.drop {L:Addr} {v:Nat→Option Value} {cs A D:Led} {od:Addr} (h:cA (A++(cs++D)) od) (hc:C7 L v cs):cA (A++D) od:=by
 obtain ⟨duo,uo,dd,hh,tt,n,m1,m2,m3,m4⟩:=h
 exact ⟨duo,uo,dd,hh,tt,n,notCel hc m1 fun x e=>(nomatch e),notCel hc m2 fun x e=>(nomatch e),notCel hc m3 fun x e=>(nomatch e),notCel hc m4 fun x e=>(nomatch e)⟩
structure Srt (D:Led) (vs:Array Value) (ents:List En):Prop where
 inn:cU D vs ents
 eok:bK ents
 len:ents.length = 5
 ok:∀ e∈ents,e.Ok
theorem Srt.mono {D D2:Led} {vs:Array Value} {ents:List En} (h:Srt D vs ents) (hs:∀ p∈D,p∈D2):Srt D2 vs ents:=⟨h.inn.mono hs,h.eok,h.len,h.ok⟩
noncomputable def En.rb (e:En):RowB:=(ikb e.row.1,e.row.2)
theorem byte_i (i:Nat):byteArr [65 + (i:Int)] = #[UInt8.ofNat (65 + i)]:=by
 show #[((65 + (i:Int)).toNat.toUInt8)] = _
 rw [show (65 + (i:Int)).toNat = 65 + i by omega]
section
variable {w:World} {A₀:Around} {base h₀:Heap} {L a:Addr} {ccd:Value} {m mg mb:MM} {mean:ExcName→Option Value} {s:Shared} {D:Led} {Q:FS} {E:VS} {R:List Stmt}
theorem px_cblt {D9:Nat} {F:FnC} {b:Bx} {led:Led} {x:Str} {sc:Scope} {cl:List (Str × Addr)} {C:Addr} {v:Value} {p:Pos} (ok:Okx w D9 b) (e:nsIn (Mine.hd.heap_39 w.params) mainGlobals x = some none) (hv:bootBuiltins x = some v) (hn:x≠"__name__") (hk:(compEnvC sc cl C (evx F b)).scope.kind = .function) (hx:(compEnvC sc cl C (evx F b)).kindOf x = some .globalImplicit) (hd:(x == ("__debug__":Str)) = false) :
  Px w F b (eval (.Name x p) (compEnvC sc cl C (evx F b))) (fun a=>a = v) m led:=fun s Q E f N q=>LCgL.ld_built f ok.X ok.T e hv hn (q _ s.heap s.toks rfl f N) rfl rfl hk hx hd
theorem q9 {el:Addr} {ws:Array Value} {n:Nat} {ents:List En} {v:Nat→Option Value} {cs:Led} (ok:Okx w 100 (bL A₀ base h₀ L mg mb mean)) (hc:C7 L v cs) (hv:v 1 = some (.ref el)) (hD:ba L ((el,listOf ws n)::D)) (he:Ents8 D ws ents 5)
  (k:∀ sl c vs' ents' cs',C7 L (vset v 1 (.ref sl)) cs'→ba L ((sl,listOf vs' c)::D)→Srt D vs' ents'→Ly w (FL a ccd) (bL A₀ base h₀ L mg mb mean) (execs R (evx (FL a ccd) (bL A₀ base h₀ L mg mb mean))) s Q E m (cs'++((sl,listOf vs' c)::D))) :
  Ly w (FL a ccd) (bL A₀ base h₀ L mg mb mean) (execs (lawAt 9::R) (evx (FL a ccd) (bL A₀ base h₀ L mg mb mean))) s Q E m (cs++((el,listOf ws n)::D)):=by
 conv in (lawAt _)=>whnf
 have sub:∀ p∈D,p∈cs++((el,listOf ws n)::D):=fun p hp=>aR (.tail _ hp)
 refine cM (dz (i:=1) (lb1 (ah ok nofun nofun (by decide) rfl rfl rfl) (az (a7 (i:=1) hc hv (fun p hp=>aL hp) (by decide) rfl rfl rfl rfl) rfl) (ar1 <| by
  refine fun s Q E f N q=>sorted_ens f N (aR (.head _)) sub he.inn he.len he.idx fun Dl c h' vs' ents' g1 g2 g3 g4 g5 F' N'=>?_
  have hD2:ba L ((Dl,listOf vs' c)::D):=(hD.sub fun p hp=>.tail _ hp).cons (hc.fresh fun q hq=>Nat.ne_of_lt (g5 q (aL hq)))
  exact q _ m _ h' s.toks (.mk v cs ((Dl,listOf vs' c)::D) hc hD2 (fun p hp=>by
   fail "a"
   ·exact .tail _ (aL hp)
   ·fail "c"
    ·exact .head _
    ·exact .tail _ (sub p hp)) fun cs' hc'=>k Dl c vs' ents' cs' hc' hD2 ⟨g4,⟨g3,fun e h9=>(he.ok e (g2 e h9)).k,fun e h9=>(he.ok e (g2 e h9)).q,fun e h9=>(he.ok e (g2 e h9)).u,by rw [g1,he.len];exact Nat.le_refl _⟩,g1.trans he.len,fun e h9=>he.ok e (g2 e h9)⟩) F' N') rfl rfl rfl) (by decide) rfl rfl rfl rfl)
theorem q10 {v:Nat→Option Value} {cs:Led} (ok:Okx w 100 (bL A₀ base h₀ L mg mb mean)) (hc:C7 L v cs) (hD:ba L D)
  (k:∀ od fp',cA (fp'++D) od→ba L (fp'++D)→Ly w (FL a ccd) (bL A₀ base h₀ L mg mb mean) (execs R (evx (FL a ccd) (bL A₀ base h₀ L mg mb mean))) s Q E (ms m "order" (.ref od)) (cs++(fp'++D))) :
  Ly w (FL a ccd) (bL A₀ base h₀ L mg mb mean) (execs (lawAt 10::R) (evx (FL a ccd) (bL A₀ base h₀ L mg mb mean))) s Q E m (cs++D):=by
 conv in (lawAt _)=>whnf
 exact cM (aM (lf0 (fv:=.ref 284) ok (ao ok nofun rfl rfl rfl) (aX ok rfl (by decide:2≤100) (order_c (D:=0) (rest:=cs++D)) (fun p hp=>hp) fun r fp' h=>by
  obtain ⟨od,_,h,hlt⟩:=h
  exact (k od fp' (h.drop hc) (ba.app (fun p hp=>hc.fresh fun q hq=>Nat.ne_of_lt (hlt p hp q (aL hq))) hD)).sub fun p hp=>by
   fail "a"
   ·exact aR (aL hp)
   ·fail "a"
    ·exact aL hp
    ·exact aR (aR hp)) nofun rfl) rfl rfl rfl)
inductive J11 (L:Addr) (D:Led) (ents:List En) (j:Nat) (ys:List Value) (nw:Led):Prop
 | mk (new:Led) (g1:∀ p∈new,p∈nw) (g3:ba L new) (g4:ys.length = j) (g5:∀ (i:Nat) e,i < j→ents[i]? = some e→∃ a t1 t2 n',ys[i]? = some (.ref a)∧(a,aS [.bytes (ikb e.row.1) t1,.bytes e.row.2 t2] n')∈new):J11 L D ents j ys nw
theorem q11 {sl:Addr} {vs:Array Value} {n:Nat} {ents:List En} {v:Nat→Option Value} {cs:Led} (ok:Okx w 100 (bL A₀ base h₀ L mg mb mean)) (hc:C7 L v cs) (hv:v 1 = some (.ref sl)) (hD:ba L D) (hl:(sl,listOf vs n)∈D) (he:Srt D vs ents)
  (k:∀ fl fvs fn new cs',C7 L (vset v 2 (.ref fl)) cs'→ba L (new++D)→RowsL (new++D) fl (ents.map En.rb) fvs fn→Ly w (FL a ccd) (bL A₀ base h₀ L mg mb mean) (execs R (evx (FL a ccd) (bL A₀ base h₀ L mg mb mean))) s Q E m (cs'++(new++D))) :
  Ly w (FL a ccd) (bL A₀ base h₀ L mg mb mean) (execs (lawAt 11::R) (evx (FL a ccd) (bL A₀ base h₀ L mg mb mean))) s Q E m (cs++D):=by
 conv in (lawAt _)=>whnf
 have hz:=he.inn.size
 have hlen:=he.len
 have sub:∀ p∈D,p∈cs++D:=fun p hp=>aR hp
 refine cM (dz (i:=2) (lx_compU (J:=J11 L D ents) (a7 (i:=1) hc hv (fun p hp=>aL hp) (by decide) rfl rfl rfl rfl) (sub _ hl) (by omega) (.mk [] (fun p hp=>nomatch hp) ba.nil rfl fun i e hi=>absurd hi (Nat.not_lt_zero _)) (fun j v9 ys nw T C hj hP hJ hsub hT hown=>?_) (fun Dl ys nw hJ hsub hne=>?_) nofun (by decide) rfl (by decide) rfl (fun O=>rfl) (fun O=>rfl) rfl (fun O=>rfl)) (by decide) rfl rfl rfl rfl)
 ·obtain ⟨new,g1,g3,g4,g5⟩:=hJ
  obtain ⟨e9,he9⟩:∃ e,ents[j]? = some e:=⟨_,List.getElem?_eq_getElem (by omega)⟩
  obtain ⟨aa,y1,y2,y3,y4,y5,kx,hv9,hxm⟩:=he.inn.at' j e9 he9
  obtain rfl:v9 = .ref aa:=Option.some.inj ((show vs[j]? = some v9 from hP).symm.trans hv9)
  have hxm2:=hT _ (hsub _ (sub _ hxm))
  have ok9:=he.ok e9 (List.mem_of_getElem? he9)
  have u9:=ok9.u
  have i9:=ok9.i
  have it:∀ (k:Int) {v:Value} {slice:Expr} {p1 p2:Pos},0≤k→k < 2 ^ 63→[Value.bytes e9.u y1,.int (0 - (e9.q:Int)) y2,.int (0 - (e9.k:Int)) y3,.int (e9.c:Int) y4,.int (e9.i:Int) y5][k.toNat]? = some v→Px w (FL a ccd) (bL A₀ base h₀ L mg mb mean) (eval slice _) (IsI k) m T→_→Px w (FL a ccd) (bL A₀ base h₀ L mg mb mean) (eval (.Subscript (.Name "entry" p1) slice p2) _) (fun a=>a = v) m T:=fun k {v slice p1 p2} h0 h1 hx hs hh=>bh (k:=k) (hown _ _ fun O h=>h) hs hxm2 h0 h1 hx hh
  refine lx_tup (aU (P:=IsB (ikb ⟨e9.u,e9.q,e9.k⟩)) (P2:=IsB (byteArr [65 + (e9.i:Int)])) (pf1 (fv:=.ref 657) ok (px_cglob ok nofun rfl rfl rfl) (bY (P:=fun a=>a = .bytes e9.u y1) (P2:=IsI e9.q) (P3:=IsI e9.k) (it 0 (by decide) (by decide) rfl ab fun O=>nofun) (Px.mono (bq ab (Px.mono (it 1 (by decide) (by decide) rfl ab fun O=>nofun) isI)) fun v h=>neg2 e9.q ▸ h) (Px.mono (bq ab (Px.mono (it 2 (by decide) (by decide) rfl ab fun O=>nofun) isI)) fun v h=>neg2 e9.k ▸ h) rfl rfl rfl) (fun vs h=>by
   obtain ⟨_,_,_,rfl,rfl,⟨_,rfl⟩,⟨_,rfl⟩⟩:=h
   exact ar ok (lik_c ok9.q ok9.k (by omega)) (fun O O h=>h) (fun O h=>nomatch h) rfl (by decide)) nofun rfl rfl rfl) (px_make (px_cblt ok nofun nofun (by decide) rfl rfl rfl) (dv (cJ ab (Px.mono (it 4 (by decide) (by decide) rfl ab fun O=>nofun) isI)) pi_nil rfl) (fun z hz=>by rw [List.mem_singleton.mp hz];omega) (by show 1≤1000;decide) rfl rfl) rfl rfl) (fun ws h=>?_) fun ws x h hlt=>?_
  ·obtain ⟨_,_,rfl,-,-⟩:=h
   show 2≤1000
   decide
  obtain ⟨_,_,rfl,⟨t8,rfl⟩,⟨t9,rfl⟩⟩:=h
  rw [byte_i]
  refine .mk (.ref x) [_] (fun q hq p hp=>by rw [List.mem_singleton.mp hq];exact Nat.ne_of_lt (hlt p hp)) (.mk ((x,aS [.bytes (ikb ⟨e9.u,e9.q,e9.k⟩) t8,.bytes #[UInt8.ofNat (65 + e9.i)] t9] 0)::new) (fun p hp=>?_) (g3.cons (hc.fresh fun q hq=>Nat.ne_of_lt (hlt q (hT _ (hsub _ (aL hq)))))) (by rw [List.length_append,g4];rfl) fun i e hi hie=>?_)
  ·fail "c"
   ·exact .head _
   ·exact .tail _ (g1 _ hp)
  ·by_cases hij:i < j
   ·obtain ⟨a',s1,s2,n',r1,r2⟩:=g5 i e hij hie
    exact ⟨a',s1,s2,n',by rw [List.getElem?_append_left (by omega)];exact r1,.tail _ r2⟩
   ·have:i = j:=by omega
    subst this
    rw [he9] at hie
    cases hie
    exact ⟨x,t8,t9,0,by rw [List.getElem?_append_right (by omega),g4,Nat.sub_self];rfl,.head _⟩
 ·obtain ⟨new,g1,g3,g4,g5⟩:=hJ
  have hc2:ba L ((Dl,lst ys)::new++D):=ba.app (g3.cons (hc.fresh fun q hq=>hne _ (hsub _ (aL hq)))) hD
  refine .mk v cs ((Dl,lst ys)::new++D) hc hc2 (fun p hp=>?_) fun cs' hc'=>k Dl ys.toArray ys.length ((Dl,lst ys)::new) cs' hc' hc2 ⟨.head _,by simp [g4,hz],by simp;omega,fun i k9 v9 hi=>?_⟩
  ·fail "a"
   ·exact .tail _ (hsub _ (aL hp))
   ·fail "a"
    ·fail "c"
     ·exact .head _
     ·exact .tail _ (g1 _ hp)
    ·exact .tail _ (hsub _ (sub _ hp))
  ·rw [List.getElem?_map] at hi
   obtain ⟨e9,he9,hr9⟩:=Option.map_eq_some_iff.mp hi
   obtain ⟨a',s1,s2,n',r1,r2⟩:=g5 i e9 (by have:=(List.getElem?_eq_some_iff.mp he9).1;omega) he9
   unfold En.rb at hr9
   injection hr9 with h1 h2
   subst h1
   subst h2
   exact ⟨a',s1,s2,n',by simpa using r1,.tail _ (aL r2)⟩
end
abbrev C6 (L:Addr) (v:Nat→Option Value) (cs:Led):Prop:=CvL L v [0,1,2,4,5,6] cs
theorem C7.split {L:Addr} {v:Nat→Option Value} {cs:Led} (h:C7 L v cs):∃ o cs',o.data = .cell (v 3)∧C6 L v cs'∧∀ p∈((L + 1 + 3:Nat),o)::cs',p∈cs:=by
 revert L v cs
 refine no_implicit_lambda% (aW ?_)
 refine no_implicit_lambda% (e4 ?n fun T0=>(?_:bp T0) () _ _ _)
 case n=>fail "n"
 intro O L v cs
 intros
 clear T0
 rcases h with _ | ⟨_,o0,_,cs,h0,h⟩
 rcases h with _ | ⟨_,o1,_,cs,h1,h⟩
 rcases h with _ | ⟨_,o2,_,cs,h2,h⟩
 rcases h with _ | ⟨_,o3,_,cs,h3,h⟩
 refine ⟨o3,_,h3,.cons 0 o0 _ _ h0 (.cons 1 o1 _ _ h1 (.cons 2 o2 _ _ h2 h)),fun p hp=>?_⟩
 simp only [List.mem_cons] at hp ⊢
 rcases hp with h | h | h | h | h
 ·exact .inr (.inr (.inr (.inl h)))
 ·exact .inl h
 ·exact .inr (.inl h)
 ·exact .inr (.inr (.inl h))
 ·exact .inr (.inr (.inr (.inr h)))
theorem C6.join {L:Addr} {v:Nat→Option Value} {cs:Led} {o:Obj} {x:Option Value} (h:C6 L v cs) (ho:o.data = .cell x):∃ cs',C7 L (fun j=>if j = 3 then x else v j) cs'∧∀ p∈cs',p∈((L + 1 + 3:Nat),o)::cs:=by
 revert L v cs o x
 refine no_implicit_lambda% (aW ?_)
 refine no_implicit_lambda% (aW ?_)
 refine no_implicit_lambda% (aW ?_)
 refine no_implicit_lambda% (e8 ?n fun T0=>(?_:bp T0) () () () _ _ _ _ _)
 case n=>fail "n"
 intro O O O L v cs o x
 intros
 clear T0
 rcases h with _ | ⟨_,o0,_,cs,h0,h⟩
 rcases h with _ | ⟨_,o1,_,cs,h1,h⟩
 rcases h with _ | ⟨_,o2,_,cs,h2,h⟩
 refine ⟨_,.cons 0 o0 _ _ h0 (.cons 1 o1 _ _ h1 (.cons 2 o2 _ _ h2 (.cons 3 o _ _ ho (h.congr fun i hi=>?_)))),fun p hp=>?_⟩
 ·show v i = if i = 3 then x else v i
  rw [if_neg]
  rintro rfl
  revert hi
  decide
 ·simp only [List.mem_cons] at hp ⊢
  rcases hp with h | h | h | h | h
  ·exact .inr (.inl h)
  ·exact .inr (.inr (.inl h))
  ·exact .inr (.inr (.inr (.inl h)))
  ·exact .inl h
  ·exact .inr (.inr (.inr (.inr h)))
theorem subR_snoc {l:List En} {e:En} {p:En→Bool}:cf (l++[e]) p = cf l p++if p e = true then [e.row] else []:=by
 unfold cf
 rw [List.filter_append,List.map_append,List.filter_cons,List.filter_nil]
 congr 1
 split <;> rfl
theorem subR_take {ents:List En} {i:Nat} {e:En} {p:En→Bool} (h:ents[i]? = some e):cf (ents.take (i + 1)) p = cf (ents.take i) p++if p e = true then [e.row] else []:=by
 rw [List.take_add_one,h]
 exact subR_snoc
theorem subR_len (ents:List En) (p:En→Bool):(cf ents p).length≤ents.length:=by
 unfold cf
 rw [List.length_map]
 exact List.length_filter_le _ _
theorem En.Ok.row {e:En} (h:e.Ok):e.row.1.Ok:=⟨by show e.q < _;have:=h.q;omega,by show e.k < 256;have:=h.k;omega,by show e.u.size≤1000;have:=h.u;omega⟩
theorem subR_ok {ents:List En} {p:En→Bool} (h:∀ e∈ents,e.Ok):∀ x∈cf ents p,x.1.Ok:=fun x hx=>by
 unfold cf at hx
 obtain ⟨e,he,rfl⟩:=List.mem_map.mp hx
 exact (h e (List.mem_filter.mp he).1).row
theorem subR_sorted {ents:List En} {p:En→Bool} (h:bK ents):(cf ents p).Pairwise fun a b=>aV a.1 b.1≤0:=by
 have:=h.sortR
 unfold SortedR at this
 unfold cf
 exact this.sublist (List.Sublist.map _ List.filter_sublist)
inductive J13c (ents:List En) (j:Nat) (D:Led) (i:Nat) (ys:List Value) (nw:Led):Prop
 | mk (g2:ys.length = (cf (ents.take i) fun e=>e.c == j).length) (g3:∀ (p:Nat) (k:IK) (v:Array UInt8),(cf (ents.take i) fun e=>e.c == j)[p]? = some (k,v)→∃ a t1 t2 n,ys[p]? = some (.ref a)∧(a,aS [.bytes (ikb k) t1,.bytes v t2] n)∈D):J13c ents j D i ys nw
inductive LeafN (tl:Led) (od:Addr) (k:KS):Prop
 | mk (dx r:Addr) (mvs:Array Value) (n:Nat) (q:LP) (t:Tok) (hf:k.fp = [(dx,LD q r od (-1) t)]) (hl:bG tl k.c dx od r mvs n k.R) (hs:k.R.Pairwise fun a b=>aV a.1 b.1≤0) (hk:k.kd = false) (ht:k.st = none):LeafN tl od k
theorem LeafN.mono {w:World} {tl tl2:Led} {od:Addr} {k:KS} (h:LeafN tl od k) (hs:∀ p∈tl,p∈tl2):LeafN tl2 od k:=by
 obtain ⟨dx,r,mvs,n,q,t,hf,hl,hs2,hk,ht⟩:=h
 exact ⟨dx,r,mvs,n,q,t,hf,⟨hs _ hl.inst,hs _ hl.lst,hl.len,fun i k v hi=>by obtain ⟨a,t1,t2,n,h1,h2⟩:=hl.row i k v hi;exact ⟨a,t1,t2,n,h1,hs _ h2⟩,hl.ok,hl.small,hl.ord.mono hs⟩,hs2,hk,ht⟩
theorem LeafN.leaf {tl:Led} {od:Addr} {k:KS} (h:LeafN tl od k):dr k.fp tl k.c false k.R k.st:=by
 obtain ⟨dx,r,mvs,n,q,t,hf,hl,hs2,hk,ht⟩:=h
 rw [hf,ht]
 refine .mk dx od r mvs n q (-1) t hl hs2 ?_
 unfold d8
 rw [if_neg (by omega)]
theorem kfps_snoc (ks:List KS) (k:KS):aC (ks++[k]) = aC ks++k.fp:=by simp [aC]
structure P13 (L:Addr) (D:Led) (pl od:Addr) (ents:List En) (j:Nat) (pvs:Array Value) (tl:Led) (ks:List KS):Prop where
 sub:∀ p∈D,p∈tl
 npl:∀ p∈aC ks++tl,@Ne Nat p.1 pl
 offC:ba L (aC ks++tl)
 len:ks.length = j
 size:pvs.size = j
 kid:∀ (i:Nat) k,ks[i]? = some k→pvs[i]? = some (.ref k.c)∧k.R = cf ents fun e=>e.c == i
 cur:∀ k∈ks,LeafN tl od k
 apart:ks.Pairwise fun a b=>Off a.fp b.fp
 offk:Off (aC ks) tl
theorem P13.start {L:Addr} {D:Led} {pl od:Addr} {ents:List En} (h:∀ p∈D,@Ne Nat p.1 pl) (hD:ba L D):P13 L D pl od ents 0 #[] D [] :=
 ⟨fun p hp=>hp,h,hD,rfl,rfl,fun i k hk=>by simp at hk,fun k hk=>(nomatch hk),.nil,fun p hp=>(nomatch hp)⟩
theorem P13.more {L:Addr} {D tl:Led} {pl od:Addr} {ents:List En} {j:Nat} {pvs:Array Value} {ks:List KS} {w:World} (h:P13 L D pl od ents j pvs tl ks) {x dx rl:Addr} {q:LP} {t:Tok} {mvs:Array Value} {n:Nat} {R:List Row} (hR:R = cf ents fun e=>e.c == j)
  (hl:bG ((x,instObj 380 dx)::(rl,listOf mvs n)::tl) x dx od rl mvs n R) (hs:R.Pairwise fun a b=>aV a.1 b.1≤0)
  (h1:@Ne Nat x dx) (h2:@Ne Nat rl x) (h3:@Ne Nat rl dx) (px:@Ne Nat x pl) (pd:@Ne Nat dx pl) (pr:@Ne Nat rl pl) (cx:∀ i∈[0,1,2,3,4,5,6],@Ne Nat x (L + 1 + i)) (cd:∀ i∈[0,1,2,3,4,5,6],@Ne Nat dx (L + 1 + i)) (cr:∀ i∈[0,1,2,3,4,5,6],@Ne Nat rl (L + 1 + i))
  (gx:∀ p∈aC ks++tl,@Ne Nat p.1 x∧@Ne Nat p.1 dx) (gr:∀ p∈aC ks++tl,@Ne Nat p.1 rl) :
  P13 L D pl od ents (j + 1) (pvs.push (.ref x)) ((x,instObj 380 dx)::(rl,listOf mvs n)::tl) (ks++[⟨x,false,R,[(dx,LD q rl od (-1) t)],none⟩]):=by
 have new:∀ p∈aC (ks++[⟨x,false,R,[(dx,LD q rl od (-1) t)],none⟩])++((x,instObj 380 dx)::(rl,listOf mvs n)::tl),p.1 = dx ∨ p.1 = x ∨ p.1 = rl ∨ p∈aC ks++tl:=fun p hp=>by
  rw [kfps_snoc] at hp
  fail "a"
  ·fail "a"
   ·exact .inr (.inr (.inr (aL hp)))
   ·rw [List.mem_singleton.mp hp];exact .inl rfl
  ·fail "c"
   ·exact .inr (.inl rfl)
   ·fail "c"
    ·exact .inr (.inr (.inl rfl))
    ·exact .inr (.inr (.inr (aR hp)))
 have sub:∀ p∈tl,p∈((x,instObj 380 dx)::(rl,listOf mvs n)::tl:Led):=fun p hp=>.tail _ (.tail _ hp)
 refine ⟨fun p hp=>sub p (h.sub p hp),fun p hp=>?_,fun p hp=>?_,by simp [h.len],by simp [h.size],fun i k hk=>?_,fun k hk=>?_,?_,fun p hp p' hp'=>?_⟩
 ·rcases new p hp with e | e | e | e
  ·rw [e];exact pd
  ·rw [e];exact px
  ·rw [e];exact pr
  ·exact h.npl p e
 ·rcases new p hp with e | e | e | e
  ·rw [e];exact cd
  ·rw [e];exact cx
  ·rw [e];exact cr
  ·exact h.offC p e
 ·by_cases hi:i < ks.length
  ·rw [List.getElem?_append_left hi] at hk
   obtain ⟨g1,g2⟩:=h.kid i k hk
   refine ⟨?_,g2⟩
   have hlt:i < pvs.size:=by rw [h.size,← h.len];exact hi
   rw [Array.getElem?_push_lt hlt,← g1,Array.getElem?_eq_getElem hlt]
  ·rw [List.getElem?_append_right (by omega)] at hk
   have h0:i - ks.length = 0:=by
    by_cases h0:i - ks.length = 0
    ·exact h0
    ·rw [List.getElem?_eq_none (by simp;omega)] at hk;cases hk
   rw [h0] at hk
   cases hk
   have:i = j:=by have:=h.len;omega
   subst this
   exact ⟨by rw [← h.size];simp,hR⟩
 ·rcases List.mem_append.mp hk with hk | hk
  ·exact (h.cur k hk).mono (w:=w) sub
  ·rw [List.mem_singleton.mp hk]
   exact .mk dx rl mvs n q t rfl hl hs rfl rfl
 ·rw [List.pairwise_append]
  refine ⟨h.apart,List.pairwise_singleton _ _,fun a ha b hb=>?_⟩
  rw [List.mem_singleton.mp hb]
  intro p hp p' hp'
  rw [List.mem_singleton.mp hp']
  exact fun e=>(gx p (aL (bS ha p hp))).2 e.symm
 ·rw [kfps_snoc] at hp
  fail "a"
  ·rcases List.mem_cons.mp hp' with rfl | hp'
   ·exact fun e=>(gx p (aL hp)).1 e.symm
   ·rcases List.mem_cons.mp hp' with rfl | hp'
    ·exact fun e=>gr p (aL hp) e.symm
    ·exact h.offk p hp p' hp'
  ·rw [List.mem_singleton.mp hp]
   rcases List.mem_cons.mp hp' with rfl | hp'
   ·exact h1
   ·rcases List.mem_cons.mp hp' with rfl | hp'
    ·exact h3
    ·exact (gx p' (aR hp')).2
inductive J13 (m:MM) (L:Addr) (v:Nat→Option Value) (D:Led) (pl od:Addr) (ents:List En) (j:Nat):MM→Led→Prop
 | mk (pvs:Array Value) (np:Nat) (cs tl:Led) (ks:List KS) (hc:C6 L v cs) (hp:∀ p∈cs,@Ne Nat p.1 pl) (P:P13 L D pl od ents j pvs tl ks):J13 m L v D pl od ents j m ((pl,listOf pvs np)::(aC ks++(cs++tl)))
section
variable {w:World} {A₀:Around} {base h₀:Heap} {L a:Addr} {ccd:Value} {m mg mb:MM} {mean:ExcName→Option Value} {s:Shared} {D:Led} {Q:FS} {E:VS} {R:List Stmt}
theorem q12 {sl fl od:Addr} {vs fvs:Array Value} {n fn:Nat} {ents:List En} {v:Nat→Option Value} {cs:Led} (ok:Okx w 100 (bL A₀ base h₀ L mg mb mean)) (hc:C7 L v cs) (hv1:v 1 = some (.ref sl)) (hv2:v 2 = some (.ref fl)) (hD:ba L D) (hl:(sl,listOf vs n)∈D) (he:Srt D vs ents) (hf:RowsL D fl (ents.map En.rb) fvs fn) (hO:cA D od) (e3:m "order" = some (.ref od))
  (k:∀ pl pvs np cs' v' tl ks,C7 L v' cs'→v' 0 = v 0→v' 1 = v 1→v' 2 = v 2→P13 L D pl od ents 3 pvs tl ks→ba L ((pl,listOf pvs np)::(aC ks++tl))→Ly w (FL a ccd) (bL A₀ base h₀ L mg mb mean) (execs R (evx (FL a ccd) (bL A₀ base h₀ L mg mb mean))) s Q E (ms m "leaves" (.ref pl)) (cs'++((pl,listOf pvs np)::(aC ks++tl)))) :
  Ly w (FL a ccd) (bL A₀ base h₀ L mg mb mean) (execs (lawAt 12::lawAt 13::R) (evx (FL a ccd) (bL A₀ base h₀ L mg mb mean))) s Q E m (cs++D):=by
 revert w A₀ base h₀ L a ccd m mg mb mean s D Q E R sl fl od vs fvs n fn ents v cs
 refine no_implicit_lambda% (aW ?_)
 refine no_implicit_lambda% (aW ?_)
 refine no_implicit_lambda% (e28 ?n fun T0=>(?_:bp T0) () () _ _ _ _ _ _ _ _ _ _ _ _ _ _ _ _ _ _ _ _ _ _ _ _ _ _)
 case n=>fail "n"
 intro O O w A₀ base h₀ L a ccd m mg mb mean s D Q E R sl fl od vs fvs n fn ents v cs
 intros
 clear T0
 conv in (lawAt _)=>whnf
 conv in (lawAt _)=>whnf
 refine cM (aM (dO fun pl hlt=>?_) rfl rfl rfl)
 obtain ⟨o3,cs6,h3,hc6,hs6⟩:=hc.split
 have npc:∀ p∈cs,@Ne Nat p.1 pl:=fun p hp=>Nat.ne_of_lt (hlt p (aL hp))
 have npd:∀ p∈D,@Ne Nat p.1 pl:=fun p hp=>Nat.ne_of_lt (hlt p (aR hp))
 have plC:=hc.fresh npc
 have hfl:=hf.lst
 have hfz:=hf.size
 rw [List.length_map] at hfz
 have hez:=he.inn.size
 have hlen:=he.len
 refine Ly.sub (led':=((L + 1 + 3:Nat),o3)::((pl,listOf #[] 0)::(cs6++D))) (cM (lx_forUpC (n:=3) (ah ok nofun nofun (by decide) rfl rfl rfl) ab (by decide) h3 (fun p hp=>?_) (J13 (ms m "leaves" (.ref pl)) L v D pl od ents) (.mk #[] 0 cs6 D [] hc6 (fun p hp=>npc p (hs6 p (.tail _ hp))) (P13.start npd hD)) (fun j v9 m₁ nw I o oC hj hP hJ hne hcI hoC Φ hΦ hR=>?_) (fun m' led' oc v9 hoc hJ hne=>?_) rfl rfl rfl rfl rfl (fun O=>rfl))) fun p hp=>?_
 ·fail "c"
  ·exact plC 3 (by decide)
  ·fail "a"
   ·obtain ⟨i,hi,e⟩:=hc6.adr p hp
    intro e2
    have e3:L + 1 + i = L + 1 + 3:=e.symm.trans e2
    have:i = 3:=by omega
    subst this
    revert hi
    decide
   ·exact hD p hp 3 (by decide)
 ·obtain ⟨pvs,np,cs',tl,ks,hc',hp',P⟩:=hJ
  obtain ⟨tj,rfl⟩:=hP
  obtain ⟨o1,m1,d1⟩:=hc'.mem 1 (by decide)
  obtain ⟨o2,m2,d2⟩:=hc'.mem 2 (by decide)
  rw [hv1] at d1
  rw [hv2] at d2
  have mC:∀ p∈cs',p∈((I,o)::((L + 1 + 3:Nat),oC)::((pl,listOf pvs np)::(aC ks++(cs'++tl))):Led):=fun p hp=>.tail _ (.tail _ (.tail _ (aR (aL hp))))
  have mT:∀ p∈tl,p∈((I,o)::((L + 1 + 3:Nat),oC)::((pl,listOf pvs np)::(aC ks++(cs'++tl))):Led):=fun p hp=>.tail _ (.tail _ (.tail _ (aR (aR hp))))
  have mK:∀ p∈aC ks,p∈((I,o)::((L + 1 + 3:Nat),oC)::((pl,listOf pvs np)::(aC ks++(cs'++tl))):Led):=fun p hp=>.tail _ (.tail _ (.tail _ (aL hp)))
  have mD:∀ p∈D,p∈((I,o)::((L + 1 + 3:Nat),oC)::((pl,listOf pvs np)::(aC ks++(cs'++tl))):Led):=fun p hp=>mT p (P.sub p hp)
  refine aO (lx_appendV (l:=pl) (items:=pvs) (n:=np) decl_name% (.tail _ (.tail _ (.head _))) (lfL ok (ao ok nofun rfl rfl rfl) (bT (lx_compR (n:=5) (J:=J13c ents j D) (ah ok nofun nofun (by decide) rfl rfl rfl) ab (by decide) (.mk rfl fun p k v hp=>by simp [cf] at hp) (fun i v ys nw T C hi hP hJ hsub hT hown=>?_) (fun rl ys nw hJ hsub hne2=>?_) nofun (by decide) rfl (by decide) rfl (fun O=>rfl) (fun O=>rfl) rfl (fun O=>rfl) rfl rfl) rfl) nofun rfl rfl rfl) rfl rfl) rfl rfl
  ·obtain ⟨g2,g3⟩:=hJ
   obtain ⟨e9,he9⟩:∃ e,ents[i]? = some e:=⟨_,List.getElem?_eq_getElem (by omega)⟩
   obtain ⟨aa,y1,y2,y3,y4,y5,kx,hv,hxm⟩:=he.inn.at' i e9 he9
   obtain ⟨fa,s1,s2,fn9,hfv,hfm⟩:=hf.row i (ikb e9.row.1) e9.row.2 (by rw [List.getElem?_map,he9];rfl)
   have up:∀ p∈((I,o)::((L + 1 + 3:Nat),oC)::((pl,listOf pvs np)::(aC ks++(cs'++tl))):Led),p∈T:=fun p hp=>hT p (hsub p hp)
   have hvar:∀ {p},Px w (FL a ccd) (bL A₀ base h₀ L mg mb mean) (eval (.Name "i" p) _) (IsI (i:Int)) _ T:=fun {p}=>Px.mono (hown T p fun O h=>h) fun a h=>h ▸ hP
   refine .mk ((e9.c:Int) == (j:Int)) (bn (Px.mono (bh (k:=3) (aK (k:=(i:Int)) (cD (up _ (mC _ m1)) d1 rfl rfl rfl rfl) hvar (up _ (mD _ hl)) (by omega) (by omega) hv fun O=>nofun) ab (up _ (mD _ hxm)) (by decide) (by decide) rfl fun O=>nofun) isI) (Px.mono (cD (up _ (.tail _ (.head _))) hoC rfl rfl rfl rfl) isI) rfl) (fun hcc=>(aK (k:=(i:Int)) (cD (up _ (mC _ m2)) d2 rfl rfl rfl rfl) hvar (up _ (mD _ hfl)) (by omega) (by omega) hfv fun O=>nofun).lx fun a ha=>?_) fun hcc=>?_
   ·subst ha
    have hc':e9.c = j:=by rw [beq_iff_eq] at hcc;omega
    have r1:=subR_take (p:=fun e=>e.c == j) he9
    rw [if_pos (by rw [hc'];exact beq_self_eq_true j)] at r1
    refine EltP.mk (.ref fa) [] (fun O h=>nomatch h) (.mk (by rw [r1,List.length_append,List.length_append,g2];rfl) fun p k v hp=>?_)
    rw [r1] at hp
    by_cases hlt:p < (cf (ents.take i) fun e=>e.c == j).length
    ·rw [List.getElem?_append_left hlt] at hp
     obtain ⟨a',q1,q2,qn,h1,h2⟩:=g3 p k v hp
     exact ⟨a',q1,q2,qn,by rw [List.getElem?_append_left (by rw [g2];exact hlt)];exact h1,h2⟩
    ·have hp0:p = (cf (ents.take i) fun e=>e.c == j).length:=by
      have:=(List.getElem?_eq_some_iff.mp hp).1
      rw [List.length_append] at this
      simp only [List.length_cons,List.length_nil] at this
      omega
     rw [List.getElem?_append_right (by omega),hp0,Nat.sub_self] at hp
     have hp':e9.row = (k,v):=Option.some.inj hp
     rw [hp'] at hfm
     refine ⟨fa,s1,s2,fn9,?_,hfm⟩
     rw [hp0,List.getElem?_append_right (by rw [g2];exact Nat.le_refl _),g2,Nat.sub_self]
     rfl
   ·have hc':¬ e9.c = j:=fun e=>by rw [e] at hcc;simp at hcc
    have r1:=subR_take (p:=fun e=>e.c == j) he9
    rw [if_neg (by rw [beq_iff_eq];exact hc'),List.append_nil] at r1
    exact .mk (by rw [r1];exact g2) (by rw [r1];exact g3)
  ·obtain ⟨g2,g3⟩:=hJ
   have hall:ents.take 5 = ents:=List.take_of_length_le (by omega)
   rw [hall] at g2 g3
   refine dR (af (aq rfl e3) rfl rfl rfl) (ce ?_) rfl
   refine aX ok rfl (by decide:2≤100) (linit_c (D:=0)) (fun p hp=>hp) fun r fp' h=>?_
   obtain ⟨x,dx,q,t,hnx,hoff⟩:=h
   have f1:∀ p∈((I,o)::((L + 1 + 3:Nat),oC)::((pl,listOf pvs np)::(aC ks++(cs'++tl))):Led),@Ne Nat p.1 rl:=fun p hp=>hne2 p (hsub p hp)
   have f2:∀ p∈((I,o)::((L + 1 + 3:Nat),oC)::((pl,listOf pvs np)::(aC ks++(cs'++tl))):Led),@Ne Nat p.1 x∧@Ne Nat p.1 dx:=fun p hp=>hoff p (.tail _ (hsub p hp))
   have fr:=hoff _ (.head _)
   have cel:∀ {b:Addr},(∀ p∈((I,o)::((L + 1 + 3:Nat),oC)::((pl,listOf pvs np)::(aC ks++(cs'++tl))):Led),@Ne Nat p.1 b)→∀ i∈[0,1,2,3,4,5,6],@Ne Nat b (L + 1 + i):=fun {b} hb i hi e=>by
    by_cases h9:i = 3
    ·subst h9;exact hb _ (.tail _ (.head _)) e.symm
    ·obtain ⟨o9,m9,-⟩:=hc'.mem i (by simp only [List.mem_cons,List.not_mem_nil,or_false] at hi ⊢;omega)
     exact hb _ (mC _ m9) e.symm
   have hpp:=P.npl
   have hxp:@Ne Nat x pl:=fun e=>(f2 _ (.tail _ (.tail _ (.head _)))).1 e.symm
   have hdp:@Ne Nat dx pl:=fun e=>(f2 _ (.tail _ (.tail _ (.head _)))).2 e.symm
   have hrp:@Ne Nat rl pl:=fun e=>f1 _ (.tail _ (.tail _ (.head _))) e.symm
   have hIp:@Ne Nat I pl:=fun e=>(hne _ (.head _)).1 e.symm
   have P2:=P.more (w:=w) (x:=x) (dx:=dx) (rl:=rl) (q:=q) (t:=t) (mvs:=ys.toArray) (n:=ys.length) rfl ⟨.head _,.tail _ (.head _),by rw [List.size_toArray];exact g2,fun i k v hi=>by
    obtain ⟨a',s1,s2,n9,h1,h2⟩:=g3 i k v hi
    exact ⟨a',s1,s2,n9,by simpa using h1,.tail _ (.tail _ (P.sub _ h2))⟩,subR_ok he.ok,by have:=subR_len ents fun e=>e.c == j;omega,hO.mono fun p hp=>.tail _ (.tail _ (P.sub p hp))⟩ (subR_sorted he.eok) hnx fr.1 fr.2 hxp hdp hrp (cel fun p hp=>(f2 p hp).1) (cel fun p hp=>(f2 p hp).2) (cel f1) (fun p hp=>f2 p ((List.mem_append.mp hp).elim (mK p) (mT p))) (fun p hp=>f1 p ((List.mem_append.mp hp).elim (mK p) (mT p)))
   refine .mk pvs np ((x,instObj 380 dx)::(dx,LD q rl od (-1) t)::(rl,lst ys)::(I,o)::((L + 1 + 3:Nat),oC)::(aC ks++(cs'++tl))) (fun p hp=>?_) (fun p hp=>?_) (by rw [P.size];omega) (ae (hΦ .next _ _ (.inl rfl) (.mk ((pl,listOf (pvs.push (.ref x)) (np + 1))::(aC (ks++[⟨x,false,cf ents fun e=>e.c == j,[(dx,LD q rl od (-1) t)],none⟩])++(cs'++((x,instObj 380 dx)::(rl,lst ys)::tl)))) oC _ (.mk _ _ _ _ _ hc' hp' P2) (.tail _ (.tail _ (.tail _ (.tail _ (.head _))))) (.tail _ (.tail _ (.tail _ (.tail _ (.tail _ (.head _)))))) hoC (fun p hp=>?_) fun p hp=>?_)))
   ·fail "c"
    ·exact .tail _ (.tail _ (.tail _ (hsub _ (.tail _ (.tail _ (.head _))))))
    ·fail "c"
     ·exact .head _
     ·fail "c"
      ·exact .tail _ (.head _)
      ·fail "c"
       ·exact .tail _ (.tail _ (.head _))
       ·refine .tail _ (.tail _ (.tail _ (hsub _ ?_)))
        fail "c"
        ·exact .head _
        ·fail "c"
         ·exact .tail _ (.head _)
         ·exact .tail _ (.tail _ (.tail _ hp))
   ·fail "c"
    ·exact hxp
    ·fail "c"
     ·exact hdp
     ·fail "c"
      ·exact hrp
      ·fail "c"
       ·exact hIp
       ·fail "c"
        ·exact fun e=>plC 3 (by decide) e.symm
        ·fail "a"
         ·exact hpp p (aL hp)
         ·fail "a"
          ·exact hp' p hp
          ·exact hpp p (aR hp)
   ·fail "c"
    ·exact .head _
    ·rw [kfps_snoc] at hp
     fail "a"
     ·fail "a"
      ·exact .tail _ (.tail _ (.tail _ (.tail _ (.tail _ (.tail _ (aL hp))))))
      ·rw [List.mem_singleton.mp hp]
       exact .tail _ (.tail _ (.head _))
     ·fail "a"
      ·exact .tail _ (.tail _ (.tail _ (.tail _ (.tail _ (.tail _ (aR (aL hp)))))))
      ·fail "c"
       ·exact .tail _ (.head _)
       ·fail "c"
        ·exact .tail _ (.tail _ (.tail _ (.head _)))
        ·exact .tail _ (.tail _ (.tail _ (.tail _ (.tail _ (.tail _ (aR (aR hp)))))))
   ·fail "c"
    ·exact ⟨fun e=>hIp e.symm,plC 3 (by decide)⟩
    ·have P2c:=P2.offC
     fail "a"
     ·refine ⟨?_,P2c p (aL hp) 3 (by decide)⟩
      rw [kfps_snoc] at hp
      fail "a"
      ·exact (hne p (.tail _ (aL hp))).1
      ·rw [List.mem_singleton.mp hp]
       exact fun e=>(f2 _ (.head _)).2 e.symm
     ·fail "a"
      ·exact hne p (.tail _ (aR (aL hp)))
      ·refine ⟨?_,P2c p (aR hp) 3 (by decide)⟩
       fail "c"
       ·exact fun e=>(f2 _ (.head _)).1 e.symm
       ·fail "c"
        ·exact fun e=>f1 _ (.head _) e.symm
        ·exact (hne p (.tail _ (aR (aR hp)))).1
 ·obtain ⟨pvs,np,cs',tl,ks,hc',hp',P⟩:=hJ
  obtain ⟨cs7,hc7,hs7⟩:=hc'.join hoc
  refine (k pl pvs np cs7 _ tl ks hc7 rfl rfl rfl P (P.offC.cons plC)).sub fun p hp=>?_
  fail "a"
  ·rcases List.mem_cons.mp (hs7 p hp) with rfl | hp
   ·exact .head _
   ·exact .tail _ (.tail _ (aR (aL hp)))
  ·fail "c"
   ·exact .tail _ (.head _)
   ·fail "a"
    ·exact .tail _ (.tail _ (aL hp))
    ·exact .tail _ (.tail _ (aR (aR hp)))
 ·fail "c"
  ·exact .tail _ (aL (hs6 _ (.head _)))
  ·fail "c"
   ·exact .head _
   ·fail "a"
    ·exact .tail _ (aL (hs6 _ (.tail _ hp)))
    ·exact .tail _ (aR hp)
end
section
variable {w:World} {F:FnC} {b:Bx} {m:MM} {led:Led} {φ:FP} {x:Str} {pos:Pos}
theorem lx_forL {px:Pos} {body:List Stmt} {it:Expr} {l:Addr} {items:Array Value} {n:Nat} (he:Px w F b (eval it (evx F b)) (fun a=>a = .ref l) m led)
  (J:Nat→MM→Led→Prop) (hl:∀ i m' nw,J i m' nw→(l,listOf items n)∈nw) (hj:J 0 m led)
  (turn:∀ i v m₁ led₁ I o,items[i]? = some v→J i m₁ led₁→(∀ p∈led₁,p.1≠I)→∀ Φ:FP,
   (∀ fl m' led' led2,fl = .next ∨ fl = .cont→J (i + 1) m' led'→(∀ p∈led',p∈led2)→(I,o)∈led2→(∀ p∈led',p.1≠I)→Φ fl m' led2)→(∀ v m' led',φ (.ret v) m' led'→Φ (.ret v) m' led') →
   Lx w F b (execs body (evx F b)) Φ (ms m₁ x v) ((I,o)::led₁))
  (hX:∀ m' led',J items.size m' led'→φ .next m' led') (hk:F.cs.kind = .function) (hx:(evx F b).kindOf x = some .local)
  (hf:∀ x,foldedSetIterable it (evx F b) x = pure x) :
  Lx w F b (exec (.For (.Name x px) it body [] pos) (evx F b)) φ m led:=fun s Q E f N q=>by
 refine wpAny_mono (E:=fun O O=>False) (For_invV b.g (Q:=Q) hx (by show (F.cs.kind == .class || (F.cs.kind == .module && b.L != mainGlobals)) = false;rw [hk];rfl) ?_ hf ?_) (fun O O x=>x) fun O O x=>x.elim
 ·have hh:(tpx F b).handled = none:=rfl
  refine he s _ _ f N fun a h' tk' pa F' N'=>?_
  subst pa
  refine iter_listJ J hh F' N' hl hj (fun i v m₁ news₁ h tk I o hi hJ hne F₁ N₁=>?_) fun m₁ news₁ h tk hJ F₁ N₁=>q _ _ _ _ _ (hX _ _ hJ) F₁ N₁
  refine turn i v m₁ news₁ I o hi hJ hne (fun fl m' led'=>∀ (h':Heap) (tk':Nat),Fr b.g b.L h' m'→News b.g b.L h' led'→TurnJ b.g b.L (J (i + 1)) I o { s with heap:=h,toks:=tk } Q fl { s with heap:=h',toks:=tk' }) ?_ ?_ _ _ _ F₁ N₁ fun fl m' led' h' tk' hp F' N'=>hp h' tk' F' N'
  ·intro fl m' led' led2 hfl hJ' hsub hI hne' h' tk' F' N'
   rcases hfl with rfl | rfl <;> exact ⟨h',tk',m',led',led2,rfl,F',N',hI,hsub,hne',hJ'⟩
  ·intro v m' led' hp h' tk' F' N'
   exact q _ _ _ h' tk' hp F' N'
 ·passes_own
theorem px_grow {α:Type} {t:Sem α} {P:α→Prop} (h:Lx w F b t (fun v m' led'=>P v∧m' = m∧∀ p∈led,p∈led') m led):Px w F b t P m led:=fun s Q E f N q=>h s Q E f N fun a m' led' h' tk' hp F' N'=>by
 obtain ⟨p,rfl,hs⟩:=hp
 exact q a h' tk' p F' (bJ N' hs)
end
inductive J14 (m:MM) (led:Led) (j:Nat):MM→Led→Prop
 | mk (m₁:MM) (hm:∀ y:Str,(y == ("leaf":Str)) = false→m₁ y = m y):J14 m led j m₁ led
section
variable {w:World} {A₀:Around} {base h₀:Heap} {L a:Addr} {ccd:Value} {m mg mb:MM} {mean:ExcName→Option Value} {s:Shared} {D:Led} {Q:FS} {E:VS} {R:List Stmt}
theorem q14 {pl od:Addr} {pvs:Array Value} {np:Nat} {ents:List En} {cs tl:Led} {ks:List KS} (ok:Okx w 100 (bL A₀ base h₀ L mg mb mean)) (XB:(Mine.hd.heap_39 w.params).In base) (TB:Top VW (looseW VW []) mean mg mb base) (P:P13 L D pl od ents 3 pvs tl ks) (e:m "leaves" = some (.ref pl))
  (k:∀ m',(∀ y:Str,(y == ("leaf":Str)) = false→m' y = m y)→Ly w (FL a ccd) (bL A₀ base h₀ L mg mb mean) (execs R (evx (FL a ccd) (bL A₀ base h₀ L mg mb mean))) s Q E m' (cs++((pl,listOf pvs np)::(aC ks++tl)))) :
  Ly w (FL a ccd) (bL A₀ base h₀ L mg mb mean) (execs (lawAt 14::R) (evx (FL a ccd) (bL A₀ base h₀ L mg mb mean))) s Q E m (cs++((pl,listOf pvs np)::(aC ks++tl))):=by
 conv in (lawAt _)=>whnf
 have mP:(pl,listOf pvs np)∈cs++((pl,listOf pvs np)::(aC ks++tl)):=aR (.head _)
 have mK:∀ p∈aC ks,p∈cs++((pl,listOf pvs np)::(aC ks++tl)):=fun p hp=>aR (.tail _ (aL hp))
 have mT:∀ p∈tl,p∈cs++((pl,listOf pvs np)::(aC ks++tl)):=fun p hp=>aR (.tail _ (aR hp))
 generalize hg:cs++((pl,listOf pvs np)::(aC ks++tl)) = led at *
 refine cM (lx_forL (l:=pl) (items:=pvs) (n:=np) (af e rfl rfl rfl) (J14 m led) (fun i m' nw hJ=>by obtain ⟨hm⟩:=hJ;exact mP) (.mk m fun O O=>rfl) (fun i v m₁ led₁ I o hi hJ hne Φ hΦ hR=>?_) (fun m' led' hJ=>?_) rfl rfl (fun O=>rfl))
 ·obtain ⟨hm⟩:=hJ
  have hlt:i < 3:=by have:=(Array.getElem?_eq_some_iff.mp hi).1;have:=P.size;omega
  obtain ⟨kk,hkk⟩:∃ kk,ks[i]? = some kk:=⟨_,List.getElem?_eq_getElem (by have:=P.len;omega)⟩
  have hkm:=List.mem_of_getElem? hkk
  obtain ⟨g1,g2⟩:=P.kid i kk hkk
  obtain rfl:v = .ref kk.c:=Option.some.inj (hi.symm.trans g1)
  have hL:=P.cur kk hkm
  have hfpk:=bS hkm
  obtain ⟨dx,r,mvs,n,q,t,hf,hl,hs2,hk2,ht⟩:=hL
  rw [hf] at hfpk
  refine aj (cN (cc:=!true) (dJ (bt (px_grow (lfL ok (ao ok nofun rfl rfl rfl) (dR decl_name% (bT (dO fun l hlt=>la_px (P:=IsI (0 - 1)) (bq ab ab) (fun v hv=>ce ?_) rfl) rfl) rfl) nofun rfl rfl rfl)) rfl)) (fun h=>nomatch h) fun O=>ae (ae (hΦ .next _ led _ (.inl rfl) (.mk _ fun y hy=>?_) (fun p hp=>.tail _ hp) (.head _) hne)))
  ·obtain ⟨tp,rfl⟩:=hv
   refine lx_callL ok rfl XB TB rfl (by decide:14≤100) (leaf_agree (w:=w) (T:=(l,listOf #[] 0)::(I,o)::led) (nv:=0) (tp:=tp) (rl:=l) (vs:=mvs) (n2:=n) (q:=q) (t:=t) (dx:=dx) (r:=r) (o:=od) (R:=kk.R) (bG.mono hl fun p hp=>.tail _ (.tail _ (mT p hp))) (.tail _ (.tail _ (mK _ (hfpk _ (.head _))))) (.head _)) (fun p hp=>hp) fun r fp' h=>?_
   obtain ⟨rfl,rfl⟩:=h
   exact ⟨rfl,rfl,fun p hp=>.tail _ hp⟩
  ·rw [← hm y hy]
   exact if_neg (by simpa using hy)
 ·obtain ⟨hm⟩:=hJ
  exact k m' hm
theorem q15 {nl pl od:Addr} {z:Int} {wk:Bool} {lo hi:Option (Array UInt8)} {pvs vs:Array Value} {np:Nat} {ents:List En} {v:Nat→Option Value} {cs tl:Led} {ks:List KS} (ok:Okx w 100 (bL A₀ base h₀ L mg mb mean)) (hm:LM m nl z wk lo hi) (hc:C7 L v cs) (P:P13 L D pl od ents 3 pvs tl ks) (he:Srt D vs ents) (hO:cA D od) (e1:m "leaves" = some (.ref pl)) (e3:m "order" = some (.ref od))
  (k:∀ x fpx R0,(∀ p∈D,p∈R0)→cO dc fpx R0 x true (ents.map En.row) none→Off fpx R0→ba L (fpx++R0)→Ly w (FL a ccd) (bL A₀ base h₀ L mg mb mean) (execs R (evx (FL a ccd) (bL A₀ base h₀ L mg mb mean))) s Q E (ms m "walker" (.ref x)) (cs++(fpx++R0))) :
  Ly w (FL a ccd) (bL A₀ base h₀ L mg mb mean) (execs (lawAt 15::R) (evx (FL a ccd) (bL A₀ base h₀ L mg mb mean))) s Q E m (cs++((pl,listOf pvs np)::(aC ks++tl))):=by
 revert w A₀ base h₀ L a ccd m mg mb mean s D Q E R nl pl od z wk lo hi pvs vs np ents v cs tl ks
 refine no_implicit_lambda% (aW ?_)
 refine no_implicit_lambda% (e32 ?n fun T0=>(?_:bp T0) () _ _ _ _ _ _ _ _ _ _ _ _ _ _ _ _ _ _ _ _ _ _ _ _ _ _ _ _ _ _ _)
 case n=>fail "n"
 intro O w A₀ base h₀ L a ccd m mg mb mean s D Q E R nl pl od z wk lo hi pvs vs np ents v cs tl ks
 intros
 clear T0
 conv in (lawAt _)=>whnf
 have mP:(pl,listOf pvs np)∈cs++((pl,listOf pvs np)::(aC ks++tl)):=aR (.head _)
 obtain ⟨ts,e2⟩:=hm.setup
 obtain ⟨k0,ks,rfl,i1⟩:=len1 P.len
 obtain ⟨k1,ks,rfl,i2⟩:=len1 i1
 obtain ⟨k2,ks,rfl,i3⟩:=len1 i2
 obtain rfl:=List.eq_nil_of_length_eq_zero i3
 obtain ⟨p0,r0⟩:=P.kid 0 k0 rfl
 obtain ⟨p1,r1⟩:=P.kid 1 k1 rfl
 obtain ⟨p2,r2⟩:=P.kid 2 k2 rfl
 have l0:=P.cur k0 (.head _)
 have l1:=P.cur k1 (.tail _ (.head _))
 have l2:=P.cur k2 (.tail _ (.tail _ (.head _)))
 have ap:=P.apart
 rw [List.pairwise_cons,List.pairwise_cons] at ap
 have kd:∀ {k},LeafN tl od k→k.kd = false:=fun {k} h=>by obtain ⟨dx,r,mvs,n,q,t,hf,hl,hs2,hk2,ht⟩:=h;exact hk2
 have s0:∀ p∈k0.fp,p∈aC [k0,k1,k2]:=bS (.head _)
 have s1:∀ p∈k1.fp,p∈aC [k0,k1,k2]:=bS (.tail _ (.head _))
 have s2:∀ p∈k2.fp,p∈aC [k0,k1,k2]:=bS (.tail _ (.tail _ (.head _)))
 have ofk:=P.offk
 have ofc:=P.offC.off hc
 have ofcK:Off (aC [k0,k1,k2]) cs:=fun p hp=>ofc p (aL hp)
 have ofcT:Off tl cs:=fun p hp=>ofc p (aR hp)
 have h3:Lf3 tl ents k0 k1 k2:=⟨l0.leaf,l1.leaf,l2.leaf,kd l0,kd l1,kd l2,r0,r1,r2,fun p hp=>ofk p (s0 p hp),fun p hp=>ofk p (s1 p hp),fun p hp=>ofk p (s2 p hp),ap.1 k1 (.head _),ap.1 k2 (.tail _ (.head _)),ap.2.1 k2 (.head _),fun e h9=>(he.ok e h9).c⟩
 refine cM (aM (lf1 (fv:=.ref 664) ok (ao ok nofun rfl rfl rfl) (bv (P:=IsI ((z.fdiv 2).fmod 4)) (cj (cq (ac ⟨_,e2,_,rfl⟩ rfl rfl rfl) ab (by decide) (by decide)) ab (by decide)) (bv (aK (k:=0) (af e1 rfl rfl rfl) ab mP (by decide) (by decide) p0 fun O=>nofun) (bv (aK (k:=1) (af e1 rfl rfl rfl) ab mP (by decide) (by decide) p1 fun O=>nofun) (bv (aK (k:=2) (af e1 rfl rfl rfl) ab mP (by decide) (by decide) p2 fun O=>nofun) (bv (af e3 rfl rfl rfl) px_cn0 rfl) rfl) rfl) rfl) rfl) (cn5a fun O h3=>?_) nofun rfl rfl rfl) rfl rfl rfl)
 obtain ⟨t9,rfl⟩:=h3
 refine aX ok rfl (by decide:3≤100) (tree_c (w:=w) (E0:=cs++tl) (T:=cs) h3 (fun p hp=>aR hp) (fun p hp=>aL hp) (fun p hp=>ofcK p (s0 p hp)) (fun p hp=>ofcK p (s1 p hp)) (fun p hp=>ofcK p (s2 p hp)) ofcT he.eok (hO.mono P.sub)) (fun p hp=>?_) fun r fp' h=>?_
 ·fail "a"
  ·exact aR (.tail _ (aL hp))
  ·fail "a"
   ·exact aL hp
   ·exact aR (.tail _ (aR hp))
 ·obtain ⟨x,fpx,R0,rfl,g1,g2,g3,g4,g5,g6⟩:=h
  refine (k x fpx R0 (fun p hp=>g1 p (P.sub p hp)) g3 g4 ((Off.offC g5 hc).app (Off.offC g6 hc))).sub fun p hp=>?_
  fail "a"
  ·exact aR (aL hp)
  ·exact g2 p hp
end
structure LawW (w:World) (wk:Bool) (ents:List En) (upto:Int) (lo hi:Option (Array UInt8)) (Dw:Nat) (fo:Mvs) (rows:List RowB) (W:WkP) (R0:Led) (c rl nw sl nl:Addr):Prop where
 spec:WkSpec w Dw wk rows fo W
 hD:Dw≤60
 five:rows.length = 5
 rl:∃ rvs rn,RowsL R0 rl rows rvs rn
 nums:∃ nvs nn kk,da R0 nl nvs nn kk
 srt:∃ vs n,Srt R0 vs ents∧(sl,listOf vs n)∈R0
 fo1:wk = true→fo = mMvs ents
 fo2:wk = false→fo = uMvs ents upto lo hi∧∃ nvs nn,(nw,listOf nvs nn)∈R0∧IntsAre nvs.toList (natI (aI ents upto))
structure LN (m:MM) (wk:Bool) (c rl nw:Addr):Prop where
 walker:m "walker" = some (.ref c)
 rows:m "rows" = some (.ref rl)
 newest:wk = false→m "newest" = some (.ref nw)
theorem LN.set {m:MM} {wk:Bool} {c rl nw:Addr} {x:Str} {v:Value} (h:LN m wk c rl nw) (h1:(("walker":Str) == x) = false) (h2:(("rows":Str) == x) = false) (h3:(("newest":Str) == x) = false):LN (ms m x v) wk c rl nw:=⟨aq h1 h.walker,aq h2 h.rows,fun e=>aq h3 (h.newest e)⟩
inductive J18 (ents:List En) (led:Led) (j:Nat) (ys:List Value) (nw:Led):Prop
 | mk (new:Led) (g1:∀ p∈new,p∈nw) (g2:∀ p∈new,∀ q∈led,@Ne Nat q.1 p.1) (g4:ys.length = j) (g5:∀ (i:Nat) e,i < j→ents[i]? = some e→∃ a t1 t2 n',ys[i]? = some (.ref a)∧(a,aS [.bytes e.u t1,.bytes e.row.2 t2] n')∈new):J18 ents led j ys nw
theorem RowsL.mono {rest rest':Led} {rl:Addr} {rows:List RowB} {vs:Array Value} {n:Nat} (h:RowsL rest rl rows vs n) (hs:∀ p∈rest,p∈rest'):RowsL rest' rl rows vs n :=
 ⟨hs _ h.lst,h.size,h.small,fun i k v hi=>by obtain ⟨a,t1,t2,n',h1,h2⟩:=h.row i k v hi;exact ⟨a,t1,t2,n',h1,hs _ h2⟩⟩
section
variable {w:World} {A₀:Around} {base h₀:Heap} {L a:Addr} {ccd:Value} {m mg mb:MM} {mean:ExcName→Option Value} {s:Shared} {D:Led} {Q:FS} {E:VS} {R:List Stmt}
theorem q16 {nl sl fl od x:Addr} {z upto:Int} {ut:Tok} {wk:Bool} {lo hi:Option (Array UInt8)} {vs fvs nvs:Array Value} {n fn nn kk:Nat} {ents:List En} {v:Nat→Option Value} {cs fpx R0:Led} (ok:Okx w 100 (bL A₀ base h₀ L mg mb mean)) (hm:LM m nl z wk lo hi) (hc:C7 L v cs) (hv0:v 0 = some (.int upto ut)) (hv1:v 1 = some (.ref sl)) (hv2:v 2 = some (.ref fl)) (hu0:0≤upto) (hu3:upto≤3) (hlo:∀ b,lo = some b→b.size≤8) (hhi:∀ b,hi = some b→b.size≤8) (hl:(sl,listOf vs n)∈R0) (he:Srt R0 vs ents) (hf:RowsL R0 fl (ents.map En.rb) fvs fn) (hn:da R0 nl nvs nn kk) (e1:m "walker" = some (.ref x)) (e3:m "order" = some (.ref od)) (hM:cO dc fpx R0 x true (ents.map En.row) none) (hO:Off fpx R0) (hC:ba L (fpx++R0))
  (k:∀ m' Dw fo rows W fp R1 c rl nw,LawW w wk ents upto lo hi Dw fo rows W R1 c rl nw sl nl→LN m' wk c rl nw→LM m' nl z wk lo hi→W fp R1 c none→Off fp R1→ba L (fp++R1)→Ly w (FL a ccd) (bL A₀ base h₀ L mg mb mean) (execs R (evx (FL a ccd) (bL A₀ base h₀ L mg mb mean))) s Q E m' (cs++(fp++R1))) :
  Ly w (FL a ccd) (bL A₀ base h₀ L mg mb mean) (execs (lawAt 16::lawAt 17::lawAt 18::R) (evx (FL a ccd) (bL A₀ base h₀ L mg mb mean))) s Q E m (cs++(fpx++R0)):=by
 revert w A₀ base h₀ L a ccd m mg mb mean s Q E R nl sl fl od x z upto ut wk lo hi vs fvs nvs n fn nn kk ents v cs fpx R0
 refine no_implicit_lambda% (aW ?_)
 refine no_implicit_lambda% (aW ?_)
 refine no_implicit_lambda% (e40 ?n fun T0=>(?_:bp T0) () () _ _ _ _ _ _ _ _ _ _ _ _ _ _ _ _ _ _ _ _ _ _ _ _ _ _ _ _ _ _ _ _ _ _ _ _ _ _)
 case n=>fail "n"
 intro O O w A₀ base h₀ L a ccd m mg mb mean s Q E R nl sl fl od x z upto ut wk lo hi vs fvs nvs n fn nn kk ents v cs fpx R0
 intros
 clear T0
 conv in (lawAt _)=>whnf
 conv in (lawAt _)=>whnf
 conv in (lawAt _)=>whnf
 have hlen:=he.len
 have hez:=he.inn.size
 have hfz:=hf.size
 rw [List.length_map] at hfz
 refine cM (aM (Px.lx (a7 (i:=2) hc hv2 (fun p hp=>aL hp) (by decide) rfl rfl rfl rfl) fun v9 hv9=>?_) rfl rfl rfl)
 subst hv9
 refine cM (aM (dO fun nw0 hlt0=>?_) rfl rfl rfl)
 refine Ly.sub (led':=cs++(fpx++R0)) ?_ fun p hp=>.tail _ hp
 have hm2:LM (ms (ms m "rows" (.ref fl)) "newest" (.ref nw0)) nl z wk lo hi:=(hm.set rfl rfl rfl rfl rfl).set rfl rfl rfl rfl rfl
 have mC:∀ p∈cs,p∈cs++(fpx++R0):=fun p hp=>aL hp
 have mF:∀ p∈fpx,p∈cs++(fpx++R0):=fun p hp=>aR (aL hp)
 have mR:∀ p∈R0,p∈cs++(fpx++R0):=fun p hp=>aR (aR hp)
 have frC:∀ {b:Addr},(∀ p∈cs++(fpx++R0),@Ne Nat p.1 b)→∀ i∈[0,1,2,3,4,5,6],@Ne Nat b (L + 1 + i):=fun hb=>hc.fresh fun p hp=>hb p (mC p hp)
 refine cM (cN (dJ (bt (af hm2.merged rfl rfl rfl) rfl)) (fun hw=>?_) fun hw=>?_)
 ·-- a user's iterator
  have hw:wk = false:=by cases wk with | false=>rfl | true=>cases hw
  subst hw
  obtain ⟨tl9,el⟩:=hm2.low
  obtain ⟨th9,eh⟩:=hm2.high
  have uf:ed ents upto lo hi:=⟨he.eok,hu0,hu3,hlo,hhi⟩
  refine aj (aM (lf1 (fv:=.ref 611) ok (ao ok nofun rfl rfl rfl) (bv (af (aq rfl (aq rfl e1)) rfl rfl rfl) (bv (a7 (i:=0) hc hv0 mC (by decide) rfl rfl rfl rfl) (bv (af (aq rfl (aq rfl e3)) rfl rfl rfl) (bv (af el rfl rfl rfl) (bv (af eh rfl rfl rfl) px_cn0 rfl) rfl) rfl) rfl) rfl) (cn5 fun O h3=>?_) nofun rfl rfl rfl) rfl rfl rfl)
  subst h3
  refine aX ok rfl (by decide:2≤100) (uinit_c (D:=0)) (fun p hp=>hp) fun r fp' h=>?_
  obtain ⟨u,du,q,tg,tk1,tv1,hne,hfr⟩:=h
  generalize hled:([(u,instObj 611 du),(du,UD q x upto lo hi 0 tg false #[] tk1 #[] tv1)]++(cs++(fpx++R0)):Led) = led
  have up:∀ p∈cs++(fpx++R0),p∈led:=fun p hp=>hled ▸ aR hp
  have mu:(u,instObj 611 du)∈led:=hled ▸ .head _
  have mdu:(du,UD q x upto lo hi 0 tg false #[] tk1 #[] tv1)∈led:=hled ▸ .tail _ (.head _)
  clear hled
  obtain ⟨o1,m1,d1⟩:=hc.mem 1 (by decide)
  obtain ⟨o2,m2,d2⟩:=hc.mem 2 (by decide)
  rw [hv1] at d1
  rw [hv2] at d2
  refine aj (lx_asgRU (n:=5) (J:=J18 ents led) (ah ok nofun nofun (by decide) rfl rfl rfl) ab (by decide) (.mk [] (fun p hp=>nomatch hp) (fun p hp=>nomatch hp) rfl fun i e hi=>absurd hi (Nat.not_lt_zero _)) (fun i v9 ys nw T C hi9 hP hJ hsub hT hown=>?_) (fun rl ys nw hJ hsub hne2=>?_) nofun nofun (by decide) rfl (by decide) rfl rfl rfl (fun O=>rfl) (fun O=>rfl) rfl (fun O=>rfl) rfl rfl)
  ·obtain ⟨new,g1,g2,g4,g5⟩:=hJ
   obtain ⟨e9,he9⟩:∃ e,ents[i]? = some e:=⟨_,List.getElem?_eq_getElem (by omega)⟩
   obtain ⟨aa,y1,y2,y3,y4,y5,kx,hv,hxm⟩:=he.inn.at' i e9 he9
   obtain ⟨fa,s1,s2,fn9,hfv,hfm⟩:=hf.row i (ikb e9.row.1) e9.row.2 (by rw [List.getElem?_map,he9];rfl)
   have up2:∀ p∈led,p∈T:=fun p hp=>hT p (hsub p hp)
   have hvar:∀ {p},Px w (FL a ccd) (bL A₀ base h₀ L mg mb mean) (eval (.Name "i" p) _) (IsI (i:Int)) _ T:=fun {p}=>Px.mono (hown T p fun O h=>h) fun a h=>h ▸ hP
   refine lx_tup (aU (P:=fun a=>a = .bytes e9.u y1) (P2:=fun a=>a = .bytes e9.row.2 s2) (bh (k:=0) (aK (k:=(i:Int)) (cD (up2 _ (up _ (mC _ m1))) d1 rfl rfl rfl rfl) hvar (up2 _ (up _ (mR _ hl))) (by omega) (by omega) hv fun O=>nofun) ab (up2 _ (up _ (mR _ hxm))) (by decide) (by decide) rfl fun O=>nofun) (bh (k:=1) (aK (k:=(i:Int)) (cD (up2 _ (up _ (mC _ m2))) d2 rfl rfl rfl rfl) hvar (up2 _ (up _ (mR _ hf.lst))) (by omega) (by omega) hfv fun O=>nofun) ab (up2 _ (up _ (mR _ hfm))) (by decide) (by decide) rfl fun O=>nofun) rfl rfl) (fun ws h=>?_) fun ws y h hlt=>?_
   ·obtain ⟨_,_,rfl,-,-⟩:=h
    show 2≤1000
    decide
   obtain ⟨_,_,rfl,rfl,rfl⟩:=h
   refine .mk (.ref y) [_] (fun q hq p hp=>by rw [List.mem_singleton.mp hq];exact Nat.ne_of_lt (hlt p hp)) (.mk ((y,aS [.bytes e9.u y1,.bytes e9.row.2 s2] 0)::new) (fun p hp=>?_) (fun p hp q hq=>?_) (by rw [List.length_append,g4];rfl) fun j e hj hje=>?_)
   ·fail "c"
    ·exact .head _
    ·exact .tail _ (g1 _ hp)
   ·fail "c"
    ·exact Nat.ne_of_lt (hlt q (up2 q hq))
    ·exact g2 p hp q hq
   ·by_cases hij:j < i
    ·obtain ⟨a',q1,q2,n',r1,r2⟩:=g5 j e hij hje
     exact ⟨a',q1,q2,n',by rw [List.getElem?_append_left (by omega)];exact r1,.tail _ r2⟩
    ·have:j = i:=by omega
     subst this
     rw [he9] at hje
     cases hje
     exact ⟨y,y1,s2,0,by rw [List.getElem?_append_right (by omega),g4,Nat.sub_self];rfl,.head _⟩
  ·obtain ⟨new,g1,g2,g4,g5⟩:=hJ
   have up3:∀ p∈cs++(fpx++R0),p∈((rl,lst ys)::nw:Led):=fun p hp=>.tail _ (hsub p (up p hp))
   refine aj (aM (lf1 (fv:=.ref 688) ok (ao ok nofun rfl rfl rfl) (bv (a7 (i:=1) hc hv1 (fun p hp=>up3 p (mC p hp)) (by decide) rfl rfl rfl rfl) (bv (a7 (i:=0) hc hv0 (fun p hp=>up3 p (mC p hp)) (by decide) rfl rfl rfl rfl) px_cn0 rfl) rfl) (fun vs h=>?_) nofun rfl rfl rfl) rfl rfl rfl)
   obtain ⟨_,_,rfl,_,_,rfl,rfl⟩:=h
   refine aX ok rfl (by decide:1≤100) (newest_c (D:=0) (rest:=(rl,lst ys)::nw) (up3 _ (mR _ hl)) (he.inn.mono fun p hp=>up3 p (mR p hp)) (by omega)) (fun p hp=>hp) fun r fp' h=>?_
   obtain ⟨nwl,nvs9,nk9,rfl,h1,h2,h3⟩:=h
   have n1:∀ p∈cs++(fpx++R0),@Ne Nat p.1 nwl:=fun p hp=>h3 p (up3 p hp)
   have n2:∀ p∈new,@Ne Nat p.1 nwl:=fun p hp=>h3 p (.tail _ (g1 p hp))
   have n3:@Ne Nat rl nwl:=h3 _ (.head _)
   have n4:@Ne Nat u nwl:=h3 _ (.tail _ (hsub _ mu))
   have n5:@Ne Nat du nwl:=h3 _ (.tail _ (hsub _ mdu))
   have r1:∀ p∈cs++(fpx++R0),@Ne Nat p.1 rl:=fun p hp=>hne2 p (hsub p (up p hp))
   have r5:@Ne Nat du rl:=hne2 _ (hsub _ mdu)
   have sR:∀ p∈R0,p∈((nwl,listOf nvs9 nk9)::(rl,lst ys)::(new++((u,instObj 611 du)::R0)):Led):=fun p hp=>.tail _ (.tail _ (aR (.tail _ hp)))
   have hU:cI (cO dc) upto lo hi ents ((du,UD q x upto lo hi 0 tg false #[] tk1 #[] tv1)::fpx) ((nwl,listOf nvs9 nk9)::(rl,lst ys)::(new++((u,instObj 611 du)::R0))) u none :=
    .off du x true q none 0 tg #[] tk1 #[] tv1 fpx ((aF (bx w)).mono hM sR) (fun p hp=>(hfr p (mF p hp)).2) (.tail _ (.tail _ (aR (.head _))))
   have hoffU:Off ((du,UD q x upto lo hi 0 tg false #[] tk1 #[] tv1)::fpx) ((nwl,listOf nvs9 nk9)::(rl,lst ys)::(new++((u,instObj 611 du)::R0))):=by
    intro p hp r hr
    fail "c"
    ·rcases List.mem_cons.mp hr with rfl | hr
     ·exact fun e=>n5 e.symm
     ·rcases List.mem_cons.mp hr with rfl | hr
      ·exact fun e=>r5 e.symm
      ·rcases List.mem_append.mp hr with hr | hr
       ·exact fun e=>g2 r hr _ mdu e.symm
       ·rcases List.mem_cons.mp hr with rfl | hr
        ·exact hne
        ·exact (hfr r (mR r hr)).2
    ·rcases List.mem_cons.mp hr with rfl | hr
     ·exact fun e=>n1 p (mF p hp) e.symm
     ·rcases List.mem_cons.mp hr with rfl | hr
      ·exact fun e=>r1 p (mF p hp) e.symm
      ·rcases List.mem_append.mp hr with hr | hr
       ·exact fun e=>g2 r hr p (up p (mF p hp)) e.symm
       ·rcases List.mem_cons.mp hr with rfl | hr
        ·exact fun e=>(hfr p (mF p hp)).1 e.symm
        ·exact hO p hp r hr
   have hCU:ba L (((du,UD q x upto lo hi 0 tg false #[] tk1 #[] tv1)::fpx)++((nwl,listOf nvs9 nk9)::(rl,lst ys)::(new++((u,instObj 611 du)::R0)))):=by
    have hR:ba L R0:=hC.sub fun p hp=>aR hp
    have hF:ba L fpx:=hC.sub fun p hp=>aL hp
    have hN:ba L new:=fun p hp=>frC fun q hq=>g2 p hp q (up q hq)
    exact (hF.cons (frC fun p hp=>(hfr p hp).2)).app (((hN.app (hR.cons (frC fun p hp=>(hfr p hp).1))).cons (frC r1)).cons (frC n1))
   refine ae (φ:=KY _ _ _ _ _ _ _ _) ((k _ 50 _ _ (cI (cO dc) upto lo hi ents) _ _ u rl nwl ⟨userW_spec (aF (bx w)) uf,by decide,by unfold uRows;rw [List.length_map];exact hlen,⟨ys.toArray,ys.length,.tail _ (.head _),by unfold uRows;rw [List.length_map,List.size_toArray,g4,hlen],by unfold uRows;rw [List.length_map];omega,fun i k9 v9 hi=>?_⟩,⟨nvs,nn,kk,hn.mono sR⟩,⟨vs,n,he.mono sR,sR _ hl⟩,(fun h=>nomatch h),fun O=>⟨rfl,nvs9,nk9,.head _,h2⟩⟩ ⟨rfl,rfl,fun O=>rfl⟩ (((hm2.set rfl rfl rfl rfl rfl).set rfl rfl rfl rfl rfl).set rfl rfl rfl rfl rfl) hU hoffU hCU).sub fun p hp=>?_)
   ·unfold uRows at hi
    rw [List.getElem?_map] at hi
    obtain ⟨e9,he9,hr9⟩:=Option.map_eq_some_iff.mp hi
    obtain ⟨a',s1,s2,n',r1,r2⟩:=g5 i e9 (by have:=(List.getElem?_eq_some_iff.mp he9).1;omega) he9
    injection hr9 with h1 h2
    subst h1
    subst h2
    exact ⟨a',s1,s2,n',by simpa using r1,.tail _ (.tail _ (aL r2))⟩
   ·fail "a"
    ·exact aR (up3 p (mC p hp))
    ·fail "a"
     ·fail "c"
      ·exact aR (.tail _ (hsub _ mdu))
      ·exact aR (up3 p (mF p hp))
     ·fail "c"
      ·exact aL h1
      ·fail "c"
       ·exact aR (.head _)
       ·fail "a"
        ·exact aR (.tail _ (g1 p hp))
        ·fail "c"
         ·exact aR (.tail _ (hsub _ mu))
         ·exact aR (up3 p (mR p hp))
 ·have hw:wk = true:=by cases wk with | true=>rfl | false=>cases hw
  subst hw
  exact ae (φ:=KY _ _ _ _ _ _ _ _) (k _ 38 _ _ (MergeW dc ents) fpx R0 x fl nw0 ⟨mergeW_spec (bx w) he.eok,by decide,by rw [List.length_map];exact hlen,⟨fvs,fn,hf⟩,⟨nvs,nn,kk,hn⟩,⟨vs,n,he,hl⟩,fun O=>rfl,(fun h=>nomatch h)⟩ ⟨aq rfl (aq rfl e1),rfl,(fun h=>nomatch h)⟩ hm2 hM hO hC)
end
structure ActS (L:Addr) (v:Nat→Option Value) (cs fp R1:Led) (W:WkP) (c sl:Addr) (upto place:Int):Prop where
 hc:C7 L v cs
 v0:∃ t,v 0 = some (.int upto t)
 v1:v 1 = some (.ref sl)
 off:Off fp R1
 offC:ba L (fp++R1)
 w:W fp R1 c (aE 5 place)
 p0:-1≤place
 p5:place≤5
structure ActD (act place:Int) (u:Array UInt8) (q:Nat):Prop where
 a0:0≤act
 a8:act≤8
 far:2 < act→0≤place∧place < 5
 u8:u.size≤8
 q1:1≤q
 q3:q≤3
theorem offE {L:Addr} {v:Nat→Option Value} {cs fp R1:Led} (hc:C7 L v cs) (ho:Off fp R1) (hC:ba L (fp++R1)):Off fp (cs++R1):=fun p hp q hq=>by
 rcases List.mem_append.mp hq with hq | hq
 ·exact (hC.off hc) p (aL hp) q hq
 ·exact ho p hp q hq
theorem mid {cs fp R1:Led}:∀ p∈cs++(fp++R1),p∈fp++(cs++R1):=fun p hp=>by
 simp only [List.mem_append] at hp ⊢
 rcases hp with h | h | h
 ·exact .inr (.inl h)
 ·exact .inl h
 ·exact .inr (.inr h)
theorem mid2 {cs fp R1:Led}:∀ p∈fp++(cs++R1),p∈cs++(fp++R1):=fun p hp=>by
 simp only [List.mem_append] at hp ⊢
 rcases hp with h | h | h
 ·exact .inr (.inl h)
 ·exact .inl h
 ·exact .inr (.inr h)
section
variable {w:World} {A₀:Around} {base h₀:Heap} {L a:Addr} {ccd:Value} {m mg mb:MM} {mean:ExcName→Option Value} {s:Shared} {D:Led} {Q:FS} {E:VS} {R:List Stmt} {φ:FP}
variable {nl rl nw sl c:Addr} {z upto place:Int} {wk:Bool} {lo hi:Option (Array UInt8)} {ents:List En} {v:Nat→Option Value} {cs fp R1:Led} {Dw:Nat} {fo:Mvs} {rows:List RowB} {W:WkP}
theorem px_agree {e1 e2 e3 o:Expr} {pos:Pos} {tp:Tok} (ok:Okx w 100 (bL A₀ base h₀ L mg mb mean)) (XB:(Mine.hd.heap_39 w.params).In base) (TB:Top VW (looseW VW []) mean mg mb base) (lw:LawW w wk ents upto lo hi Dw fo rows W R1 c rl nw sl nl) (S:ActS L v cs fp R1 W c sl upto place) {led:Led} (hs1:∀ p∈led,p∈fp++(D++(cs++R1))) (hs2:∀ p∈fp++(D++(cs++R1)),p∈led) (hoD:Off fp D)
  (h0:Px w (FL a ccd) (bL A₀ base h₀ L mg mb mean) (eval o (evx (FL a ccd) (bL A₀ base h₀ L mg mb mean))) (fun a=>a = .ref 678) m led) (h1:Px w (FL a ccd) (bL A₀ base h₀ L mg mb mean) (eval e1 (evx (FL a ccd) (bL A₀ base h₀ L mg mb mean))) (fun a=>a = .ref c) m led) (h2:Px w (FL a ccd) (bL A₀ base h₀ L mg mb mean) (eval e2 (evx (FL a ccd) (bL A₀ base h₀ L mg mb mean))) (fun a=>a = .ref rl) m led) (h3:Px w (FL a ccd) (bL A₀ base h₀ L mg mb mean) (eval e3 (evx (FL a ccd) (bL A₀ base h₀ L mg mb mean))) (fun a=>a = .int place tp) m led)
  (ha1:starEach [e1,e2,e3] (evx (FL a ccd) (bL A₀ base h₀ L mg mb mean)) = (false,eval e1 (evx (FL a ccd) (bL A₀ base h₀ L mg mb mean)))::starEach [e2,e3] (evx (FL a ccd) (bL A₀ base h₀ L mg mb mean))) (ha2:starEach [e2,e3] (evx (FL a ccd) (bL A₀ base h₀ L mg mb mean)) = (false,eval e2 (evx (FL a ccd) (bL A₀ base h₀ L mg mb mean)))::starEach [e3] (evx (FL a ccd) (bL A₀ base h₀ L mg mb mean))) (ha3:starEach [e3] (evx (FL a ccd) (bL A₀ base h₀ L mg mb mean)) = (false,eval e3 (evx (FL a ccd) (bL A₀ base h₀ L mg mb mean)))::starEach [] (evx (FL a ccd) (bL A₀ base h₀ L mg mb mean)))
  (hp:(backTo pos (starEach [e2,e3] (evx (FL a ccd) (bL A₀ base h₀ L mg mb mean)))).any (·.1) = false)
  (he:eval (.Call o [e1,e2,e3] [] pos) (evx (FL a ccd) (bL A₀ base h₀ L mg mb mean)) = (do callWith pos (← eval o (evx (FL a ccd) (bL A₀ base h₀ L mg mb mean))) [] (backTo pos (starEach [e1,e2,e3] (evx (FL a ccd) (bL A₀ base h₀ L mg mb mean)))) (backToKw pos (keywordEach [] (evx (FL a ccd) (bL A₀ base h₀ L mg mb mean)))))) :
  Px w (FL a ccd) (bL A₀ base h₀ L mg mb mean) (eval (.Call o [e1,e2,e3] [] pos) (evx (FL a ccd) (bL A₀ base h₀ L mg mb mean))) (fun a=>a = .bool true) m led :=
 pf1 ok h0 (bY h1 h2 h3 ha1 ha2 ha3) (ar3 <| by
  obtain ⟨rvs,rn,hr⟩:=lw.rl
  have hE:=offE S.hc S.off S.offC
  exact px_callL ok rfl XB TB rfl (D':=Dw + 12) (by have:=lw.hD;omega) (lw.spec.agree (E0:=D++(cs++R1)) (tp:=tp) (by rw [lw.five];exact S.w) (fun x hx=>aR (aR hx)) (fun p hp q hq=>(List.mem_append.mp hq).elim (hoD p hp q) (hE p hp q)) (hr.mono fun p hp=>aR (aR hp))) hs1 hs2 fun r fp' h=>h) nofun ha1 hp he
theorem q19 (ok:Okx w 100 (bL A₀ base h₀ L mg mb mean)) (XB:(Mine.hd.heap_39 w.params).In base) (TB:Top VW (looseW VW []) mean mg mb base) (lw:LawW w wk ents upto lo hi Dw fo rows W R1 c rl nw sl nl) (ln:LN m wk c rl nw) (hc:C7 L v cs) (hv0:∃ t,v 0 = some (.int upto t)) (hv1:v 1 = some (.ref sl)) (hW:W fp R1 c none) (ho:Off fp R1) (hC:ba L (fp++R1))
  (k:∀ tp,ActS L v cs fp R1 W c sl upto (-1)→Ly w (FL a ccd) (bL A₀ base h₀ L mg mb mean) (execs R (evx (FL a ccd) (bL A₀ base h₀ L mg mb mean))) s Q E (ms m "place" (.int (-1) tp)) (cs++(fp++R1))) :
  Ly w (FL a ccd) (bL A₀ base h₀ L mg mb mean) (execs (lawAt 19::lawAt 20::R) (evx (FL a ccd) (bL A₀ base h₀ L mg mb mean))) s Q E m (cs++(fp++R1)):=by
 conv in (lawAt _)=>whnf
 conv in (lawAt _)=>whnf
 refine ly_name (P:=IsI (-1)) (bq ab ab) (fun v9 hv=>?_) rfl rfl rfl
 obtain ⟨tp,rfl⟩:=hv
 have S:ActS L v cs fp R1 W c sl upto (-1):=⟨hc,hv0,hv1,ho,hC,hW,by decide,by decide⟩
 exact cM (cN (cc:=!true) (dJ (bt (px_agree (D:=[]) ok XB TB lw S (mid (cs:=cs) (fp:=fp) (R1:=R1)) (mid2 (cs:=cs) (fp:=fp) (R1:=R1)) (fun p hp q hq=>nomatch hq) (ao ok nofun rfl rfl rfl) (af (aq rfl ln.walker) rfl rfl rfl) (af (aq rfl ln.rows) rfl rfl rfl) decl_name% rfl rfl rfl rfl rfl) rfl)) (fun h=>nomatch h) fun O=>ae (φ:=KY _ _ _ _ _ _ _ _) (k tp S))
theorem b0 {i:Nat} {ti tp:Tok} (ok:Okx w 100 (bL A₀ base h₀ L mg mb mean)) (lw:LawW w wk ents upto lo hi Dw fo rows W R1 c rl nw sl nl) (ln:LN m wk c rl nw) (lm:LM m nl z wk lo hi) (S:ActS L v cs fp R1 W c sl upto place) (e1:m "i" = some (.int (i:Int) ti)) (e2:m "place" = some (.int place tp)) (hi5:i < 5) {o:Obj} {I:Addr} (hI:ba L [(I,o)])
  (k:∀ m' act ta u tt q tq v' cs',ActD act place u q→ActS L v' cs' fp R1 W c sl upto place→v' 4 = some (.bytes u tt)→v' 5 = some (.int (q:Int) tq)→LN m' wk c rl nw→LM m' nl z wk lo hi→m' "place" = some (.int place tp)→m' "act" = some (.int act ta)→m' "broken" = some (.bool false)→Lx w (FL a ccd) (bL A₀ base h₀ L mg mb mean) (execs R (evx (FL a ccd) (bL A₀ base h₀ L mg mb mean))) φ m' (cs'++((I,o)::(fp++R1)))) :
  Lx w (FL a ccd) (bL A₀ base h₀ L mg mb mean) (execs (lawBody 21 0::lawBody 21 1::lawBody 21 2::lawBody 21 3::lawBody 21 4::lawBody 21 5::R) (evx (FL a ccd) (bL A₀ base h₀ L mg mb mean))) φ m (cs++((I,o)::(fp++R1))):=by
 conv in (lawBody _ _)=>whnf
 conv in (lawBody _ _)=>whnf
 conv in (lawBody _ _)=>whnf
 conv in (lawBody _ _)=>whnf
 conv in (lawBody _ _)=>whnf
 conv in (lawBody _ _)=>whnf
 obtain ⟨nvs,nn,kk,hn⟩:=lw.nums
 have hoc:ba L ((I,o)::(fp++R1)):=fun p hp=>by
  fail "c"
  ·exact hI _ (.head _)
  ·exact S.offC p hp
 refine aj (aM (Px.lx (px_draw ok (hn.mono fun p hp=>aR (.tail _ (aR hp))) (ao ok nofun rfl rfl rfl) (af lm.nums rfl rfl rfl) (cJ ab (ac ⟨_,e1,_,rfl⟩ rfl rfl rfl)) (by omega (splitNatSub:=true)) (by omega (splitNatSub:=true)) rfl (by decide) rfl rfl rfl rfl) fun vx hv=>?_) rfl rfl rfl)
 obtain ⟨y,hy,h0,h1⟩:=hv
 have a0:=Int.fmod_nonneg_of_pos y (b:=9) (by decide)
 have a1:=Int.fmod_lt_of_pos y (b:=9) (by decide)
 refine aj (aM (Px.lx (cj (ac ⟨_,rfl,hy⟩ rfl rfl rfl) ab (by decide)) fun va hva=>?_) rfl rfl rfl)
 obtain ⟨ta,rfl⟩:=hva
 have lm2:LM (ms (ms m "x" vx) "act" (.int (y.fmod 9) ta)) nl z wk lo hi:=(lm.set rfl rfl rfl rfl rfl).set rfl rfl rfl rfl rfl
 have ln2:LN (ms (ms m "x" vx) "act" (.int (y.fmod 9) ta)) wk c rl nw:=(ln.set rfl rfl rfl).set rfl rfl rfl
 have after:∀ (m3:MM) (act:Int) (ta:Tok),0≤act→act≤8→(2 < act→0≤place∧place < 5)→LM m3 nl z wk lo hi→LN m3 wk c rl nw→m3 "place" = some (.int place tp)→m3 "x" = some vx→m3 "act" = some (.int act ta)→∀ {s3 s4 s5:Stmt},s3 = lawBody 21 3→s4 = lawBody 21 4→s5 = lawBody 21 5→Lx w (FL a ccd) (bL A₀ base h₀ L mg mb mean) (execs (s3::s4::s5::R) (evx (FL a ccd) (bL A₀ base h₀ L mg mb mean))) φ m3 (cs++((I,o)::(fp++R1))):=by
  intro m3 act ta a0 a8 far lm3 ln3 e3 e4 e5 s3 s4 s5 h3 h4 h5
  subst h3
  subst h4
  subst h5
  conv in (lawBody _ _)=>whnf
  conv in (lawBody _ _)=>whnf
  conv in (lawBody _ _)=>whnf
  refine aj (dz (i:=4) (Px.lx (px_tab (P:=UsrV) ok (ao ok nofun rfl rfl rfl) (targets_c (D:=0)) (fun O=>cj (cq (ac ⟨_,e4,hy⟩ rfl rfl rfl) ab (by decide) (by decide)) ab (by decide)) (Int.fmod_nonneg_of_pos _ (by decide)) (Int.fmod_lt_of_pos _ (by decide)) (by decide) rfl (by decide) nofun rfl fun O O=>nofun) fun v9 hv9=>.mk v cs ((I,o)::(fp++R1)) S.hc hoc (fun O h=>h) fun cs2 hc2=>?_) (by decide) rfl rfl rfl rfl)
  obtain ⟨u,tt,rfl,hu⟩:=hv9
  have d0:=Int.fmod_nonneg_of_pos (y.fdiv 36) (b:=3) (by decide)
  have d1:=Int.fmod_lt_of_pos (y.fdiv 36) (b:=3) (by decide)
  refine aj (dz (i:=5) (Px.lx (cJ ab (cj (cq (ac ⟨_,e4,hy⟩ rfl rfl rfl) ab (by decide) (by decide)) ab (by decide))) fun v9 hv9=>.mk _ cs2 ((I,o)::(fp++R1)) hc2 hoc (fun O h=>h) fun cs3 hc3=>?_) (by decide) rfl rfl rfl rfl)
  obtain ⟨tq,rfl⟩:=hv9
  refine aj (aM (Px.lx bX fun v9 hv9=>?_) rfl rfl rfl)
  subst hv9
  obtain ⟨q,hq⟩:=Int.eq_ofNat_of_zero_le (show 0≤1 + (y.fdiv 36).fmod 3 by omega (splitNatSub:=true))
  have hq':1 + (y.fdiv 36).fmod 3 = (q:Int):=hq
  exact k _ act ta u tt q tq _ cs3 ⟨a0,a8,far,hu,by omega (splitNatSub:=true),by omega (splitNatSub:=true)⟩ ⟨hc3,S.v0,S.v1,S.off,S.offC,S.w,S.p0,S.p5⟩ rfl (congrArg (fun n=>some (Value.int n tq)) hq') (ln3.set rfl rfl rfl) (lm3.set rfl rfl rfl rfl rfl) (aq rfl e3) (aq rfl e5) rfl
 refine aj (cN (ck (cS (ac ⟨_,rfl,_,rfl⟩ rfl rfl rfl) ab rfl) fun O=>cZ (bE (ac ⟨_,aq rfl (aq rfl e2),_,rfl⟩ rfl rfl rfl) ab rfl) fun O=>pc_geI (ac ⟨_,aq rfl (aq rfl e2),_,rfl⟩ rfl rfl rfl) ab rfl) (fun h=>?_) fun h=>ae (after _ _ ta a0 (by omega (splitNatSub:=true)) (fun h2=>?_) lm2 ln2 (aq rfl (aq rfl e2)) rfl rfl rfl rfl rfl))
 ·rw [Bool.and_eq_true,decide_eq_true_eq] at h
  have f0:0≤(y.fmod 9).fdiv 6:=by rw [Int.fdiv_eq_ediv_of_nonneg _ (by decide)];omega (splitNatSub:=true)
  have f1:(y.fmod 9).fdiv 6≤2:=by rw [Int.fdiv_eq_ediv_of_nonneg _ (by decide)];omega (splitNatSub:=true)
  refine bo (aM (Px.lx (cq (ac ⟨_,rfl,_,rfl⟩ rfl rfl rfl) ab (by decide) (by decide)) fun v9 hv9=>?_) rfl rfl rfl)
  obtain ⟨ta2,rfl⟩:=hv9
  exact after _ _ ta2 f0 (by omega (splitNatSub:=true)) (fun h2=>absurd h2 (by omega (splitNatSub:=true))) (lm2.set rfl rfl rfl rfl rfl) (ln2.set rfl rfl rfl) (aq rfl (aq rfl (aq rfl e2))) rfl rfl rfl rfl rfl
 ·rw [decide_eq_true h2,Bool.true_and,Bool.or_eq_false_iff,decide_eq_false_iff_not,decide_eq_false_iff_not] at h
  omega (splitNatSub:=true)
end
section
variable {w:World} {F:FnC} {b:Bx} {m:MM} {led:Led} {φ:FP} {x y:Str} {pos:Pos}
theorem lx_tup2 {kk} {value:Expr} {px py tpos:Pos} (h:Lx w F b (eval value (evx F b)) (fun v m' led'=>∃ t v1 v2 n,v = .ref t∧(t,({ cls:=.type "tuple",data:=.seq (List.toArray [v1,v2]) n }:Obj))∈led'∧φ .next (ms (ms m' x v1) y v2) led') m led)
  (hk:F.cs.kind = .function) (hx:(evx F b).kindOf x = some .local) (hy:(evx F b).kindOf y = some .local)
  (hs:swapsWithSole [.Tuple [.Name x px,.Name y py] kk tpos] value pos.line (evx F b) = pure false) (hw:swappedStores [.Tuple [.Name x px,.Name y py] kk tpos] value (evx F b) = pure none) :
  Lx w F b (exec (.Assign [.Tuple [.Name x px,.Name y py] kk tpos] value pos) (evx F b)) φ m led:=fun s Q E f N q =>
 Assign_Tuple (h s _ E f N fun v m' led' h' tk' hp F' N'=>by
  obtain ⟨t,v1,v2,n,rfl,ht,hp⟩:=hp
  refine unpackN_ F' N' (News.isTup N' ht) rfl rfl rfl fun h2 F2 N2=>?_
  refine assignInOrder_cons (assign_Name (storeX_L F2 N2 (fun h3 F3 N3=>?_) hk hx))
  refine assignInOrder_cons (assign_Name (storeX_L F3 N3 (fun h4 F4 N4=>?_) hk hy))
  exact assignInOrder_nil (q _ _ _ _ _ hp F4 N4)) hs hw
end
structure ActT (fo:Mvs) (act place:Int) (u:Array UInt8) (q:Nat) (br:Bool) (place':Int):Prop where
 rel:cW fo (aE 5 place) act u q = if br = true then none else some (aE 5 place')
 p0:-1≤place'
 p5:place'≤5
theorem placeP_gI {g:Option Nat} (h:∀ i,g = some i→i < 5):aE 5 (gI g) = g:=by
 unfold aE
 cases g with
 | none=>rw [if_neg (by show ¬ ((0:Int)≤-1∧_);omega (splitNatSub:=true))]
 | some i =>
  have:=h i rfl
  rw [if_pos (by show (0:Int)≤(i:Int)∧(i:Int) < _;omega (splitNatSub:=true))]
  rfl
theorem gI_lo (g:Option Nat):-1≤gI g:=by
 cases g with
 | none=>decide
 | some i=>show (-1:Int)≤(i:Int);omega
theorem gI_hi {g:Option Nat} (h:∀ i,g = some i→i < 5):gI g≤5:=by
 cases g with
 | none=>decide
 | some i=>have:=h i rfl;show (i:Int)≤5;omega
theorem actT_user {fo:Mvs} {act place:Int} {u:Array UInt8} {q:Nat} {p:Bool × Option Nat} (h:cW fo (aE 5 place) act u q = eu p) (hb:∀ i,p.2 = some i→i < 5):ActT fo act place u q p.1 (gI p.2) :=
 ⟨by rw [h,placeP_gI hb];rfl,gI_lo _,gI_hi hb⟩
theorem placeP_in {place:Int} (h0:0≤place) (h5:place < 5):∃ j:Nat,place = (j:Int)∧j < 5∧aE 5 place = some j:=by
 obtain ⟨j,rfl⟩:=Int.eq_ofNat_of_zero_le h0
 exact ⟨j,rfl,by omega,by unfold aE;rw [if_pos ⟨h0,h5⟩];rfl⟩
section
variable {w:World} {A₀:Around} {base h₀:Heap} {L a:Addr} {ccd:Value} {m mg mb:MM} {mean:ExcName→Option Value} {s:Shared} {D:Led} {Q:FS} {E:VS} {R:List Stmt} {φ:FP}
variable {nl rl nw sl c:Addr} {z upto place:Int} {wk:Bool} {lo hi:Option (Array UInt8)} {ents:List En} {v:Nat→Option Value} {cs fp R1:Led} {Dw:Nat} {fo:Mvs} {rows:List RowB} {W:WkP}
theorem turn_cut {sc:Scope} {cl:List (Str × Addr)} {C:Addr} {elts:List Expr} {up:Expr} {px sp tp pos pos':Pos} {x:Str} {k i:Nat} {e9:En} {aa:Addr} {y1 y2 y3 y4 y5:Tok} {kx:Nat} {t:Array UInt8} {q:Nat} {ys:List Value} {nw9 T:Led} {F:FnC} {b:Bx} {D9:Nat} (ok:Okx w D9 b) (he9:ents[i]? = some e9) (hJ:JCnt ents (fun e=>ltL (cut3 e) [.b t,.i (0 - (q:Int)),.i (-1)]) i ys nw9) (hown:OwnV w F b (compEnvC sc cl C (evx F b)) x (.ref aa) m T)
  (hxm:(aa,aS [.bytes e9.u y1,.int (0 - (e9.q:Int)) y2,.int (0 - (e9.k:Int)) y3,.int (e9.c:Int) y4,.int (e9.i:Int) y5] kx)∈T) (h2:Px w F b (eval up (compEnvC sc cl C (evx F b))) (IsI 3) m T)
  (ha:∀ zz,Px w F b (spliced (backTo tp (starEach elts (compEnvC sc cl C (evx F b))))) (fun vs=>∃ v v2 v3,vs = [v,v2,v3]∧IsB t v∧IsI (0 - (q:Int)) v2∧IsI (-1) v3) m (zz::T))
  (hs:∀ x,subscripted (.Slice none (some up) none sp) false (.ref aa) (.ref x) = operate [.ref x,.ref aa] (getItem (.ref aa) (.ref x))) (hb:behindInMarks .Lt (.Tuple elts k tp) = false) {px2:Pos} :
  TurnR w F b (compEnvC sc cl C (evx F b)) (.Compare (.Subscript (.Name x px) (.Slice none (some up) none sp) pos) [.Lt] [.Tuple elts k tp] pos') (.Name x px2) m ys nw9 T (JCnt ents (fun e=>ltL (cut3 e) [.b t,.i (0 - (q:Int)),.i (-1)]) (i + 1)) :=
 jcnt he9 hJ hown (pc_cutLt (zs:=[.bytes e9.u y1,.int (0 - (e9.q:Int)) y2,.int (0 - (e9.k:Int)) y3]) (ds:=cut3 e9) ok (hown _ _ fun O h=>h) h2 hxm (by decide) (by show (3:Int) < 5;decide) (by show 5≤1000;decide) rfl ⟨⟨_,rfl⟩,⟨_,rfl⟩,⟨_,rfl⟩,trivial⟩ ha (fun ws h=>by
  obtain ⟨_,_,_,rfl,h1,h2,h3⟩:=h
  exact ⟨⟨h1,h2,h3,trivial⟩,by show 3≤1000;decide⟩) ⟨trivial,trivial,trivial,trivial⟩ hs (fun O=>by with_unfolding_all rfl) hb)
theorem b6m {act:Int} {ta tp tt tq:Tok} {u:Array UInt8} {q:Nat} {o:Obj} {I:Addr} (ok:Okx w 100 (bL A₀ base h₀ L mg mb mean)) (lw:LawW w true ents upto lo hi Dw fo rows W R1 c rl nw sl nl) (ln:LN m true c rl nw) (lm:LM m nl z true lo hi) (S:ActS L v cs fp R1 W c sl upto place) (d:ActD act place u q) (v4:v 4 = some (.bytes u tt)) (v5:v 5 = some (.int (q:Int) tq)) (e2:m "place" = some (.int place tp)) (e3:m "act" = some (.int act ta)) (e4:m "broken" = some (.bool false)) (hoc:ba L ((I,o)::(fp++R1)))
  (k:∀ m' br place' tp' tt v' cs',ActT fo act place u q br place'→ActS L v' cs' fp R1 W c sl upto place→v' 4 = some (.bytes (tgB true u q) tt)→LN m' true c rl nw→LM m' nl z true lo hi→m' "act" = some (.int act ta)→m' "broken" = some (.bool br)→m' "place" = some (.int place' tp')→Lx w (FL a ccd) (bL A₀ base h₀ L mg mb mean) (execs R (evx (FL a ccd) (bL A₀ base h₀ L mg mb mean))) φ m' (cs'++((I,o)::(fp++R1)))) :
  Lx w (FL a ccd) (bL A₀ base h₀ L mg mb mean) (execs (lawBody 21 6::R) (evx (FL a ccd) (bL A₀ base h₀ L mg mb mean))) φ m (cs++((I,o)::(fp++R1))):=by
 revert w A₀ base h₀ L a ccd m mg mb mean R φ nl rl nw sl c z upto place lo hi ents v cs fp R1 Dw fo rows W act ta tp tt tq u q o I
 refine no_implicit_lambda% (aW ?_)
 refine no_implicit_lambda% (aW ?_)
 refine no_implicit_lambda% (aW ?_)
 refine no_implicit_lambda% (e44 ?n fun T0=>(?_:bp T0) () () () _ _ _ _ _ _ _ _ _ _ _ _ _ _ _ _ _ _ _ _ _ _ _ _ _ _ _ _ _ _ _ _ _ _ _ _ _ _ _ _ _)
 case n=>fail "n"
 intro O O O w A₀ base h₀ L a ccd m mg mb mean R φ nl rl nw sl c z upto place lo hi ents v cs fp R1 Dw fo rows W act ta tp tt tq u q o I
 intros
 clear T0
 conv in (lawBody _ _)=>whnf
 obtain rfl:fo = mMvs ents:=lw.fo1 rfl
 obtain ⟨vs,n,he,hl⟩:=lw.srt
 have hlen:=he.len
 have hez:=he.inn.size
 have hq3:=d.q3
 have hu8:=d.u8
 have mC:∀ p∈cs,p∈cs++((I,o)::(fp++R1)):=fun p hp=>aL hp
 have mR:∀ p∈R1,p∈cs++((I,o)::(fp++R1)):=fun p hp=>aR (.tail _ (aR hp))
 refine aj (cN (bt (af lm.merged rfl rfl rfl) rfl) (fun O=>?_) fun h=>nomatch h)
 have after:∀ (m3:MM) (place':Int) (tp':Tok),cW (mMvs ents) (aE 5 place) act u q = some (aE 5 place')→-1≤place'→place'≤5→LN m3 true c rl nw→LM m3 nl z true lo hi→m3 "act" = some (.int act ta)→m3 "broken" = some (.bool false)→m3 "place" = some (.int place' tp')→∀ {st:Stmt},st = ((match lawBody 21 6 with | .If _ b _ _=>b | _=>[]).drop 1).head!→Lx w (FL a ccd) (bL A₀ base h₀ L mg mb mean) (execs [st] (evx (FL a ccd) (bL A₀ base h₀ L mg mb mean))) (kφ w (FL a ccd) (bL A₀ base h₀ L mg mb mean) (evx (FL a ccd) (bL A₀ base h₀ L mg mb mean)) R φ) m3 (cs++((I,o)::(fp++R1))):=by
  intro m3 place' tp' hr hp0 hp5 ln3 lm3 f3 f4 f2 st hst
  subst hst
  conv in (List.head! _)=>whnf
  refine bo (dz (i:=4) (Px.lx (P:=IsB (ikb ⟨u,q,1⟩)) (pf1 (fv:=.ref 657) ok (ao ok nofun rfl rfl rfl) (bY (P:=fun a=>a = .bytes u tt) (P2:=fun a=>a = .int (q:Int) tq) (P3:=IsI 1) (a7 (i:=4) S.hc v4 mC (by decide) rfl rfl rfl rfl) (a7 (i:=5) S.hc v5 mC (by decide) rfl rfl rfl rfl) ab rfl rfl rfl) (fun vs h=>by
   obtain ⟨_,_,_,rfl,rfl,rfl,⟨_,rfl⟩⟩:=h
   exact ar ok (lik_c (kd:=1) hq3 (by decide) (by omega (splitNatSub:=true))) (fun O O h=>h) (fun O h=>nomatch h) rfl (by decide)) nofun rfl rfl rfl) fun v9 hv9=>.mk v cs ((I,o)::(fp++R1)) S.hc hoc (fun O h=>h) fun cs2 hc2=>?_) (by decide) rfl rfl rfl rfl)
  obtain ⟨t9,rfl⟩:=hv9
  exact k m3 false place' tp' t9 _ cs2 ⟨hr,hp0,hp5⟩ ⟨hc2,S.v0,S.v1,S.off,S.offC,S.w,S.p0,S.p5⟩ rfl ln3 lm3 f3 f4 f2
 have place5:∀ {x:Int},aE ents.length x = aE 5 x:=by rw [hlen];intro x;rfl
 refine aj (cN (bn (i:=act) (ac ⟨_,e3,_,rfl⟩ rfl rfl rfl) ab rfl) (fun h=>?_) fun h1=>?_)
 ·have h:act = 0:=of_decide_eq_true h
  refine bo (aM (Px.lx ab fun v9 hv9=>?_) rfl rfl rfl)
  obtain ⟨t9,rfl⟩:=hv9
  exact after _ 0 t9 (by unfold cW;rw [if_pos h];show some (aE ents.length 0) = _;rw [place5]) (by decide) (by decide) (ln.set rfl rfl rfl) (lm.set rfl rfl rfl rfl rfl) (aq rfl e3) (aq rfl e4) rfl rfl
 have n0:act≠0:=of_decide_eq_false h1
 refine bo (cN (bn (i:=act) (ac ⟨_,e3,_,rfl⟩ rfl rfl rfl) ab rfl) (fun h=>?_) fun h2=>?_)
 ·have h:act = 1:=of_decide_eq_true h
  refine bo (aM (Px.lx ab fun v9 hv9=>?_) rfl rfl rfl)
  obtain ⟨t9,rfl⟩:=hv9
  exact after _ 4 t9 (by unfold cW;rw [if_neg n0,if_pos h];show some (aE ents.length ((ents.length:Int) - 1)) = _;rw [place5,hlen];rfl) (by decide) (by decide) (ln.set rfl rfl rfl) (lm.set rfl rfl rfl rfl rfl) (aq rfl e3) (aq rfl e4) rfl rfl
 have n1:act≠1:=of_decide_eq_false h2
 refine bo (cN (bn (i:=act) (ac ⟨_,e3,_,rfl⟩ rfl rfl rfl) ab rfl) (fun h=>?_) fun h3=>?_)
 ·have h:act = 2:=of_decide_eq_true h
  have hsl:=seekN_le ents u q
  refine bo (aM (Px.lx (P:=IsI (seekN ents u q:Int)) (px_lenL (n:=seekN ents u q) (lx_compT (J:=JCnt ents fun e=>ltL (cut3 e) [.b u,.i (0 - (q:Int)),.i (-1)]) (a7 (i:=1) S.hc S.v1 mC (by decide) rfl rfl rfl rfl) (mR _ hl) (by omega (splitNatSub:=true)) rfl (fun i v9 ys nw T C hi9 hP hJ hsub hT hown=>?_) (fun D ys nw h hs hne=>.mk D _ _ _ (.head _) (fun p hp=>.tail _ (hs p hp)) (jcnt_all h hez)) nofun (by decide) rfl (by decide) rfl (fun O=>rfl) (fun O=>rfl) rfl (fun O=>rfl)) (ah ok nofun nofun (by decide) rfl rfl rfl) (by omega (splitNatSub:=true)) rfl rfl) fun v9 hv9=>?_) rfl rfl rfl)
  ·obtain ⟨e9,he9⟩:∃ e,ents[i]? = some e:=⟨_,List.getElem?_eq_getElem (by omega (splitNatSub:=true))⟩
   obtain ⟨aa,y1,y2,y3,y4,y5,kx,hv,hxm⟩:=he.inn.at' i e9 he9
   obtain rfl:v9 = .ref aa:=Option.some.inj ((show vs[i]? = some v9 from hP).symm.trans hv)
   obtain ⟨o4,m4,d4⟩:=S.hc.mem 4 (by decide)
   obtain ⟨o5,m5,d5⟩:=S.hc.mem 5 (by decide)
   rw [v4] at d4
   rw [v5] at d5
   have up:∀ p∈cs++((I,o)::(fp++R1)),p∈T:=fun p hp=>hT p (hsub p hp)
   exact turn_cut ok he9 hJ hown (up _ (mR _ hxm)) ab (fun zz=>bY (Px.mono (cD (.tail _ (up _ (mC _ m4))) d4 rfl rfl rfl rfl) fun a h=>⟨_,h⟩) (bq ab (Px.mono (cD (.tail _ (up _ (mC _ m5))) d5 rfl rfl rfl rfl) isI)) (bq ab ab) rfl rfl rfl) (fun O=>nofun) rfl
  ·obtain ⟨t9,rfl⟩:=hv9
   exact after _ _ t9 (by unfold cW;rw [if_neg n0,if_neg n1,if_pos h];show some (aE ents.length _) = _;rw [place5]) (by omega (splitNatSub:=true)) (by omega (splitNatSub:=true)) (ln.set rfl rfl rfl) (lm.set rfl rfl rfl rfl rfl) (aq rfl e3) (aq rfl e4) rfl rfl
 have n2:act≠2:=of_decide_eq_false h3
 obtain ⟨p0,p5⟩:=d.far (by have:=d.a0;omega (splitNatSub:=true))
 obtain ⟨j,rfl,hj5,hpj⟩:=placeP_in p0 p5
 refine bo (cN (bE (i:=act) (ac ⟨_,e3,_,rfl⟩ rfl rfl rfl) ab rfl) (fun h=>?_) fun h4=>?_)
 ·have h:act < 6:=of_decide_eq_true h
  refine bo (lx_augname e2 ab (op_iadd ⟨_,rfl⟩) (fun v9 hv9=>?_) rfl rfl)
  obtain ⟨t9,rfl⟩:=hv9
  refine after _ _ t9 ?_ (by omega (splitNatSub:=true)) (by omega (splitNatSub:=true)) (ln.set rfl rfl rfl) (lm.set rfl rfl rfl rfl rfl) (aq rfl e3) (aq rfl e4) rfl rfl
  rw [hpj]
  unfold cW
  rw [if_neg n0,if_neg n1,if_neg n2]
  show (if act < 6 then some (aE ents.length ((j:Int) + 1)) else _) = _
  rw [if_pos h,place5]
 ·have h:¬ act < 6:=of_decide_eq_false h4
  refine bo (lx_augname e2 ab (op_isub ⟨_,rfl⟩) (fun v9 hv9=>?_) rfl rfl)
  obtain ⟨t9,rfl⟩:=hv9
  refine after _ _ t9 ?_ (by omega (splitNatSub:=true)) (by omega (splitNatSub:=true)) (ln.set rfl rfl rfl) (lm.set rfl rfl rfl rfl rfl) (aq rfl e3) (aq rfl e4) rfl rfl
  rw [hpj]
  unfold cW
  rw [if_neg n0,if_neg n1,if_neg n2]
  show (if act < 6 then _ else some (aE ents.length ((j:Int) - 1))) = _
  rw [if_neg h,place5]
end
section
variable {w:World} {F:FnC} {b:Bx} {m:MM} {led:Led} {φ:FP} {pos:Pos} {env:Env} {c:Bool}
theorem lx_ifq {test:Expr} {body rest:List Stmt} (ψ:MM→Led→Prop) (h:Px w F b (isTrue test env (eval test env)) (fun a=>a = c) m led) (h1:c = true→Lx w F b (execs body env) (fun fl m' led'=>fl = .next∧ψ m' led') m led) (h2:c = false→ψ m led) (hq:∀ m' led',ψ m' led'→Lx w F b (execs rest env) φ m' led'):Lx w F b (execs (.If test body [] pos::rest) env) φ m led :=
 aj (cN h (fun e=>(h1 e).mono fun fl m' led' hp=>by obtain ⟨rfl,hp⟩:=hp;exact hq m' led' hp) fun e=>ae (hq m led (h2 e)))
end
theorem isO_bnd (o:Option (Array UInt8)) (t:Tok):IsO o (bW o t):=by cases o with | none=>rfl | some x=>exact ⟨t,rfl⟩
theorem new_lt {ents:List En} {upto:Int}:∀ i∈aI ents upto,i < ents.length:=fun i hi=>List.mem_range.mp (List.mem_filter.mp hi).1
theorem new_len {ents:List En} {upto:Int}:(aI ents upto).length≤ents.length:=Nat.le_trans (List.length_filter_le _ _) (by rw [List.length_range];exact Nat.le_refl _)
section
variable {w:World} {A₀:Around} {base h₀:Heap} {L a:Addr} {ccd:Value} {m mg mb:MM} {mean:ExcName→Option Value} {s:Shared} {D:Led} {Q:FS} {E:VS} {R:List Stmt} {φ:FP}
variable {nl rl nw sl c:Addr} {z upto place:Int} {wk:Bool} {lo hi:Option (Array UInt8)} {ents:List En} {v:Nat→Option Value} {cs fp R1:Led} {Dw:Nat} {fo:Mvs} {rows:List RowB} {W:WkP}
theorem b6u {act:Int} {ta tp tt:Tok} {u:Array UInt8} {q:Nat} {o:Obj} {I:Addr} (ok:Okx w 100 (bL A₀ base h₀ L mg mb mean)) (hu0:0≤upto) (lw:LawW w false ents upto lo hi Dw fo rows W R1 c rl nw sl nl) (ln:LN m false c rl nw) (lm:LM m nl z false lo hi) (S:ActS L v cs fp R1 W c sl upto place) (d:ActD act place u q) (v4:v 4 = some (.bytes u tt)) (e2:m "place" = some (.int place tp)) (e3:m "act" = some (.int act ta)) (hoc:ba L ((I,o)::(fp++R1)))
  (k:∀ m' br place' tp' tt v' cs',ActT fo act place u q br place'→ActS L v' cs' fp R1 W c sl upto place→v' 4 = some (.bytes (tgB false u q) tt)→LN m' false c rl nw→LM m' nl z false lo hi→m' "act" = some (.int act ta)→m' "broken" = some (.bool br)→m' "place" = some (.int place' tp')→Lx w (FL a ccd) (bL A₀ base h₀ L mg mb mean) (execs R (evx (FL a ccd) (bL A₀ base h₀ L mg mb mean))) φ m' (cs'++((I,o)::(fp++R1)))) :
  Lx w (FL a ccd) (bL A₀ base h₀ L mg mb mean) (execs (lawBody 21 6::R) (evx (FL a ccd) (bL A₀ base h₀ L mg mb mean))) φ m (cs++((I,o)::(fp++R1))):=by
 revert w A₀ base h₀ L a ccd m mg mb mean R φ nl rl nw sl c z upto place lo hi ents v cs fp R1 Dw fo rows W act ta tp tt u q o I
 refine no_implicit_lambda% (e40 ?n fun T0=>(?_:bp T0) _ _ _ _ _ _ _ _ _ _ _ _ _ _ _ _ _ _ _ _ _ _ _ _ _ _ _ _ _ _ _ _ _ _ _ _ _ _ _ _)
 case n=>fail "n"
 intro w A₀ base h₀ L a ccd m mg mb mean R φ nl rl nw sl c z upto place lo hi ents v cs fp R1 Dw fo rows W act ta tp tt u q o I
 intros
 clear T0
 conv in (lawBody _ _)=>whnf
 obtain ⟨hfo,nvs,nn,hnl,hni⟩:=lw.fo2 rfl
 subst hfo
 obtain ⟨vs,n,he,hl⟩:=lw.srt
 have hlen:=he.len
 have hez:=he.inn.size
 have hu8:=d.u8
 have mC:∀ {cs9:Led},∀ p∈cs9,p∈cs9++((I,o)::(fp++R1)):=fun p hp=>aL hp
 have mR:∀ {cs9:Led},∀ p∈R1,p∈cs9++((I,o)::(fp++R1)):=fun p hp=>aR (.tail _ (aR hp))
 obtain ⟨ut,v0⟩:=S.v0
 refine aj (cN (bt (af lm.merged rfl rfl rfl) rfl) (fun h=>nomatch h) fun O=>?_)
 have fin:∀ (m4:MM) (cs4:Led) (w4:Nat→Option Value) (p:Bool × Option Nat) (tg:Tok) (led4:Led),cW (uMvs ents upto lo hi) (aE 5 place) act u q = eu p→(∀ i,p.2 = some i→i < 5)→ActS L w4 cs4 fp R1 W c sl upto place→w4 4 = some (.bytes u tt)→LN m4 false c rl nw→LM m4 nl z false lo hi→m4 "act" = some (.int act ta)→(∀ q∈cs4++((I,o)::(fp++R1)),q∈led4)→Lx w (FL a ccd) (bL A₀ base h₀ L mg mb mean) (execs R (evx (FL a ccd) (bL A₀ base h₀ L mg mb mean))) φ (ms (ms m4 "broken" (.bool p.1)) "place" (.int (gI p.2) tg)) led4:=fun m4 cs4 w4 p tg led4 h1 h2 S4 h4 ln4 lm4 ea hs =>
  Lx.sub hs (k _ p.1 (gI p.2) tg tt w4 cs4 (actT_user h1 h2) S4 h4 ((ln4.set rfl rfl rfl).set rfl rfl rfl) ((lm4.set rfl rfl rfl rfl rfl).set rfl rfl rfl rfl rfl) (aq rfl (aq rfl ea)) rfl rfl)
 have inA:∀ {start:Nat} {past:Option (Array UInt8)},∀ i,(c9 ents (aI ents upto) start past hi).2 = some i→i < 5:=fun i h=>by
  obtain ⟨e,h1,-⟩:=ahead_in he.eok h
  have:=(List.getElem?_eq_some_iff.mp h1).1
  omega
 have inB:∀ {edge:Nat},∀ i,(c8 ents upto edge lo).2 = some i→i < 5:=fun i h=>by
  obtain ⟨e,h1,-⟩:=cm h
  have:=(List.getElem?_eq_some_iff.mp h1).1
  omega
 refine bo (cN (bn (i:=act) (ac ⟨_,e3,_,rfl⟩ rfl rfl rfl) ab rfl) (fun h=>?_) fun h1=>?_)
 ·have h:act = 1:=of_decide_eq_true h
  refine aj (aM (Px.lx ab fun v9 hv9=>?_) rfl rfl rfl)
  obtain ⟨t9,rfl⟩:=hv9
  obtain ⟨th,eh⟩:=lm.high
  refine lx_ifq (fun m' led'=>led' = cs++((I,o)::(fp++R1))∧∃ te,m' "edge" = some (.int (edgeH ents hi:Int) te)∧LN m' false c rl nw∧LM m' nl z false lo hi∧m' "act" = some (.int act ta)) (dK (o:=hi) (ac ⟨_,aq rfl eh,isO_bnd hi th⟩ rfl rfl rfl) bQ rfl) (fun hs=>?_) (fun hs=>?_) fun m' led' hp=>?_
  ·obtain ⟨x,rfl⟩:=Option.isSome_iff_exists.mp hs
   refine bo (aM (Px.lx (P:=IsI (belowZ ents x:Int)) (pf1 (fv:=.ref 683) ok (ao ok nofun rfl rfl rfl) (aU (a7 (i:=1) S.hc S.v1 mC (by decide) rfl rfl rfl rfl) (af (aq rfl eh) rfl rfl rfl) rfl rfl) (ar2 <| by
    exact ar ok (below_c (D:=0) (tu:=th) (mR _ hl) (he.inn.mono mR) (by omega)) (fun O O h=>h) (fun O h=>nomatch h) rfl (by decide)) nofun rfl rfl rfl) fun v9 hv9=>⟨rfl,rfl,?_⟩) rfl rfl rfl)
   obtain ⟨te,rfl⟩:=hv9
   exact ⟨te,rfl,(ln.set rfl rfl rfl).set rfl rfl rfl,(lm.set rfl rfl rfl rfl rfl).set rfl rfl rfl rfl rfl,aq rfl (aq rfl e3)⟩
  ·have hn:hi = none:=by cases hi with | none=>rfl | some x=>cases hs
   subst hn
   exact ⟨rfl,t9,(by show some (Value.int 5 t9) = some (.int (ents.length:Int) t9);rw [hlen];rfl),ln.set rfl rfl rfl,lm.set rfl rfl rfl rfl rfl,aq rfl e3⟩
  ·obtain ⟨rfl,te,ee,ln3,lm3,ea⟩:=hp
   obtain ⟨tl,el⟩:=lm3.low
   refine bo (lx_tup2 (lf1 (fv:=.ref 698) ok (ao ok nofun rfl rfl rfl) (bv (a7 (i:=1) S.hc S.v1 mC (by decide) rfl rfl rfl rfl) (bv (af (ln3.newest rfl) rfl rfl rfl) (bv (af ee rfl rfl rfl) (bv (a7 (i:=0) S.hc v0 mC (by decide) rfl rfl rfl rfl) (bv (af el rfl rfl rfl) px_cn0 rfl) rfl) rfl) rfl) rfl) (cn5 fun O h3=>?_) nofun rfl rfl rfl) rfl rfl rfl rfl rfl)
   subst h3
   refine aX ok rfl (by decide:2≤100) (behind_c (D:=0) (mR _ hl) (he.inn.mono mR) (by omega) (mR _ hnl) hni (edgeH_le _ _) he.eok.sortE) (fun p hp=>hp) fun r fp' h=>?_
   obtain ⟨t,tg,n9,rfl,hmem⟩:=h
   refine ⟨t,_,_,n9,rfl,aL hmem,fin _ cs v _ tg _ ?_ inB S v4 ln3 lm3 ea fun p hp=>aR hp⟩
   unfold cW
   rw [if_neg (by omega),if_pos h]
   rfl
 have n1:act≠1:=of_decide_eq_false h1
 refine bo (cN (cS (i:=act) (ac ⟨_,e3,_,rfl⟩ rfl rfl rfl) ab rfl) (fun h=>?_) fun h5=>?_)
 ·have h:5 < act:=of_decide_eq_true h
  obtain ⟨p0,p5⟩:=d.far (by omega)
  obtain ⟨j,rfl,hj5,hpj⟩:=placeP_in p0 p5
  obtain ⟨e9,he9⟩:∃ e,ents[j]? = some e:=⟨_,List.getElem?_eq_getElem (by omega)⟩
  obtain ⟨aa,y1,y2,y3,y4,y5,kx,hv,hxm⟩:=he.inn.at' j e9 he9
  obtain ⟨tl,el⟩:=lm.low
  refine bo (lx_tup2 (lf1 (fv:=.ref 698) ok (ao ok nofun rfl rfl rfl) (bv (a7 (i:=1) S.hc S.v1 mC (by decide) rfl rfl rfl rfl) (bv (af (ln.newest rfl) rfl rfl rfl) (bv (P:=IsI (belowZ ents e9.u:Int)) (pf1 (fv:=.ref 683) ok (ao ok nofun rfl rfl rfl) (aU (a7 (i:=1) S.hc S.v1 mC (by decide) rfl rfl rfl rfl) (bh (k:=0) (aK (k:=(j:Int)) (a7 (i:=1) S.hc S.v1 mC (by decide) rfl rfl rfl rfl) (ac ⟨_,e2,_,rfl⟩ rfl rfl rfl) (mR _ hl) (by omega) (by omega) hv fun O=>nofun) ab (mR _ hxm) (by decide) (by decide) rfl fun O=>nofun) rfl rfl) (ar2 <| by
    exact ar ok (below_c (D:=0) (tu:=y1) (mR _ hl) (he.inn.mono mR) (by omega)) (fun O O h=>h) (fun O h=>nomatch h) rfl (by decide)) nofun rfl rfl rfl) (bv (a7 (i:=0) S.hc v0 mC (by decide) rfl rfl rfl rfl) (bv (af el rfl rfl rfl) px_cn0 rfl) rfl) rfl) rfl) rfl) (cn5 fun O h3=>?_) nofun rfl rfl rfl) rfl rfl rfl rfl rfl)
  obtain ⟨te,rfl⟩:=h3
  refine aX ok rfl (by decide:2≤100) (behind_c (D:=0) (mR _ hl) (he.inn.mono mR) (by omega) (mR _ hnl) hni (cF _ _) he.eok.sortE) (fun p hp=>hp) fun r fp' h=>?_
  obtain ⟨t,tg,n9,rfl,hmem⟩:=h
  refine ⟨t,_,_,n9,rfl,aL hmem,fin _ cs v _ tg _ ?_ inB S v4 ln lm e3 fun p hp=>aR hp⟩
  rw [hpj]
  unfold cW
  rw [if_neg (by omega),if_neg n1,if_neg (by omega)]
  show (if act < 6 then _ else uBack ents upto lo j) = _
  rw [if_neg (by omega)]
  unfold uBack
  rw [dj he9]
 have n5:¬ 5 < act:=of_decide_eq_false h5
 refine bo (cN (cS (i:=act) (ac ⟨_,e3,_,rfl⟩ rfl rfl rfl) ab rfl) (fun h=>?_) fun h2=>?_)
 ·have h:2 < act:=of_decide_eq_true h
  obtain ⟨p0,p5⟩:=d.far h
  obtain ⟨j,rfl,hj5,hpj⟩:=placeP_in p0 p5
  obtain ⟨e9,he9⟩:∃ e,ents[j]? = some e:=⟨_,List.getElem?_eq_getElem (by omega)⟩
  obtain ⟨aa,y1,y2,y3,y4,y5,kx,hv,hxm⟩:=he.inn.at' j e9 he9
  obtain ⟨th,eh⟩:=lm.high
  refine bo (lx_tup2 (lf1 (fv:=.ref 693) ok (ao ok nofun rfl rfl rfl) (bv (a7 (i:=1) S.hc S.v1 mC (by decide) rfl rfl rfl rfl) (bv (af (ln.newest rfl) rfl rfl rfl) (bv (P:=IsI ((j + 1:Nat):Int)) (Px.mono (cJ (ac ⟨_,e2,_,rfl⟩ rfl rfl rfl) ab) fun v h=>by rw [show ((j + 1:Nat):Int) = (j:Int) + 1 by omega];exact h) (bv (bh (k:=0) (aK (k:=(j:Int)) (a7 (i:=1) S.hc S.v1 mC (by decide) rfl rfl rfl rfl) (ac ⟨_,e2,_,rfl⟩ rfl rfl rfl) (mR _ hl) (by omega) (by omega) hv fun O=>nofun) ab (mR _ hxm) (by decide) (by decide) rfl fun O=>nofun) (bv (af eh rfl rfl rfl) px_cn0 rfl) rfl) rfl) rfl) rfl) (cn5 fun O h3=>?_) nofun rfl rfl rfl) rfl rfl rfl rfl rfl)
  obtain ⟨te,rfl⟩:=h3
  refine aX ok rfl (by decide:2≤100) (ahead_c (D:=0) (past:=some e9.u) (tp:=y1) (mR _ hl) (he.inn.mono mR) (by omega) (mR _ hnl) hni new_lt (by have:=new_len (ents:=ents) (upto:=upto);omega) (by omega)) (fun p hp=>hp) fun r fp' h=>?_
  obtain ⟨t,tg,n9,rfl,hmem⟩:=h
  refine ⟨t,_,_,n9,rfl,aL hmem,fin _ cs v _ tg _ ?_ inA S v4 ln lm e3 fun p hp=>aR hp⟩
  rw [hpj]
  unfold cW
  rw [if_neg (by omega),if_neg n1,if_neg (by omega)]
  show (if act < 6 then uStep ents upto hi j else _) = _
  rw [if_pos (by omega)]
  unfold uStep
  rw [dj he9]
 have n2:¬ 2 < act:=of_decide_eq_false h2
 obtain ⟨tl,el⟩:=lm.low
 refine aj (dz (i:=6) (Px.lx (P:=fun a=>a = bW lo tl) (af el rfl rfl rfl) fun v9 hv9=>.mk v cs ((I,o)::(fp++R1)) S.hc hoc (fun O h=>h) fun cs2 hc2=>?_) (by decide) rfl rfl rfl rfl)
 subst hv9
 have S2:ActS L (vset v 6 (bW lo tl)) cs2 fp R1 W c sl upto place:=⟨hc2,S.v0,S.v1,S.off,S.offC,S.w,S.p0,S.p5⟩
 refine lx_ifq (fun m' led'=>m' = m∧∃ cs4 w4 so t,led' = cs4++((I,o)::(fp++R1))∧ActS L w4 cs4 fp R1 W c sl upto place∧w4 4 = some (.bytes u tt)∧w4 0 = some (.int upto ut)∧w4 6 = some (bW so t)∧so = if act = 2 then some (co lo u) else lo) (ck (bn (i:=act) (ac ⟨_,e3,_,rfl⟩ rfl rfl rfl) ab rfl) fun O=>cZ (c2:=!ltB u (lo.getD #[])) (pc_is (o:=lo) (ac ⟨_,el,isO_bnd lo tl⟩ rfl rfl rfl) bQ rfl) fun hs=>pc_geB (Px.mono (a7 (i:=4) S2.hc v4 mC (by decide) rfl rfl rfl rfl) fun a h=>⟨_,h⟩) (by cases lo with | none=>cases hs | some l=>exact (ac ⟨_,el,tl,rfl⟩ rfl rfl rfl)) rfl) (fun hs=>?_) (fun hs=>?_) fun m' led' hp=>?_
 ·rw [Bool.and_eq_true] at hs
  have ha:act = 2:=of_decide_eq_true hs.1
  refine bo (dz (i:=6) (Px.lx (a7 (i:=4) S2.hc v4 mC (by decide) rfl rfl rfl rfl) fun v9 hv9=>.mk _ cs2 ((I,o)::(fp++R1)) hc2 hoc (fun O h=>h) fun cs3 hc3=>⟨rfl,rfl,cs3,_,some (co lo u),tt,rfl,⟨hc3,S.v0,S.v1,S.off,S.offC,S.w,S.p0,S.p5⟩,v4,v0,?_,by rw [if_pos ha]⟩) (by decide) rfl rfl rfl rfl)
  subst hv9
  have hcl:co lo u = u:=by
   cases lo with
   | none=>rfl
   | some l =>
    have h2:(!ltB u l) = true:=hs.2
    unfold co
    show (if ltB u l = true then l else u) = u
    cases hx:ltB u l with
    | true=>rw [hx] at h2;cases h2
    | false=>rfl
  rw [hcl]
  rfl
 ·refine ⟨rfl,cs2,_,lo,tl,rfl,S2,v4,v0,rfl,?_⟩
  by_cases ha:act = 2
  ·rw [if_pos ha]
   rw [show (act == 2) = true from decide_eq_true ha,Bool.true_and,Bool.or_eq_false_iff] at hs
   cases lo with
   | none=>cases hs.1
   | some l =>
    have h2:(!ltB u l) = false:=hs.2
    unfold co
    show some l = some (if ltB u l = true then l else u)
    cases hx:ltB u l with
    | true=>rfl
    | false=>rw [hx] at h2;cases h2
  ·rw [if_neg ha]
 obtain ⟨rfl,cs4,w4,so,t6,rfl,S4,w44,w40,w46,hso⟩:=hp
 refine aj (aM (Px.lx ab fun v9 hv9=>?_) rfl rfl rfl)
 obtain ⟨t9,rfl⟩:=hv9
 refine lx_ifq (fun m9 led'=>led' = cs4++((I,o)::(fp++R1))∧∃ te,m9 "n" = some (.int (seekO ents so upto.toNat:Int) te)∧LN m9 false c rl nw∧LM m9 nl z false lo hi∧m9 "act" = some (.int act ta)) (dK (o:=so) (Px.mono (a7 (i:=6) S4.hc w46 mC (by decide) rfl rfl rfl rfl) fun a h=>h ▸ isO_bnd so t6) bQ rfl) (fun hs=>?_) (fun hs=>?_) fun m9 led' hp=>?_
 ·obtain ⟨x,rfl⟩:=Option.isSome_iff_exists.mp hs
  have hsl:=seekN_le ents x upto.toNat
  refine bo (aM (Px.lx (P:=IsI (seekN ents x upto.toNat:Int)) (px_lenL (n:=seekN ents x upto.toNat) (lx_compT (J:=JCnt ents fun e=>ltL (cut3 e) [.b x,.i (0 - (upto.toNat:Int)),.i (-1)]) (a7 (i:=1) S4.hc S4.v1 mC (by decide) rfl rfl rfl rfl) (mR _ hl) (by omega) rfl (fun i v9 ys nw T C hi9 hP hJ hsub hT hown=>?_) (fun D ys nw h hs hne=>.mk D _ _ _ (.head _) (fun p hp=>.tail _ (hs p hp)) (jcnt_all h hez)) nofun (by decide) rfl (by decide) rfl (fun O=>rfl) (fun O=>rfl) rfl (fun O=>rfl)) (ah ok nofun nofun (by decide) rfl rfl rfl) (by omega) rfl rfl) fun v9 hv9=>⟨rfl,rfl,?_⟩) rfl rfl rfl)
  ·obtain ⟨e9,he9⟩:∃ e,ents[i]? = some e:=⟨_,List.getElem?_eq_getElem (by omega)⟩
   obtain ⟨aa,y1,y2,y3,y4,y5,kx,hv,hxm⟩:=he.inn.at' i e9 he9
   obtain rfl:v9 = .ref aa:=Option.some.inj ((show vs[i]? = some v9 from hP).symm.trans hv)
   obtain ⟨o6,m6,d6⟩:=S4.hc.mem 6 (by decide)
   obtain ⟨o0,m0,d0⟩:=S4.hc.mem 0 (by decide)
   rw [w46] at d6
   rw [w40] at d0
   have up:∀ p∈cs4++((I,o)::(fp++R1)),p∈T:=fun p hp=>hT p (hsub p hp)
   exact turn_cut ok he9 hJ hown (up _ (mR _ hxm)) ab (fun zz=>bY (Px.mono (cD (.tail _ (up _ (mC _ m6))) d6 rfl rfl rfl rfl) fun a h=>⟨t6,h⟩) (Px.mono (bq ab (Px.mono (cD (.tail _ (up _ (mC _ m0))) d0 rfl rfl rfl rfl) isI)) fun a h=>by rw [show ((upto.toNat:Nat):Int) = upto by omega];exact h) (bq ab ab) rfl rfl rfl) (fun O=>nofun) rfl
  ·obtain ⟨te,rfl⟩:=hv9
   exact ⟨te,rfl,(ln.set rfl rfl rfl).set rfl rfl rfl,(lm.set rfl rfl rfl rfl rfl).set rfl rfl rfl rfl rfl,aq rfl (aq rfl e3)⟩
 ·have hn:so = none:=by cases so with | none=>rfl | some x=>cases hs
  rw [hn]
  exact ⟨rfl,t9,rfl,ln.set rfl rfl rfl,lm.set rfl rfl rfl rfl rfl,aq rfl e3⟩
 ·obtain ⟨rfl,te,ee,ln3,lm3,ea⟩:=hp
  obtain ⟨th,eh⟩:=lm3.high
  have hst:seekO ents so upto.toNat≤5:=by
   cases so with
   | none=>exact Nat.zero_le _
   | some x=>have:=seekN_le ents x upto.toNat;show seekN ents x upto.toNat≤5;omega
  refine bo (lx_tup2 (lf1 (fv:=.ref 693) ok (ao ok nofun rfl rfl rfl) (bv (a7 (i:=1) S4.hc S4.v1 mC (by decide) rfl rfl rfl rfl) (bv (af (ln3.newest rfl) rfl rfl rfl) (bv (af ee rfl rfl rfl) (bv bQ (bv (af eh rfl rfl rfl) px_cn0 rfl) rfl) rfl) rfl) rfl) (cn5 fun O h3=>?_) nofun rfl rfl rfl) rfl rfl rfl rfl rfl)
  subst h3
  refine aX ok rfl (by decide:2≤100) (ahead_c (D:=0) (past:=none) (tp:=0) (mR _ hl) (he.inn.mono mR) (by omega) (mR _ hnl) hni new_lt (by have:=new_len (ents:=ents) (upto:=upto);omega) hst) (fun p hp=>hp) fun r fp' h=>?_
  obtain ⟨t,tg,n9,rfl,hmem⟩:=h
  refine ⟨t,_,_,n9,rfl,aL hmem,fin _ cs4 w4 _ tg _ ?_ inA S4 w44 ln3 lm3 ea fun p hp=>aR hp⟩
  rw [hso]
  have a0:=d.a0
  by_cases ha:act = 2
  ·unfold cW
   rw [if_neg (by omega),if_neg n1,if_pos ha,if_pos ha]
   rfl
  ·unfold cW
   rw [if_pos (by omega),if_neg ha]
   rfl
end
theorem ba.adr {L:Addr} {a b D:Led} (h:ba L (a++D)) (e:ak b a):ba L (b++D):=fun p hp=>by
 fail "a"
 ·have:p.1∈a.map (·.1):=e ▸ List.mem_map_of_mem hp
  obtain ⟨p',hp',e'⟩:=List.mem_map.mp this
  rw [← e'];exact h p' (aL hp')
 ·exact h p (aR hp)
inductive J21 (L:Addr) (nl rl nw sl c:Addr) (z upto:Int) (wk:Bool) (lo hi:Option (Array UInt8)) (W:WkP) (R1:Led) (i:Nat):MM→Led→Prop
 | mk (m₁:MM) (fp cs:Led) (v:Nat→Option Value) (place:Int) (tp:Tok) (ln:LN m₁ wk c rl nw) (lm:LM m₁ nl z wk lo hi) (e2:m₁ "place" = some (.int place tp)) (S:ActS L v cs fp R1 W c sl upto place):J21 L nl rl nw sl c z upto wk lo hi W R1 i m₁ (cs++(fp++R1))
section
variable {w:World} {A₀:Around} {base h₀:Heap} {L a:Addr} {ccd:Value} {m mg mb:MM} {mean:ExcName→Option Value} {s:Shared} {D:Led} {Q:FS} {E:VS} {R:List Stmt} {φ:FP}
variable {nl rl nw sl c:Addr} {z upto place:Int} {wk:Bool} {lo hi:Option (Array UInt8)} {ents:List En} {v:Nat→Option Value} {cs fp R1:Led} {Dw:Nat} {fo:Mvs} {rows:List RowB} {W:WkP}
theorem b7 {act place':Int} {br:Bool} {ta tp' tt:Tok} {u:Array UInt8} {q:Nat} {o:Obj} {I:Addr} (ok:Okx w 100 (bL A₀ base h₀ L mg mb mean)) (XB:(Mine.hd.heap_39 w.params).In base) (TB:Top VW (looseW VW []) mean mg mb base) (lw:LawW w wk ents upto lo hi Dw fo rows W R1 c rl nw sl nl) (ln:LN m wk c rl nw) (lm:LM m nl z wk lo hi) (S:ActS L v cs fp R1 W c sl upto place) (d:ActD act place u q) (T9:ActT fo act place u q br place') (v4:v 4 = some (.bytes (tgB wk u q) tt)) (e2:m "place" = some (.int place' tp')) (e3:m "act" = some (.int act ta)) (e4:m "broken" = some (.bool br)) (hI:Off fp [(I,o)])
  (k:∀ m' place2 tp2 fp2,ak fp2 fp→LN m' wk c rl nw→LM m' nl z wk lo hi→m' "place" = some (.int place2 tp2)→ActS L v cs fp2 R1 W c sl upto place2→Lx w (FL a ccd) (bL A₀ base h₀ L mg mb mean) (execs R (evx (FL a ccd) (bL A₀ base h₀ L mg mb mean))) φ m' (fp2++([(I,o)]++(cs++R1)))) :
  Lx w (FL a ccd) (bL A₀ base h₀ L mg mb mean) (execs (lawBody 21 7::lawBody 21 8::lawBody 21 9::R) (evx (FL a ccd) (bL A₀ base h₀ L mg mb mean))) φ m (fp++([(I,o)]++(cs++R1))):=by
 revert w A₀ base h₀ L a ccd m mg mb mean R φ nl rl nw sl c z upto place wk lo hi ents v cs fp R1 Dw fo rows W act place' br ta tp' tt u q o I
 refine no_implicit_lambda% (aW ?_)
 refine no_implicit_lambda% (e44 ?n fun T0=>(?_:bp T0) () _ _ _ _ _ _ _ _ _ _ _ _ _ _ _ _ _ _ _ _ _ _ _ _ _ _ _ _ _ _ _ _ _ _ _ _ _ _ _ _ _ _ _)
 case n=>fail "n"
 intro O w A₀ base h₀ L a ccd m mg mb mean R φ nl rl nw sl c z upto place wk lo hi ents v cs fp R1 Dw fo rows W act place' br ta tp' tt u q o I
 intros
 clear T0
 conv in (lawBody _ _)=>whnf
 conv in (lawBody _ _)=>whnf
 conv in (lawBody _ _)=>whnf
 have hE:=offE S.hc S.off S.offC
 have hE2:Off fp ([(I,o)]++(cs++R1)):=fun p hp r hr=>(List.mem_append.mp hr).elim (hI p hp r) (hE p hp r)
 have hR:∀ x∈R1,x∈[(I,o)]++(cs++R1):=fun x hx=>aR (aR hx)
 have mC:∀ p∈cs,p∈fp++([(I,o)]++(cs++R1)):=fun p hp=>aR (aR (aL hp))
 have hbr:(cW fo (aE 5 place) act u q).isNone = br:=by
  rw [T9.rel]
  cases br with
  | true=>rfl
  | false=>rfl
 have hgd:(cW fo (aE 5 place) act u q).getD none = aE 5 (if br = true then -1 else place'):=by
  rw [T9.rel]
  cases br with
  | true=>rfl
  | false=>rfl
 have htc:=turn_c (E0:=[(I,o)]++(cs++R1)) (ta:=ta) (tt:=tt) (u:=u) (q:=q) (act:=act) lw.spec S.w hR hE2 d.a0 (fun h=>by obtain ⟨p0,p5⟩:=d.far h;obtain ⟨j,-,-,h3⟩:=placeP_in p0 p5;exact ⟨j,h3⟩) d.u8 d.q3
 refine aj (lx_ifC (θ:=fun bb m' led'=>bb = false∧m' = m∧∃ fp2,led' = fp2++([(I,o)]++(cs++R1))∧ak fp2 fp∧W fp2 R1 c (aE 5 (if br = true then -1 else place'))) (fun s Q E f N q9=>wpAny_isTrue_Compare1 (lf1 (fv:=.ref 705) (ψ:=fun r m' led'=>r = .bool br∧m' = m∧∃ fp2,led' = fp2++([(I,o)]++(cs++R1))∧ak fp2 fp∧W fp2 R1 c (aE 5 (if br = true then -1 else place'))) ok (ao ok nofun rfl rfl rfl) (bY (af ln.walker rfl rfl rfl) (af e3 rfl rfl rfl) (a7 (i:=4) S.hc v4 mC (by decide) rfl rfl rfl rfl) rfl rfl rfl) (ar3 <| by
  exact lx_callL ok rfl XB TB rfl (by have:=lw.hD;omega) htc (fun p hp=>hp) fun r fp' h=>⟨by rw [h.1,hbr],rfl,fp',rfl,h.2.1,by rw [← hgd];exact h.2.2⟩) nofun rfl rfl rfl s _ E f N fun r m' led' h' tk' hp F' N'=>?_) rfl) (fun m' led' h=>nomatch h.1) fun m' led' h=>?_)
 ·obtain ⟨rfl,rfl,fp2,rfl,h3,h4⟩:=hp
  exact (af e4 rfl rfl rfl) _ _ E F' N' fun a2 h2 tk2 pa F2 N2=>by
   subst pa
   refine ne_bool (wpAny_truthy_bool (q9 _ _ _ h2 tk2 ⟨?_,rfl,fp2,rfl,h3,h4⟩ F2 N2))
   cases br <;> rfl
 ·obtain ⟨-,rfl,fp2,rfl,h3,h4⟩:=h
  have ho2:Off fp2 R1:=S.off.adr h3
  have hc2:ba L (fp2++R1):=S.offC.adr h3
  have hI2:Off fp2 [(I,o)]:=hI.adr h3
  have S2:ActS L v cs fp2 R1 W c sl upto (if br = true then -1 else place'):=⟨S.hc,S.v0,S.v1,ho2,hc2,h4,by cases br with | true=>exact (by decide:(-1:Int)≤-1) | false=>exact T9.p0,by cases br with | true=>exact (by decide:(-1:Int)≤5) | false=>exact T9.p5⟩
  refine ae (lx_ifq (fun m9 led9=>led9 = fp2++([(I,o)]++(cs++R1))∧∃ tp2,m9 "place" = some (.int (if br = true then -1 else place') tp2)∧LN m9 wk c rl nw∧LM m9 nl z wk lo hi) (bt (af e4 rfl rfl rfl) rfl) (fun hb=>?_) (fun hb=>?_) fun m9 led9 hp=>?_)
  ·subst hb
   refine bo (aM (Px.lx (P:=IsI (-1)) (bq ab ab) fun v9 hv9=>⟨rfl,rfl,?_⟩) rfl rfl rfl)
   obtain ⟨t9,rfl⟩:=hv9
   exact ⟨t9,rfl,ln.set rfl rfl rfl,lm.set rfl rfl rfl rfl rfl⟩
  ·subst hb
   exact ⟨rfl,tp',e2,ln,lm⟩
  ·obtain ⟨rfl,tp2,f2,ln2,lm2⟩:=hp
   exact aj (cN (cc:=!true) (dJ (bt (px_agree (D:=[(I,o)]) ok XB TB lw S2 (fun p hp=>hp) (fun p hp=>hp) hI2 (ao ok nofun rfl rfl rfl) (af ln2.walker rfl rfl rfl) (af ln2.rows rfl rfl rfl) (af f2 rfl rfl rfl) rfl rfl rfl rfl rfl) rfl)) (fun h=>nomatch h) fun O=>ae (k m9 _ tp2 fp2 h3 ln2 lm2 f2 S2))
theorem q21 {tp:Tok} (ok:Okx w 100 (bL A₀ base h₀ L mg mb mean)) (XB:(Mine.hd.heap_39 w.params).In base) (TB:Top VW (looseW VW []) mean mg mb base) (hu0:0≤upto) (lw:LawW w wk ents upto lo hi Dw fo rows W R1 c rl nw sl nl) (ln:LN m wk c rl nw) (lm:LM m nl z wk lo hi) (e2:m "place" = some (.int place tp)) (S:ActS L v cs fp R1 W c sl upto place)
  (k:∀ m' led',Ly w (FL a ccd) (bL A₀ base h₀ L mg mb mean) (execs R (evx (FL a ccd) (bL A₀ base h₀ L mg mb mean))) s Q E m' led') :
  Ly w (FL a ccd) (bL A₀ base h₀ L mg mb mean) (execs (lawAt 21::R) (evx (FL a ccd) (bL A₀ base h₀ L mg mb mean))) s Q E m (cs++(fp++R1)):=by
 conv in (lawAt _)=>whnf
 have z0:=Int.fmod_nonneg_of_pos z (b:=2) (by decide)
 have z1:=Int.fmod_lt_of_pos z (b:=2) (by decide)
 obtain ⟨n,hn⟩:=Int.eq_ofNat_of_zero_le (show 0≤4 + z.fmod 2 by omega)
 obtain ⟨ts,es⟩:=lm.setup
 refine cM (lx_forUp (n:=n) ok (ah ok nofun nofun (by decide) rfl rfl rfl) (Px.mono (cJ ab (cj (ac ⟨_,es,_,rfl⟩ rfl rfl rfl) ab (by decide))) fun v h=>hn ▸ h) (by omega) (J21 L nl rl nw sl c z upto wk lo hi W R1) (.mk m fp cs v place tp ln lm e2 S) (fun i m₁ led₁ I o t hi9 hJ hne Φ hΦ hR=>?_) (fun m' led' hJ=>k m' led') rfl rfl rfl rfl (fun O=>rfl))
 obtain ⟨fp,cs,v,place,tp,ln,lm,e2,S⟩:=hJ
 have hIc:ba L [(I,o)]:=ba.nil.cons (S.hc.fresh fun p hp=>hne p (aL hp))
 have hoc:ba L ((I,o)::(fp++R1)):=fun p hp=>by
  fail "c"
  ·exact hIc _ (.head _)
  ·exact S.offC p hp
 have hIf:Off fp [(I,o)]:=fun p hp r hr=>by
  rw [List.mem_singleton.mp hr]
  exact fun e=>hne p (aR (aL hp)) e.symm
 refine Lx.sub (led':=cs++((I,o)::(fp++R1))) (fun p hp=>?_) (b0 (R:=[lawBody 21 6,lawBody 21 7,lawBody 21 8,lawBody 21 9]) ok lw (ln.set rfl rfl rfl) (lm.set rfl rfl rfl rfl rfl) S (i:=i) (ti:=t) rfl (aq rfl e2) (by omega) hIc ?_)
 ·fail "a"
  ·exact .tail _ (aL hp)
  ·fail "c"
   ·exact .head _
   ·exact .tail _ (aR hp)
 intro m2 act ta u tt q tq v2 cs2 d S2 v4 v5 ln2 lm2 f2 f3 f4
 have last:∀ m' br place' tp' tt v' cs',ActT fo act place u q br place'→ActS L v' cs' fp R1 W c sl upto place→v' 4 = some (.bytes (tgB wk u q) tt)→LN m' wk c rl nw→LM m' nl z wk lo hi→m' "act" = some (.int act ta)→m' "broken" = some (.bool br)→m' "place" = some (.int place' tp')→Lx w (FL a ccd) (bL A₀ base h₀ L mg mb mean) (execs [lawBody 21 7,lawBody 21 8,lawBody 21 9] (evx (FL a ccd) (bL A₀ base h₀ L mg mb mean))) Φ m' (cs'++((I,o)::(fp++R1))):=by
  intro m' br place' tp' tt v' cs' T9 S3 w4 ln3 lm3 g3 g4 g2
  refine Lx.sub (led':=fp++([(I,o)]++(cs'++R1))) (fun p hp=>?_) (b7 (R:=[]) ok XB TB lw ln3 lm3 S3 d T9 w4 g2 g3 g4 hIf fun m9 place2 tp2 fp2 hsa ln4 lm4 g5 S4=>ae (hΦ .next m9 _ _ (.inl rfl) (.mk m9 fp2 cs' v' place2 tp2 ln4 lm4 g5 S4) (fun p hp=>?_) (aR (.head _)) fun p hp=>?_))
  ·fail "a"
   ·exact aR (.tail _ (aL hp))
   ·fail "c"
    ·exact aR (.head _)
    ·rcases List.mem_append.mp (show p∈cs'++R1 from hp) with hp | hp
     ·exact aL hp
     ·exact aR (.tail _ (aR hp))
  ·fail "a"
   ·exact aR (.tail _ (show p∈cs'++R1 from aL hp))
   ·fail "a"
    ·exact aL hp
    ·exact aR (.tail _ (show p∈cs'++R1 from aR hp))
  ·fail "a"
   ·obtain ⟨i9,hi9,e⟩:=S4.hc.adr p hp
    intro e9
    exact hIc _ (.head _) i9 hi9 (e9.symm.trans e)
   ·fail "a"
    ·exact fun e=>(hIf.adr hsa) p hp _ (.head _) e.symm
    ·exact hne p (aR (aR hp))
 cases wk with
 | true=>exact b6m (R:=[lawBody 21 7,lawBody 21 8,lawBody 21 9]) ok lw ln2 lm2 S2 d v4 v5 f2 f3 f4 hoc last
 | false=>exact b6u (R:=[lawBody 21 7,lawBody 21 8,lawBody 21 9]) ok hu0 lw ln2 lm2 S2 d v4 f2 f3 hoc last
theorem glue2 {nl:Addr} {nvs:Array Value} {n kk:Nat} (ok:Okx w 100 (bL A₀ base h₀ L mg mb mean)) (XB:(Mine.hd.heap_39 w.params).In base) (TB:Top VW (looseW VW []) mean mg mb base) (hn:da D nl nvs n kk) (e1:m "nums" = some (.ref nl)) (hc:C7 L v cs) (hD:ba L D)
  (k:∀ m' led',Ly w (FL a ccd) (bL A₀ base h₀ L mg mb mean) (execs R (evx (FL a ccd) (bL A₀ base h₀ L mg mb mean))) s Q E m' led') :
  Ly w (FL a ccd) (bL A₀ base h₀ L mg mb mean) (execs (lawAt 2::lawAt 3::lawAt 4::lawAt 5::lawAt 6::lawAt 7::lawAt 8::lawAt 9::lawAt 10::lawAt 11::lawAt 12::lawAt 13::lawAt 14::lawAt 15::lawAt 16::lawAt 17::lawAt 18::lawAt 19::lawAt 20::lawAt 21::R) (evx (FL a ccd) (bL A₀ base h₀ L mg mb mean))) s Q E m (cs++D):=by
 refine q2 ok hn e1 hc hD fun z wk upto ut lo hi v1 cs1 m1 z0 z1 hu0 hu3 hlo hhi lm1 hc1 hv0=>?_
 refine q7 hc1 hD fun el n1 cs2 hc2 hD2 hel=>?_
 refine q8 ok hn lm1 hc2 rfl hD2 hel fun m3 ws n3 ents cs3 D3 lm3 hc3 hD3 hs3 he3=>?_
 refine q9 ok hc3 rfl hD3 he3 fun sl c4 vs4 ents4 cs4 hc4 hD4 he4=>?_
 refine q10 ok hc4 hD4 fun od fp5 hO5 hD5=>?_
 have s5:∀ p∈D3,p∈fp5++((sl,listOf vs4 c4)::D3):=fun p hp=>aR (.tail _ hp)
 refine q11 ok hc4 rfl hD5 (aR (.head _)) (he4.mono s5) fun fl fvs fn new cs6 hc6 hD6 hf6=>?_
 have s6:∀ p∈fp5++((sl,listOf vs4 c4)::D3),p∈new++(fp5++((sl,listOf vs4 c4)::D3)):=fun p hp=>aR hp
 refine q12 ok hc6 rfl rfl hD6 (s6 _ (aR (.head _))) ((he4.mono s5).mono s6) hf6 (hO5.mono s6) rfl fun pl pvs np cs7 v7 tl ks hc7 g0 g1 g2 P7 hD7=>?_
 refine q14 ok XB TB P7 rfl fun m8 hm8=>?_
 have gm:∀ {y:Str} {x:Value},(y == ("leaf":Str)) = false→(y == ("leaves":Str)) = false→(y == ("order":Str)) = false→m3 y = some x→m8 y = some x:=fun {y x} h1 h2 h3 h=>(hm8 y h1).trans (aq h2 (aq h3 h))
 have lm8:LM m8 nl z wk lo hi:=⟨gm rfl rfl rfl lm3.nums,by obtain ⟨t,e⟩:=lm3.setup;exact ⟨t,gm rfl rfl rfl e⟩,gm rfl rfl rfl lm3.merged,by obtain ⟨t,e⟩:=lm3.low;exact ⟨t,gm rfl rfl rfl e⟩,by obtain ⟨t,e⟩:=lm3.high;exact ⟨t,gm rfl rfl rfl e⟩⟩
 refine q15 ok lm8 hc7 P7 ((he4.mono s5).mono s6) (hO5.mono s6) ((hm8 _ rfl).trans rfl) ((hm8 _ rfl).trans rfl) fun x fpx R0 hR0 hM hO9 hC9=>?_
 refine q16 (upto:=upto) (ut:=ut) (lo:=lo) (hi:=hi) ok (lm8.set rfl rfl rfl rfl rfl) hc7 (g0.trans hv0) (g1.trans rfl) (g2.trans rfl) hu0 hu3 hlo hhi (hR0 _ (s6 _ (aR (.head _)))) (((he4.mono s5).mono s6).mono hR0) (hf6.mono hR0) (hn.mono fun p hp=>hR0 _ (s6 _ (s5 _ (hs3 p hp)))) rfl (aq rfl ((hm8 _ rfl).trans rfl)) hM hO9 hC9 fun m' Dw fo rows W fp R1 c rl nw lw ln lm hW ho hC=>?_
 refine q19 ok XB TB lw ln hc7 ⟨ut,g0.trans hv0⟩ (g1.trans rfl) hW ho hC fun tp S=>?_
 exact q21 ok XB TB hu0 lw (ln.set rfl rfl rfl) (lm.set rfl rfl rfl rfl rfl) rfl S k
end
end
section
open PySem PySem.W PyProof.Rows PySem.Spec
set_option maxRecDepth 100000
set_option tactic.hygienic false
theorem lawTail2:dZ 2 = lawAt 2::lawAt 3::lawAt 4::lawAt 5::lawAt 6::lawAt 7::lawAt 8::lawAt 9::lawAt 10::lawAt 11::lawAt 12::lawAt 13::lawAt 14::lawAt 15::lawAt 16::lawAt 17::lawAt 18::lawAt 19::lawAt 20::lawAt 21::dZ 22:=rfl
section
variable {w:World} {A₀:Around} {base h₀:Heap} {L a:Addr} {ccd:Value} {m mg mb:MM} {mean:ExcName→Option Value} {s:Shared} {Q:FS} {E:VS}
theorem glue {nl:Addr} {vs:Array Value} {n kk:Nat} {o0 o1 o2 o3 o4 o5 o6:Obj} {v0 v1 v2 v3 v4 v5 v6:Option Value} (B:Below A₀ base [] h₀) (F:Fr h₀ L s.heap m) (X:(Mine.hd.heap_39 w.params).In h₀) (N:News h₀ L s.heap [((L + 1 + 0:Nat),o0),((L + 1 + 1:Nat),o1),((L + 1 + 2:Nat),o2),((L + 1 + 3:Nat),o3),((L + 1 + 4:Nat),o4),((L + 1 + 5:Nat),o5),((L + 1 + 6:Nat),o6),(nl,listOf vs n)]) (T:Top VW (looseW VW []) mean mg mb h₀)
  (XB:(Mine.hd.heap_39 w.params).In base) (TB:Top VW (looseW VW []) mean mg mb base) (h0:o0.data = .cell v0) (h1:o1.data = .cell v1) (h2:o2.data = .cell v2) (h3:o3.data = .cell v3) (h4:o4.data = .cell v4) (h5:o5.data = .cell v5) (h6:o6.data = .cell v6) (hn:da [(nl,listOf vs n)] nl vs n kk) (e1:m "nums" = some (.ref nl))
  (k:∀ m' h' tk' led,Fr h₀ L h' m'→News h₀ L h' led→wpAny (model Challenge.rw_no0415_02.row.prog w) (callerA.deeper (envOfC (Str.ofString "law") lawSc L a ccd)) (execs (dZ 22) (envOfC (Str.ofString "law") lawSc L a ccd)) Q E { s with heap:=h',toks:=tk' }) :
  wpAny (model Challenge.rw_no0415_02.row.prog w) (callerA.deeper (envOfC (Str.ofString "law") lawSc L a ccd)) (execs (dZ 2) (envOfC (Str.ofString "law") lawSc L a ccd)) Q E s:=by
 rw [lawTail2]
 have ok:Okx w 100 (bL A₀ base h₀ L mg mb mean):=okL B X T
 have hc:C7 L (fun i=>match i with | 0=>v0 | 1=>v1 | 2=>v2 | 3=>v3 | 4=>v4 | 5=>v5 | _=>v6) [((L + 1 + 0:Nat),o0),((L + 1 + 1:Nat),o1),((L + 1 + 2:Nat),o2),((L + 1 + 3:Nat),o3),((L + 1 + 4:Nat),o4),((L + 1 + 5:Nat),o5),((L + 1 + 6:Nat),o6)] :=
  .cons 0 _ _ _ h0 (.cons 1 _ _ _ h1 (.cons 2 _ _ _ h2 (.cons 3 _ _ _ h3 (.cons 4 _ _ _ h4 (.cons 5 _ _ _ h5 (.cons 6 _ _ _ h6 .nil))))))
 have hD:ba L [(nl,listOf vs n)]:=fun p hp i hi e=>by
  rw [List.mem_singleton.mp hp] at e
  obtain ⟨o,m1,d1⟩:=hc.mem i hi
  have g1:=(N _ (List.mem_append_left [(nl,listOf vs n)] m1)).1
  have g2:=(N (nl,listOf vs n) (.tail _ (.tail _ (.tail _ (.tail _ (.tail _ (.tail _ (.tail _ (.head _))))))))).1
  have e':nl = L + 1 + i:=e
  have g1:s.heap.get? (L + 1 + i) = some o:=g1
  have g2:s.heap.get? nl = some (listOf vs n):=g2
  rw [e',g1] at g2
  have:=Option.some.inj g2
  rw [this] at d1
  cases d1
 exact (glue2 (L:=L) (a:=a) (ccd:=ccd) (E:=E) (Q:=Q) (R:=dZ 22) ok XB TB hn e1 hc hD fun m' led' h' tk' F' N'=>k m' h' tk' led' F' N') s.heap s.toks F N
end
end
end Internal
namespace Internal
open PySem PySem.W PyProof.Rows PySem.Spec
set_option maxRecDepth 100000
local macro_rules | `(tactic| omega) => `(tactic| lia)
set_option hygiene false in
local macro_rules | `(tactic| walk_at "eval Name") => `(tactic| (k_dflt (refine' nameX_L ?F ?v ?_ ?a ?b; (case b => rfl); (case F => k_asm); (case a => rfl); (case v => first | exact rfl | assumption | exact hm0 _ _ rfl); k_whole)))
set_option hygiene false in
local macro_rules | `(tactic| k_all) => `(tactic| (first | assumption | exact Internal.all_nil | (refine' Internal.all_cons ?xx ?yy; (case xx => k_ne); (case yy => k_all))))
set_option hygiene false in
local macro_rules | `(tactic| k_mem) => `(tactic| assumption)
set_option hygiene false in
local macro_rules | `(tactic| walk_at "eval Call Attribute") => `(tactic| refine PyProof.Rows.MethodCall_ ?_)
theorem nw_c {h₀ h : Heap} {L : Addr} {a : Addr × Obj} {l : Led} (x : h.get? a.1 = some a.2 ∧ a.1 ≠ L ∧ h₀.get? a.1 = none) (k : News h₀ L h l) : News h₀ L h (a :: l) := List.forall_mem_cons.mpr ⟨x, k⟩
theorem cK {h₀ h : Heap} {L : Addr} {a : Addr × Obj} {l : Led} (N : News h₀ L h (a :: l)) : (h.get? a.1 = some a.2 ∧ a.1 ≠ L ∧ h₀.get? a.1 = none) ∧ News h₀ L h l := List.forall_mem_cons.mp N
theorem reordA {h₀ h : Heap} {L : Addr} {a b c s7 s6 s5 s4 s3 s2 s1 : Addr × Obj} (N : News h₀ L h [a, b, c, s7, s6, s5, s4, s3, s2, s1]) : News h₀ L h [s1, s2, s3, s4, s5, s6, s7, a] :=
  have N1 := (cK N).2
  have N2 := (cK N1).2
  have N3 := (cK N2).2
  have N4 := (cK N3).2
  have N5 := (cK N4).2
  have N6 := (cK N5).2
  have N7 := (cK N6).2
  have N8 := (cK N7).2
  have N9 := (cK N8).2
  nw_c (cK N9).1 (nw_c (cK N8).1 (nw_c (cK N7).1 (nw_c (cK N6).1 (nw_c (cK N5).1 (nw_c (cK N4).1 (nw_c (cK N3).1 (nw_c (cK N).1 fun _ h => nomatch h)))))))
theorem reordB {h₀ h : Heap} {L : Addr} {a c s7 s6 s5 s4 s3 s2 s1 : Addr × Obj} (N : News h₀ L h [a, c, s7, s6, s5, s4, s3, s2, s1]) : News h₀ L h [s1, s2, s3, s4, s5, s6, s7, a] :=
  have N1 := (cK N).2
  have N2 := (cK N1).2
  have N3 := (cK N2).2
  have N4 := (cK N3).2
  have N5 := (cK N4).2
  have N6 := (cK N5).2
  have N7 := (cK N6).2
  have N8 := (cK N7).2
  nw_c (cK N8).1 (nw_c (cK N7).1 (nw_c (cK N6).1 (nw_c (cK N5).1 (nw_c (cK N4).1 (nw_c (cK N3).1 (nw_c (cK N2).1 (nw_c (cK N).1 fun _ h => nomatch h)))))))
theorem nums_one {nl : Addr} {t : Tok} {n : Nat} : da [(nl, listOf #[Value.int 5 t] n)] nl #[Value.int 5 t] n 1 :=
  ⟨.head _, rfl, by decide, by decide, fun i v hi => by
    match i, hi with
    | 0, hi => cases hi; exact ⟨5, t, rfl, by decide, by decide⟩
    | i + 1, hi => simp at hi⟩
theorem nums_all {nl : Addr} {ys : List Value} {sc : List Int} (hi : IntsAre ys (List.map (fun k => k.fmod 999983) (List.take 11 sc))) (h0 : ys.length ≠ 0) : da [(nl, listOf ys.toArray ys.length)] nl ys.toArray ys.length ys.length := by
  have hl := hi.length
  rw [List.length_map, List.length_take] at hl
  refine ⟨.head _, by simp, by omega, by omega, fun i v hv => ?_⟩
  obtain ⟨x, t, rfl, hx⟩ := hi.at i v (by simpa using hv)
  rw [List.getElem?_map] at hx
  obtain ⟨z, _, hz⟩ := Option.map_eq_some_iff.mp hx
  subst hz
  exact ⟨_, t, rfl, Int.fmod_nonneg_of_pos _ (by decide), Int.fmod_lt_of_pos _ (by decide)⟩
set_option maxHeartbeats 8000000 in
theorem foo : PySem.Challenge.rw_no0415_02.Holds := Mine.hd (by
  k_go0
  all_goals (try k_fold)
  repeat' (first | ((fail_if_success (first | (with_reducible show wpAny _ _ (execs (PySem.Stmt.Assign [PySem.Expr.Name (PySem.Str.ofString "setup") _] _ _ :: _) _) _ _ _))); (first | (k_unfold; (try dsimp only)) | walk1 | (dsimp only; walk1) | (leave1; walk_say "STEP leave1"; (try dsimp only)) | fail "no step")))
  all_goals
    rename Fr _ _ _ _ => FF
    rename News _ _ _ _ => NN
  · have N2 := reordA NN
    refine glue (n := 0) (kk := 1) (by assumption) FF (by assumption) N2 (by assumption) (by assumption) (by assumption) (by assumption) (by assumption) (by assumption) (by assumption) (by assumption) (by assumption) (by assumption) nums_one rfl ?_
    clear FF NN N2
    intro m' h' tk' led F' N'
    conv in (occs := *) lawSc => all_goals whnf
    conv in (dZ _) => whnf
    k_steps
  · have N2 := reordB NN
    rename (_ : Int) ≠ 0 => h0
    refine glue (by assumption) FF (by assumption) N2 (by assumption) (by assumption) (by assumption) (by assumption) (by assumption) (by assumption) (by assumption) (by assumption) (by assumption) (by assumption) (nums_all (by assumption) (by have hl8 := ‹List.length _ = List.length _›; omega)) rfl ?_
    clear FF NN N2
    intro m' h' tk' led F' N'
    conv in (occs := *) lawSc => all_goals whnf
    conv in (dZ _) => whnf
    k_steps)
end Internal
set_option maxRecDepth 100000 in
set_option maxHeartbeats 8000000 in
theorem PySem.Challenge.cw_no0415_02_holds : PySem.Challenge.rw_no0415_02.Holds := by
  exact Internal.foo
