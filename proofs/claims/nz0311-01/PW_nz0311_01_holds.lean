import PyProof.Rows.All
import Wide.All
import OpenK.AllK
import Wide.FinOn
import PySem.Challenge.RW_nz0311_01
open PySem PySem.Spec PySem.Calls PySem.W PyProof.Rows PyProof.Rows.LCg PyProof.Rows.LCt
set_option Elab.async false
set_option maxRecDepth 100000
set_option maxHeartbeats 16000000
namespace MineH
set_option maxRecDepth 100000
set_option maxHeartbeats 8000000
theorem PySem.W.holds_open {r : OpenRow} {q : Program} {loose : List Str} {Xt : Shared → Bool} {XP : (Str → Option Value) → Heap → Prop} {α : Type} {Yf : Shared → α} {Ya : World → α} {YP : World → Heap → Prop} {d : DefRec} {kwd : List (Str × PySem.Expr)} {N : Nat}
    (left : LeftO r.prog q loose Xt Yf Ya N) (hY : ∀ w s, Yf s = Ya w → YP w s.heap) (hYk : ∀ w h h', YP w h → (∀ b o, h.get? b = some o → h'.get? b = some o) → YP w h')
    (hX : ∀ s, Xt s = true → XP (s.heap.nsMap mainGlobals) s.heap) (hXk : ∀ mg h h', XP mg h → (∀ b o, h.get? b = some o → h'.get? b = some o) → XP mg h')
    (hdef : defOf q r.name = some (d, kwd)) (hp : r.prog.theDef r.name = some (d.params, d.body, d.scope)) (hk : kwWritten? d.params.kwonlyargs d.params.kw_defaults = some kwd) (hRf : ∀ s, Xt s = true → RecFacts r.records s.heap) (hwr : (!r.writes || r.records.isEmpty) = true)
    (k1 : r.wellSaid = true) (ok : (chainsOk q && opensWell r.prog && (frees r.toRowW && r.within.isEmpty)) = true) (hb : r.prog.bare) (hw : r.toRowW.promised) (_h : True)
    (call : WalkO q loose XP YP r.toRowW d kwd fun f vs => PySem.call f vs := by assumption) : r.Holds :=
  _root_.PySem.W.holds_open left hY hYk hX hXk hdef hp hk hRf hwr k1 ok hb hw call
-- names that the kit's head would give to equations that it can do without: taken, so it makes none (without them the compiled file is 2 MB, with them 71)
def hd.tw5408298358985270142 : Nat := 0
def hd.tw12694966635306828787 : Nat := 0
def hd.tw9856649506056076461 : Nat := 0
def hd.tw10611032361569768063 : Nat := 0
def hd.tw2486069512085429738 : Nat := 0
def hd.tw8135262676959500847 : Nat := 0
def hd.tw17195894997613895444 : Nat := 0
def hd.tw17623328453557881243 : Nat := 0
def hd.tw1989082952969655113 : Nat := 0
def hd.tw7117445329548135394 : Nat := 0
def hd.tw10583516967670228033 : Nat := 0
def hd.tw10688748404364823010 : Nat := 0
def hd.tw2313722574035237084 : Nat := 0
def hd.tw14554167686845666939 : Nat := 0
def hd.tw4674372370451189293 : Nat := 0
def hd.tw715451238839458813 : Nat := 0
def hd.tw10793064989863311604 : Nat := 0
def hd.tw6213983045927319840 : Nat := 0
def hd.tw995745298893594041 : Nat := 0
def hd.tw8558645476206464754 : Nat := 0
def hd.tw10697185503584376380 : Nat := 0
def hd.tw12582445685774146420 : Nat := 0
def hd.tw15300216799642420479 : Nat := 0
def hd.tw16762696786011131269 : Nat := 0
def hd.tw6349514319288463566 : Nat := 0
def hd.tw16602433963061359784 : Nat := 0
def hd.tw15864862206875737623 : Nat := 0
def hd.tw5429308882720916912 : Nat := 0
def hd.tw7952857070156131903 : Nat := 0
def hd.tw3404731830853920369 : Nat := 0
def hd.tw725275019912584843 : Nat := 0
def hd.tw6765091438282549354 : Nat := 0
def hd.tw17384707767967792991 : Nat := 0
def hd.tw15814724760537421689 : Nat := 0
def hd.tw1902461684978865355 : Nat := 0
def hd.tw7584672178824102112 : Nat := 0
def hd.tw7462745342642858922 : Nat := 0
def hd.tw9925999218589519177 : Nat := 0
def hd.tw3810873226709192140 : Nat := 0
def hd.tw14530372070111810983 : Nat := 0
def hd.tw10790701148847470868 : Nat := 0
def hd.tw15271434281650588110 : Nat := 0
def hd.tw3299961531843355051 : Nat := 0
def hd.tw4103332184199668468 : Nat := 0
def hd.tw12768478633901174005 : Nat := 0
def hd.tw7799688277303687950 : Nat := 0
def hd.tw1563891175497057336 : Nat := 0
def hd.tw12415139354092543508 : Nat := 0
def hd.tw12471166519448020685 : Nat := 0
def hd.tw9546552941585614566 : Nat := 0
def hd.tw14499416523644057188 : Nat := 0
def hd.tw17962726715627431081 : Nat := 0
def hd.tw11649197732068350034 : Nat := 0
def hd.tw12422051088022305386 : Nat := 0
def hd.tw5747242966694216863 : Nat := 0
def hd.tw4585038902666883046 : Nat := 0
def hd.tw13842622043640721416 : Nat := 0
def hd.tw13299903913693111738 : Nat := 0
def hd.tw16324284648645282090 : Nat := 0
def hd.tw7218591912588169192 : Nat := 0
def hd.tw14209389488142382308 : Nat := 0
def hd.tw9619994379703045771 : Nat := 0
def hd.tw2570718585862352900 : Nat := 0
def hd.tw17912658802818741838 : Nat := 0
def hd.tw15667783392412166332 : Nat := 0
def hd.tw1016016656157336770 : Nat := 0
def hd.tw17396162646208190325 : Nat := 0
def hd.tw238496979431077194 : Nat := 0
def hd.tw5270106990125241923 : Nat := 0
def hd.tw16754750969723653742 : Nat := 0
def hd.tw12111849204941235848 : Nat := 0
def hd.tw11955127785302953152 : Nat := 0
def hd.tw5458737231676247459 : Nat := 0
def hd.tw3942902607007878792 : Nat := 0
def hd.tw9142209208121166594 : Nat := 0
def hd.tw18070348967433554912 : Nat := 0
def hd.tw18356058286887559572 : Nat := 0
def hd.tw7805590855234974582 : Nat := 0
def hd.tw8697475882718381691 : Nat := 0
def hd.tw2080586422972683770 : Nat := 0
def hd.tw12871501942360736846 : Nat := 0
def hd.tw10806397950404223365 : Nat := 0
def hd.tw12759555934596483621 : Nat := 0
def hd.tw18082252015611573537 : Nat := 0
def hd.tw13715260591458719887 : Nat := 0
def hd.tw4581235077758518330 : Nat := 0
def hd.tw11151452882682715971 : Nat := 0
def hd.tw4419390555497834400 : Nat := 0
def hd.tw593117575588951945 : Nat := 0
def hd.tw11619183035347239637 : Nat := 0
def hd.tw10565267104334211348 : Nat := 0
def hd.tw14962616719726789054 : Nat := 0
def hd.tw16278788090529432610 : Nat := 0
def hd.tw14973954242899133486 : Nat := 0
def hd.tw1551215672667447799 : Nat := 0
def hd.tw12026451633470445180 : Nat := 0
def hd.tw13999171481392090856 : Nat := 0
def hd.tw7695613264069916255 : Nat := 0
def hd.tw18266100483644519118 : Nat := 0
def hd.tw10320003692295388037 : Nat := 0
def hd.tw13254636455411049169 : Nat := 0
def hd.tw8986568113335590207 : Nat := 0
def hd.tw17296631661819850582 : Nat := 0
def hd.tw2200609909565283302 : Nat := 0
def hd.tw9158680019342876920 : Nat := 0
def hd.tw6335671829557159717 : Nat := 0
def hd.tw9745266531537778666 : Nat := 0
def hd.tw10572692456640691249 : Nat := 0
def hd.tw14428948042602255402 : Nat := 0
def hd.tw7431851012780629751 : Nat := 0
def hd.tw11407356717784008433 : Nat := 0
def hd.tw17414570101179718794 : Nat := 0
def hd.tw4730369344955570392 : Nat := 0
def hd.tw13542905706544049441 : Nat := 0
def hd.tw3415982003039250030 : Nat := 0
def hd.tw11333066541810121158 : Nat := 0
def hd.tw10515213021133592695 : Nat := 0
def hd.tw13719301130627159572 : Nat := 0
def hd.tw4937883224471796375 : Nat := 0
def hd.tw2248031508422282597 : Nat := 0
def hd.tw6470643019263608023 : Nat := 0
def hd.tw11771436408968960304 : Nat := 0
def hd.tw13450321391425673179 : Nat := 0
def hd.tw6047590372276622216 : Nat := 0
def hd.tw15671500239898974006 : Nat := 0
def hd.tw15515551799862568107 : Nat := 0
def hd.tw6627051273202797465 : Nat := 0
def hd.tw4687072622117797185 : Nat := 0
def hd.tw5799623711200884108 : Nat := 0
def hd.tw8174565391805106448 : Nat := 0
def hd.tw16175105189195860756 : Nat := 0
def hd.tw6754164941941842063 : Nat := 0
def hd.tw13634054515041965941 : Nat := 0
def hd.tw10802548472579138426 : Nat := 0
def hd.tw14516403679050433474 : Nat := 0
def hd.tw6199338258326120489 : Nat := 0
def hd.tw18006453727589819149 : Nat := 0
def hd.tw17735166943974606128 : Nat := 0
def hd.tw170542685293815994 : Nat := 0
def hd.tw4287730068425915525 : Nat := 0
def hd.tw335896516326821873 : Nat := 0
def hd.tw8927604802940286073 : Nat := 0
def hd.tw17221785671756917783 : Nat := 0
def hd.tw7672629347663830862 : Nat := 0
def hd.tw16079726801238680644 : Nat := 0
def hd.tw15103010452847638659 : Nat := 0
def hd.tw18415281918717948001 : Nat := 0
def hd.tw4410327953860996681 : Nat := 0
def hd.tw18119401394991087868 : Nat := 0
def hd.tw16215109994040887680 : Nat := 0
def hd.tw10736156196368867446 : Nat := 0
def hd.tw15423090719424095814 : Nat := 0
def hd.tw13092046604102399822 : Nat := 0
def hd.tw3710131928517973319 : Nat := 0
def hd.tw117967343346939308 : Nat := 0
def hd.tw15615210283066773835 : Nat := 0
def hd.tw8407135529955312114 : Nat := 0
def hd.tw5108358580928703016 : Nat := 0
def hd.tw1567674286363956740 : Nat := 0
def hd.tw10852200456524498086 : Nat := 0
def hd.tw17666542276275581636 : Nat := 0
def hd.tw16668702022414651931 : Nat := 0
def hd.tw11950240535178036201 : Nat := 0
def hd.tw8628921907447108549 : Nat := 0
def hd.tw1301477632776200850 : Nat := 0
def hd.tw10850819697017911 : Nat := 0
def hd.tw7163495307157133920 : Nat := 0
def hd.tw10598412218882179938 : Nat := 0
def hd.tw5536694400991775163 : Nat := 0
def hd.tw1772118972429167312 : Nat := 0
def hd.tw8881704568741091024 : Nat := 0
def hd.tw12958381691118091542 : Nat := 0
def hd.tw3753721129245198512 : Nat := 0
def hd.tw17219530113938900026 : Nat := 0
def hd.tw2193793407021331009 : Nat := 0
def hd.tw15919785954657954188 : Nat := 0
def hd.tw13728930419413750415 : Nat := 0
def hd.tw12503961980196209739 : Nat := 0
def hd.tw10425380996441015027 : Nat := 0
def hd.tw5305851179955456773 : Nat := 0
def hd.tw12863688567121913275 : Nat := 0
def hd.tw8488244679019072477 : Nat := 0
def hd.tw632520335546570615 : Nat := 0
def hd.tw1639328605824705850 : Nat := 0
def hd.tw16411727627596691885 : Nat := 0
def hd.tw3954004832140119457 : Nat := 0
def hd.tw12514757528003360587 : Nat := 0
def hd.tw7079745598845202985 : Nat := 0
def hd.tw6360689463765052752 : Nat := 0
def hd.tw9582195905410400854 : Nat := 0
def hd.tw9040228034889651680 : Nat := 0
def hd.tw4579273732321453812 : Nat := 0
def hd.tw11653312106912862259 : Nat := 0
def hd.tw11776777129623843451 : Nat := 0
def hd.tw8828951144730413135 : Nat := 0
def hd.tw2181643156174255280 : Nat := 0
def hd.tw15236365094306240659 : Nat := 0
def hd.tw17067136504263380923 : Nat := 0
def hd.tw16773631009086920547 : Nat := 0
def hd.tw3901955728036404705 : Nat := 0
def hd.tw6404367423525339993 : Nat := 0
def hd.tw12424984452504622356 : Nat := 0
def hd.tw13394413667149900912 : Nat := 0
def hd.tw13033671451409768430 : Nat := 0
def hd.tw13637179947457084800 : Nat := 0
def hd.tw9504433434236579371 : Nat := 0
def hd.tw9360541311258232486 : Nat := 0
def hd.tw6244580464199271010 : Nat := 0
def hd.tw7295475507592344918 : Nat := 0
def hd.tw796938261557451675 : Nat := 0
def hd.tw1469283372801586904 : Nat := 0
def hd.tw16429568283801956184 : Nat := 0
def hd.tw15346259334787893500 : Nat := 0
def hd.tw5711125016191747313 : Nat := 0
def hd.tw41246809425553230 : Nat := 0
def hd.tw6387911135196980886 : Nat := 0
def hd.tw13591543395128060507 : Nat := 0
def hd.tw13665339242446719483 : Nat := 0
def hd.tw9420748761166326779 : Nat := 0
def hd.tw7578638548085825776 : Nat := 0
def hd.tw15988450409256891673 : Nat := 0
def hd.tw17370786016209037523 : Nat := 0
def hd.tw14836043127260282038 : Nat := 0
def hd.tw17388146102649486428 : Nat := 0
def hd.tw4805200270503480144 : Nat := 0
def hd.tw11336574522172481449 : Nat := 0
def hd.tw12390082514113852467 : Nat := 0
def hd.tw8622455948909654252 : Nat := 0
def hd.tw8373613875580391414 : Nat := 0
def hd.tw5737029985699276834 : Nat := 0
def hd.tw18278066764381520705 : Nat := 0
def hd.tw7476741694698615940 : Nat := 0
def hd.tw3847429856496641185 : Nat := 0
def hd.tw16745086334546403076 : Nat := 0
def hd.tw10536694755865541599 : Nat := 0
def hd.tw1908271125949159015 : Nat := 0
def hd.tw4743744027126012387 : Nat := 0
def hd.tw2800653577190386774 : Nat := 0
def hd.tw8313298333956606018 : Nat := 0
def hd.tw2362575400800287160 : Nat := 0
def hd.tw17264775916192008836 : Nat := 0
def hd.tw15175961037604489802 : Nat := 0
def hd.tw4704821016400234845 : Nat := 0
def hd.tw11598877487776702473 : Nat := 0
def hd.tw385035107574596231 : Nat := 0
def hd.tw2620855035570551773 : Nat := 0
def hd.tw10426371562063145304 : Nat := 0
def hd.tw18016543108022605579 : Nat := 0
def hd.tw17939001084494132528 : Nat := 0
def hd.tw3989485864118257624 : Nat := 0
def hd.tw7949593619696766226 : Nat := 0
def hd.tw3312007798896393704 : Nat := 0
def hd.tw13641079377753500981 : Nat := 0
def hd.tw7280258454468991977 : Nat := 0
def hd.tw15616899626231476087 : Nat := 0
def hd.tw9314738004565635150 : Nat := 0
def hd.tw11776792602187915674 : Nat := 0
def hd.tw10696732417954573099 : Nat := 0
def hd.tw11740958859061155728 : Nat := 0
def hd.tw7191574672788312471 : Nat := 0
def hd.tw1409900076325116648 : Nat := 0
def hd.tw14245509289241279147 : Nat := 0
def hd.tw12504043090914114649 : Nat := 0
def hd.tw14171200331515418863 : Nat := 0
def hd.tw8686763341722133333 : Nat := 0
def hd.tw15770031266640043153 : Nat := 0
def hd.tw16507985724268482350 : Nat := 0
def hd.tw12631677132896399641 : Nat := 0
def hd.tw10091392615763796039 : Nat := 0
def hd.tw1930784062772914897 : Nat := 0
def hd.tw9448107130586479600 : Nat := 0
def hd.tw10109028974495059240 : Nat := 0
def hd.tw17613839318752462239 : Nat := 0
def hd.tw8460107769030313551 : Nat := 0
def hd.tw10223256348902422716 : Nat := 0
def hd.tw17895507656765866592 : Nat := 0
def hd.tw12468206871618486395 : Nat := 0
def hd.tw13937466995685716734 : Nat := 0
def hd.tw8388901566294404596 : Nat := 0
def hd.tw16284817470966284848 : Nat := 0
def hd.tw5687759635604169887 : Nat := 0
def hd.tw10490219138771495335 : Nat := 0
def hd.tw5125708979254964574 : Nat := 0
def hd.tw12958520300218916579 : Nat := 0
def hd.tw10356060534026486678 : Nat := 0
def hd.tw14570433394800089651 : Nat := 0
def hd.tw15028103022962494630 : Nat := 0
def hd.tw9976928552068295778 : Nat := 0
def hd.tw9788297098111560084 : Nat := 0
def hd.tw9588213283095843702 : Nat := 0
def hd.tw11148012189744677959 : Nat := 0
def hd.tw9827344107036765081 : Nat := 0
def hd.tw6552833218671135857 : Nat := 0
def hd.tw8493392632896955055 : Nat := 0
def hd.tw8881071191055900610 : Nat := 0
def hd.tw18342720119678001866 : Nat := 0
def hd.tw1139388124172543128 : Nat := 0
def hd.tw10779623525324376127 : Nat := 0
def hd.tw4401265748268087478 : Nat := 0
def hd.tw2668100997330144393 : Nat := 0
def hd.tw10363554803162067931 : Nat := 0
def hd.tw1464955119519337197 : Nat := 0
def hd.tw17446499006786141667 : Nat := 0
def hd.tw1165762771911945374 : Nat := 0
def hd.tw12318849529173590940 : Nat := 0
def hd.tw18446688433550099474 : Nat := 0
def hd.tw12580315049251024118 : Nat := 0
def hd.tw12236032154727266027 : Nat := 0
def hd.tw13051378607970238864 : Nat := 0
def hd.tw12116871676573139809 : Nat := 0
def hd.tw12686249732274644158 : Nat := 0
def hd.tw9860374773165226724 : Nat := 0
def hd.tw7903656273630403804 : Nat := 0
def hd.tw14707865557715701051 : Nat := 0
def hd.tw2617043920574526650 : Nat := 0
def hd.tw7159554492923471559 : Nat := 0
def hd.tw8227958147450840627 : Nat := 0
def hd.tw9315342121783842595 : Nat := 0
def hd.tw2817376174221889011 : Nat := 0
def hd.tw7155829825919253848 : Nat := 0
def hd.tw4261391462173885613 : Nat := 0
def hd.tw1088272346601596669 : Nat := 0
def hd.tw17692164627367663286 : Nat := 0
def hd.tw13432728092523390551 : Nat := 0
def hd.tw12640698994853597926 : Nat := 0
def hd.tw12367644568604300513 : Nat := 0
def hd.tw3297276729833041932 : Nat := 0
def hd.tw1386927508735945130 : Nat := 0
def hd.tw8296062286028742349 : Nat := 0
def hd.tw17456745994255089045 : Nat := 0
def hd.tw6254183507415735083 : Nat := 0
def hd.tw12240408105604743854 : Nat := 0
def hd.tw16196683215208412309 : Nat := 0
def hd.tw3324427008699932095 : Nat := 0
def hd.tw4845622248163475590 : Nat := 0
def hd.tw3301913999392118545 : Nat := 0
def hd.tw5434891079931954921 : Nat := 0
def hd.tw4366489537631006973 : Nat := 0
def hd.tw12305805396620886100 : Nat := 0
def hd.tw634686923212457740 : Nat := 0
def hd.tw4493695060884596560 : Nat := 0
def hd.tw5066105921241638441 : Nat := 0
def hd.tw13118415431209724044 : Nat := 0
def hd.tw708755492726755656 : Nat := 0
def hd.tw3395771644576557044 : Nat := 0
def hd.tw11018321362572038121 : Nat := 0
def hd.tw13416805404297251089 : Nat := 0
def hd.tw2057144420037290540 : Nat := 0
def hd.tw14396240969233234437 : Nat := 0
def hd.tw6009370575183225838 : Nat := 0
def hd.tw7044119566103806557 : Nat := 0
def hd.tw8001367252695811423 : Nat := 0
def hd.tw451224984655343882 : Nat := 0
def hd.tw16409552806644150052 : Nat := 0
def hd.tw3481226395536896157 : Nat := 0
def hd.tw5182919770472330556 : Nat := 0
def hd.tw14186137678333588733 : Nat := 0
def hd.tw9006233817687089058 : Nat := 0
def hd.tw10358836882313228095 : Nat := 0
def hd.tw722923132449171786 : Nat := 0
def hd.tw11992408167590226515 : Nat := 0
def hd.tw18155651559697288543 : Nat := 0
def hd.tw2543932544813660041 : Nat := 0
def hd.tw2620102376729799670 : Nat := 0
def hd.tw3332856383109361674 : Nat := 0
def hd.tw15366672785682992149 : Nat := 0
def hd.tw12682661241493659563 : Nat := 0
def hd.tw85585950625908817 : Nat := 0
def hd.tw6051162947219683851 : Nat := 0
def hd.tw8129336585026623410 : Nat := 0
def hd.tw501856948467856037 : Nat := 0
def hd.tw17238071183464113898 : Nat := 0
def hd.tw7839211150331293581 : Nat := 0
def hd.tw14523369558167360675 : Nat := 0
def hd.tw4723659069505950884 : Nat := 0
def hd.tw7838157966151040464 : Nat := 0
def hd.tw11935658571663114676 : Nat := 0
def hd.tw863619886532150790 : Nat := 0
def hd.tw14982390486355896817 : Nat := 0
def hd.tw1961585030259222964 : Nat := 0
def hd.tw18256414355684109837 : Nat := 0
def hd.tw635485023001405490 : Nat := 0
def hd.tw14354831373744709126 : Nat := 0
def hd.tw16276031221756708007 : Nat := 0
def hd.tw582659498265596356 : Nat := 0
def hd.tw6893430423467645847 : Nat := 0
def hd.tw13690083799922806629 : Nat := 0
def hd.tw6763539329741474356 : Nat := 0
def hd.tw8952017282475910620 : Nat := 0
def hd.tw12902958932746729388 : Nat := 0
def hd.tw4280240211054536851 : Nat := 0
def hd.tw4138902218222125498 : Nat := 0
def hd.tw17628300639044005251 : Nat := 0
def hd.tw9233606194602497163 : Nat := 0
def hd.tw6436471200680162164 : Nat := 0
def hd.tw8903994844347165326 : Nat := 0
def hd.tw4892720341468036690 : Nat := 0
def hd.tw13745478841544941829 : Nat := 0
def hd.tw14182497804331418677 : Nat := 0
def hd.tw10387430673581953768 : Nat := 0
def hd.tw13953168337442568537 : Nat := 0
def hd.tw15332139322300475939 : Nat := 0
def hd.tw11694574993281719864 : Nat := 0
def hd.tw10508770444965508066 : Nat := 0
def hd.tw3989400360798181111 : Nat := 0
def hd.tw13806394961264852832 : Nat := 0
def hd.tw7740755013018854497 : Nat := 0
def hd.tw304373284956922151 : Nat := 0
def hd.tw16828963494457016359 : Nat := 0
def hd.tw646107366377650012 : Nat := 0
def hd.tw11461960907410879255 : Nat := 0
def hd.tw10185276738370075061 : Nat := 0
def hd.tw16966002421758254732 : Nat := 0
def hd.tw12371178758430053464 : Nat := 0
def hd.tw154950479760570192 : Nat := 0
def hd.tw17593939115758794710 : Nat := 0
def hd.tw14227645261463496053 : Nat := 0
def hd.tw3744830814295979102 : Nat := 0
def hd.tw265047407059432028 : Nat := 0
set_option Elab.async true in
theorem hd : True := trivial
where
  walkEnd : _ → PySem.Challenge.rw_nz0311_01.Holds := by
    intro walk
    w_on
    o_law
    k_head
    (case hw => w_witness2)
    (case hc => exact True.intro)
end MineH
namespace Mine
local macro_rules | `(tactic| walk_at $s:str) => do `(tactic| k_extra $(Lean.Syntax.mkStrLit ("L " ++ s.getString)))
-- piece 00_base
noncomputable abbrev prg : PySem.Program := PySem.Challenge.rw_nz0311_01.row.prog
noncomputable abbrev KK (w : World) : Frag := MineH.hd.heap_1_39 w.params
noncomputable abbrev lse : List Str := looseW MineH.hd.view_1_40 [Str.ofString "PostError"]
noncomputable def twoK (_ : OpenLaw) (_ : Params → Frag) : Prop := True

/-- a call of the def at f, from any frame, over a ledger: what comes back, and the ledger behind it -/
noncomputable def Spec (w : World) (k : Nat) (f : Addr) (vs : List Value) (news : List (Addr × Obj)) (R : Value → List (Addr × Obj) → Prop) : Prop :=
  ∀ (mean : ExcName → Option Value) (mg mb : Str → Option Value) (dp un : Nat) (gd : Option (List Code)) (cn : Str) (cs : Scope) (a : Addr) (ccd : Value) (cl : List (Str × Addr)) (outer : List Env)
    (A₀ : Around) (base h₀ : Heap) (L : Addr) (m : Str → Option Value) (s : Shared) (Q E : Value → Shared → Prop),
    Below A₀ base outer h₀ → Fr h₀ L s.heap m → (MineH.hd.heap_1_39 w.params).In h₀ → News h₀ L s.heap news → Top MineH.hd.view_1_40 (looseW MineH.hd.view_1_40 [Str.ofString "PostError"]) mean mg mb h₀ → cs.kind = .function →
    dp + k < recursionLimit → un + 8 * k < cLine →
    (∀ v news' h' tk', Fr h₀ L h' m → News h₀ L h' news' → R v news' → Q v { s with heap := h', toks := tk' }) →
    wpAny (PySem.model PySem.Challenge.rw_nz0311_01.row.prog w) (ktrTop dp un gd cn cs L a ccd cl outer) (call (.ref f) vs) Q E s

section
variable {M : Value → List (Addr × Obj) → Prop}
/-- what a call hands back, taken apart ahead of the goal: the goal's own term is not copied for each part -/
theorem curry {h₀ : Heap} {L : Addr} {m : Str → Option Value} {s : Shared} {Q : Value → Shared → Prop} {R : Value → List (Addr × Obj) → Prop} (h : ∀ v n', R v n' → ∀ h' tk', Fr h₀ L h' m → News h₀ L h' n' → Q v { s with heap := h', toks := tk' }) : ∀ v news' h' tk', Fr h₀ L h' m → News h₀ L h' news' → R v news' → Q v { s with heap := h', toks := tk' } := fun v n' h' tk' F N r => h v n' r h' tk' F N
theorem elimA {f : Tok → Value} {X : List (Addr × Obj)} (h : ∀ t, M (f t) X) : ∀ v n', ((∃ t', v = f t') ∧ n' = X) → M v n' := by
  rintro v n' ⟨⟨t, rfl⟩, rfl⟩; exact h t
theorem elimB {c : Value} {X : List (Addr × Obj)} (h : M c X) : ∀ v n', (v = c ∧ n' = X) → M v n' := by
  rintro v n' ⟨rfl, rfl⟩; exact h
theorem elimI {f : Int → Tok → Value} {X : List (Addr × Obj)} (h : ∀ i t, M (f i t) X) : ∀ v n', ((∃ i t', v = f i t') ∧ n' = X) → M v n' := by
  rintro v n' ⟨⟨i, t, rfl⟩, rfl⟩; exact h i t
theorem elim4 {f : Addr → Value} {X : Addr → Tok → Tok → Tok → List (Addr × Obj)} (h : ∀ T a b c, M (f T) (X T a b c)) : ∀ v n', (∃ T a b c, v = f T ∧ n' = X T a b c) → M v n' := by
  rintro v n' ⟨T, a, b, c, rfl, rfl⟩; exact h T a b c
theorem elim3L {f : Addr → Value} {X : Addr → Tok → Tok → List (Addr × Obj)} {K : Addr → Prop} (h : ∀ T a b, K T → M (f T) (X T a b)) : ∀ v n', (∃ T a b, v = f T ∧ n' = X T a b ∧ K T) → M v n' := by
  rintro v n' ⟨T, a, b, rfl, rfl, k⟩; exact h T a b k
theorem elimD {f : Nat → Tok → Value} {X : Int → Int → Tok → Tok → List (Addr × Obj)} {K1 : Nat → Prop} {K2 K3 : Int → Prop} (h : ∀ r a b ta tb t, K1 r → K2 a → K3 a → M (f r t) (X a b ta tb)) : ∀ v n', (∃ (r : Nat) (a b : Int) (ta tb t : Tok), K1 r ∧ K2 a ∧ K3 a ∧ v = f r t ∧ n' = X a b ta tb) → M v n' := by
  rintro v n' ⟨r, a, b, ta, tb, t, k1, k2, k3, rfl, rfl⟩; exact h r a b ta tb t k1 k2 k3
theorem elimL {f : Addr → Value} {X : Addr → Nat → Nat → Nat → Nat → Nat → Int → Int → Tok → Tok → Tok → List (Addr × Obj)} {j1 j2 j3 j4 j5 : Nat → Prop} {K2 K3 : Int → Prop} {K4 : Addr → Prop} (h : ∀ T i aa bb cc zz a b ta tb t, j1 i → j2 aa → j3 bb → j4 cc → j5 zz → K2 a → K3 a → K4 T → M (f T) (X T i aa bb cc zz a b ta tb t)) : ∀ v n', (∃ (T : Addr) (i aa bb cc zz : Nat) (a b : Int) (ta tb t : Tok), (j1 i ∧ j2 aa ∧ j3 bb ∧ j4 cc ∧ j5 zz) ∧ K2 a ∧ K3 a ∧ v = f T ∧ K4 T ∧ n' = X T i aa bb cc zz a b ta tb t) → M v n' := by
  rintro v n' ⟨T, i, aa, bb, cc, zz, a, b, ta, tb, t, ⟨k1, k2, k3, k4, k5⟩, k6, k7, rfl, k8, rfl⟩; exact h T i aa bb cc zz a b ta tb t k1 k2 k3 k4 k5 k6 k7 k8
theorem elim4L {f : Addr → Value} {X : Addr → List UInt8 → Tok → Tok → List (Addr × Obj)} {K : Addr → Prop} (h : ∀ T b t u, K T → M (f T) (X T b t u)) : ∀ v n', (∃ T b t u, v = f T ∧ n' = X T b t u ∧ K T) → M v n' := by
  rintro v n' ⟨T, b, t, u, rfl, rfl, k⟩; exact h T b t u k
theorem elimT {f : Addr → Value} {X : Addr → Addr → List UInt8 → Tok → Tok → Tok → Tok → List (Addr × Obj)} {K1 : List UInt8 → Prop} {K2 K3 : Prop} {K4 : Addr → Addr → Prop} {K5 : Addr → Prop} (h : ∀ T S b t1 t2 t3 t4, K1 b → K2 → K3 → K4 T S → K5 S → M (f T) (X T S b t1 t2 t3 t4)) : ∀ v n', (∃ T S b t1 t2 t3 t4, v = f T ∧ n' = X T S b t1 t2 t3 t4 ∧ K1 b ∧ K2 ∧ K3 ∧ K4 T S ∧ K5 S) → M v n' := by
  rintro v n' ⟨T, S, b, t1, t2, t3, t4, rfl, rfl, k1, k2, k3, k4, k5⟩; exact h T S b t1 t2 t3 t4 k1 k2 k3 k4 k5
theorem elimR {f : Addr → Value} {X : Addr → Addr → Int → Int → Int → Int → Int → Int → Int → Tok → Tok → Tok → Tok → Tok → Tok → Tok → Tok → Tok → Tok → Tok → Tok → Tok → Tok → List (Addr × Obj)} {K : Int → Int → Int → Prop} (h : ∀ T D y mo da ho mi se zo k1 k2 k3 k4 k5 k6 k7 t1 t2 t3 t4 t5 t6 t7, K y mo da → M (f T) (X T D y mo da ho mi se zo k1 k2 k3 k4 k5 k6 k7 t1 t2 t3 t4 t5 t6 t7)) : ∀ v n', (∃ (T D : Addr) (y mo da ho mi se zo : Int) (k1 k2 k3 k4 k5 k6 k7 t1 t2 t3 t4 t5 t6 t7 : Tok), K y mo da ∧ v = f T ∧ n' = X T D y mo da ho mi se zo k1 k2 k3 k4 k5 k6 k7 t1 t2 t3 t4 t5 t6 t7) → M v n' := by
  rintro v n' ⟨T, D, y, mo, da, ho, mi, se, zo, k1, k2, k3, k4, k5, k6, k7, t1, t2, t3, t4, t5, t6, t7, k, rfl, rfl⟩; exact h T D y mo da ho mi se zo k1 k2 k3 k4 k5 k6 k7 t1 t2 t3 t4 t5 t6 t7 k
theorem elimN {c : Value} {X : Tok → List (Addr × Obj)} (h : ∀ t, M c (X t)) : ∀ v n', (v = c ∧ ∃ t, n' = X t) → M v n' := by
  rintro v n' ⟨rfl, t, rfl⟩; exact h t
theorem elimZ {f : Int → Tok → Value} {X : Tok → List (Addr × Obj)} (h : ∀ i t u, M (f i t) (X u)) : ∀ v n', ((∃ i t, v = f i t) ∧ ∃ u, n' = X u) → M v n' := by
  rintro v n' ⟨⟨i, t, rfl⟩, u, rfl⟩; exact h i t u
/-- the turn of a loop, taken apart ahead of the goal -/
theorem curryK {h₀ : Heap} {L : Addr} {K : Nat → (Str → Option Value) → List (Addr × Obj) → Prop} {G : Nat → (Str → Option Value) → List (Addr × Obj) → Heap → Nat → Prop} (h : ∀ r m₁ nx, K r m₁ nx → ∀ h₁ tk₁, Fr h₀ L h₁ m₁ → News h₀ L h₁ nx → G r m₁ nx h₁ tk₁) : ∀ r m₁ nx h₁ tk₁, Fr h₀ L h₁ m₁ → News h₀ L h₁ nx → K r m₁ nx → G r m₁ nx h₁ tk₁ := fun r m₁ nx h₁ tk₁ F N k => h r m₁ nx k h₁ tk₁ F N
theorem elimS {S1 S2 : Prop} {c1 c2 : Value} {X1 : Tok → List (Addr × Obj)} {X2 : List (Addr × Obj)} (h1 : S1 → ∀ t, M c1 (X1 t)) (h2 : S2 → M c2 X2) : ∀ v n', ((S1 ∧ v = c1 ∧ ∃ t, n' = X1 t) ∨ (S2 ∧ v = c2 ∧ n' = X2)) → M v n' := by
  rintro v n' (⟨s, rfl, t, rfl⟩ | ⟨s, rfl, rfl⟩)
  · exact h1 s t
  · exact h2 s
theorem elimC {f : Addr → Value} {X : Nat → Nat → Nat → Nat → Addr → Tok → Tok → Tok → Tok → List (Addr × Obj)} {K : Nat → Nat → Nat → Nat → Prop} (h : ∀ a b c d T t1 t2 t3 t4, K a b c d → M (f T) (X a b c d T t1 t2 t3 t4)) : ∀ v n', (∃ (a b c d : Nat) (T : Addr) (t1 t2 t3 t4 : Tok), K a b c d ∧ v = f T ∧ n' = X a b c d T t1 t2 t3 t4) → M v n' := by
  rintro v n' ⟨a, b, c, d, T, t1, t2, t3, t4, k, rfl, rfl⟩; exact h a b c d T t1 t2 t3 t4 k
end
theorem Spec.use {w : World} {k : Nat} {f : Addr} {vs : List Value} {news : List (Addr × Obj)} {R : Value → List (Addr × Obj) → Prop} (C : Spec w k f vs news R)
    {mean : ExcName → Option Value} {mg mb : Str → Option Value} {dp un : Nat} {gd : Option (List Code)} {cn : Str} {cs : Scope} {a : Addr} {ccd : Value} {cl : List (Str × Addr)} {outer : List Env}
    {A₀ : Around} {base h₀ : Heap} {L : Addr} {m : Str → Option Value} {s : Shared} {Q E : Value → Shared → Prop}
    (B : Below A₀ base outer h₀) (F : Fr h₀ L s.heap m) (X : (MineH.hd.heap_1_39 w.params).In h₀) (N : News h₀ L s.heap news) (T : Top MineH.hd.view_1_40 (looseW MineH.hd.view_1_40 [Str.ofString "PostError"]) mean mg mb h₀) (hk : cs.kind = .function)
    (hd : dp + k < recursionLimit) (hu : un + 8 * k < cLine)
    (ret : ∀ v news' h' tk', Fr h₀ L h' m → News h₀ L h' news' → R v news' → Q v { s with heap := h', toks := tk' }) :
    wpAny (PySem.model PySem.Challenge.rw_nz0311_01.row.prog w) (ktrTop dp un gd cn cs L a ccd cl outer) (call (.ref f) vs) Q E s :=
  C _ _ _ _ _ _ _ _ _ _ _ _ _ _ _ _ _ _ _ _ B F X N T hk hd hu ret

theorem reg_00_base_0 : True := by
  k_with "L exec" => ((k_here; (with_reducible show wpAny _ _ (exec (Stmt.While _ _ _ _) _) _ _ _); k_extra "my while"))
  k_with "L exec While" => ((k_here; (with_reducible show wpAny _ _ (exec (Stmt.While _ _ _ _) _) _ _ _); k_extra "my while"))
  k_with "L exec While Compare" => ((k_here; (with_reducible show wpAny _ _ (exec (Stmt.While _ _ _ _) _) _ _ _); k_extra "my while"))
  k_with "L exec While BoolOp" => ((k_here; (with_reducible show wpAny _ _ (exec (Stmt.While _ _ _ _) _) _ _ _); k_extra "my while"))
  k_with "L exec While BoolOp cons nil" => ((k_here; (with_reducible show wpAny _ _ (exec (Stmt.While _ _ _ _) _) _ _ _); k_extra "my while"))
  k_with "L exec While Compare cons nil" => ((k_here; (with_reducible show wpAny _ _ (exec (Stmt.While _ _ _ _) _) _ _ _); k_extra "my while"))
  k_with "L eval Name" => ((k_here; (with_reducible show wpAny _ _ (eval (Expr.Name _ _) (envOf _ _ _ _ _)) _ _ _); name_kind "local"; k_dflt (refine' ldK ?F ?hv ?_; (case F => k_asm); (case hv => first | (with_reducible assumption) | exact if_pos rfl | (refine Eq.trans (if_neg (by decide +kernel)) ?_; first | (with_reducible assumption) | exact if_pos rfl | (refine Eq.trans (if_neg (by decide +kernel)) ?_; first | (with_reducible assumption) | exact if_pos rfl | (refine Eq.trans (if_neg (by decide +kernel)) ?_; first | (with_reducible assumption) | exact if_pos rfl | (refine Eq.trans (if_neg (by decide +kernel)) ?_; first | (with_reducible assumption) | exact if_pos rfl | (refine Eq.trans (if_neg (by decide +kernel)) ?_; first | assumption | exact if_pos rfl)))))))))
  k_with "L WhileStep2" => (((with_reducible show WhileStep2 _ _ _ _ _ _ (Flow.ret _) _); (dsimp only [WhileStep2])))
  trivial
-- piece 01_comp
theorem walk_01_comp : twoK PySem.Challenge.rw_nz0311_01 MineH.hd.heap_1_39 := by k_fill; w_top off; trivial
/-- two lists, item by item -/
inductive All2 {α β : Type} (R : α → β → Prop) : List α → List β → Prop where
  | nil : All2 R [] []
  | cons {a b as bs} : R a b → All2 R as bs → All2 R (a :: as) (b :: bs)
theorem All2.snoc {α β : Type} {R : α → β → Prop} {a : α} {b : β} (h : R a b) : ∀ {as : List α} {bs : List β}, All2 R as bs → All2 R (as ++ [a]) (bs ++ [b])
  | _, _, .nil => .cons h .nil
  | _, _, .cons x r => .cons x (All2.snoc h r)
theorem All2.length {α β : Type} {R : α → β → Prop} : ∀ {as : List α} {bs : List β}, All2 R as bs → as.length = bs.length
  | _, _, .nil => rfl
  | _, _, .cons _ r => congrArg (· + 1) r.length
theorem All2.imp {α β : Type} {R R' : α → β → Prop} (f : ∀ a b, R a b → R' a b) : ∀ {as : List α} {bs : List β}, All2 R as bs → All2 R' as bs
  | _, _, .nil => .nil
  | _, _, .cons x r => .cons (f _ _ x) (r.imp f)
section
variable {prog : Program} {w : World} {A : Around} {E : Value → Shared → Prop} {s : Shared} {h₀ : Heap} {L : Addr} {m : Str → Option Value} {env : Env}

/-- what a source of a comprehension must bring at its iterator -/
noncomputable def SrcIt (prog : Program) (w : World) (A : Around) (h₀ : Heap) (L : Addr) (m : Str → Option Value) (news : List (Addr × Obj)) (n : Nat) (P : Nat → Value → Prop) (S : List (Addr × Obj) → Prop) (it : Value) (s₂ : Shared) : Prop :=
  ∃ I fp St, it = .ref I ∧ Walks prog w A I fp [I] n P St ∧ n ≤ sizeLine ∧ (∀ i h, St i h → ∃ o, h.get? I = some o) ∧
    (∀ i h h' o nw, St i h → h.get? I = some o → h'.get? I = some o → (∀ b o, h₀.get? b = some o → h'.get? b = some o) → News h₀ L h' nw → S nw → St i h') ∧
    St 0 s₂.heap ∧ (∀ b ∈ fp, b < s₂.heap.objs.size) ∧ Fr h₀ L s₂.heap m ∧ News h₀ L s₂.heap news ∧ L ≠ I ∧ h₀.get? I = none ∧ (∀ p ∈ news, p.1 ≠ I) ∧ S news

theorem comp_plain {elt iter : Expr} {x : Str} {px : Pos} {scope : Scope} {cl : List (Str × Addr)} {pos : Pos} {Q : Value → Shared → Prop} (_F₀ : Fr h₀ L s.heap m)
    (hclos : closureFor scope env = pure cl) (hcell : ∀ y ∈ scope.names, y.2 ≠ .cell) (hkind : scope.kind = .function)
    (hnames : ∀ y ∈ scope.names, y.2 = .local → scope.names.lookup y.1 = some .local) (hx : scope.names.lookup x = some .local)
    (h : wpAny (model prog w) A (eval iter env) (fun xv s₁ => wpAny (model prog w) A (pyIter xv) (fun it s₂ => ∃ news n P S, SrcIt prog w A h₀ L m news n P S it s₂ ∧ CompRest prog w A h₀ L m env elt x scope cl s₂ S P (FinE h₀ L m s₂ Q) n 0 [] news) E s₁) E s)
    (hs : ∀ x, foldedSetIterable iter env x = pure x := by intro _; rfl) :
    wpAny (model prog w) A (eval (.ListComp elt [⟨.Name x px, iter, [], 0⟩] scope pos) env) Q E s := by
  rw [eval_ListComp]
  refine wpAny_comprehension_free (use := none) rfl hs hclos hkind hnames (wpAny_mono h (fun xv s₁ h₁ => ?_) fun _ _ e => e)
  refine wpAny_mono h₁ (fun it s₂ h₂ => ?_) fun _ _ e => e
  obtain ⟨news, n, P, S, ⟨I, fp, St, rfl, W, hsz, hIo, hSt, hst, hfp, F, N, hIL, hI₀, off, hS⟩, R⟩ := h₂
  refine block_U W hsz hIo hSt hcell hkind hx hst hfp F N hIL hI₀ off hS R ?_
  intro D C h tk m' ys news' F' N' o1 hn hC₀ hD₀ hCL hDL hCD offC fin
  refine ⟨m', hn, fun h'' hs'' => fin D h'' tk (F'.change hs'' hCL hC₀) (fun p hp => ?_) o1⟩
  refine ⟨hs''.extBut _ _ ?_ (N' p hp).1, (N' p hp).2⟩
  rcases List.mem_cons.mp hp with rfl | hp
  · exact Ne.symm hCD
  · exact offC p hp

theorem comp_test {ct elt iter : Expr} {x : Str} {px : Pos} {scope : Scope} {cl : List (Str × Addr)} {pos : Pos} {Q : Value → Shared → Prop} (_F₀ : Fr h₀ L s.heap m)
    (hclos : closureFor scope env = pure cl) (hcell : ∀ y ∈ scope.names, y.2 ≠ .cell) (hkind : scope.kind = .function)
    (hnames : ∀ y ∈ scope.names, y.2 = .local → scope.names.lookup y.1 = some .local) (hx : scope.names.lookup x = some .local)
    (h : wpAny (model prog w) A (eval iter env) (fun xv s₁ => wpAny (model prog w) A (pyIter xv) (fun it s₂ => ∃ news n P S, SrcIt prog w A h₀ L m news n P S it s₂ ∧ CompRestT prog w A h₀ L m env ct elt x scope cl s₂ S P (FinE h₀ L m s₂ Q) n 0 [] news) E s₁) E s)
    (hs : ∀ x, foldedSetIterable iter env x = pure x := by intro _; rfl) :
    wpAny (model prog w) A (eval (.ListComp elt [⟨.Name x px, iter, [ct], 0⟩] scope pos) env) Q E s := by
  rw [eval_ListComp]
  refine wpAny_comprehension_free (use := none) rfl hs hclos hkind hnames (wpAny_mono h (fun xv s₁ h₁ => ?_) fun _ _ e => e)
  refine wpAny_mono h₁ (fun it s₂ h₂ => ?_) fun _ _ e => e
  obtain ⟨news, n, P, S, ⟨I, fp, St, rfl, W, hsz, hIo, hSt, hst, hfp, F, N, hIL, hI₀, off, hS⟩, R⟩ := h₂
  refine block_T W hsz hIo hSt hcell hkind hx hst hfp F N hIL hI₀ off hS R ?_
  intro D C h tk m' ys news' F' N' o1 hn hC₀ hD₀ hCL hDL hCD offC fin
  refine ⟨m', hn, fun h'' hs'' => fin D h'' tk (F'.change hs'' hCL hC₀) (fun p hp => ?_) o1⟩
  refine ⟨hs''.extBut _ _ ?_ (N' p hp).1, (N' p hp).2⟩
  rcases List.mem_cons.mp hp with rfl | hp
  · exact Ne.symm hCD
  · exact offC p hp

/-- the turns of a comprehension without a test: each element is walked over the same ledger -/
theorem rest_plain {elt : Expr} {x : Str} {scope : Scope} {cl : List (Str × Addr)} {S : List (Addr × Obj) → Prop} {P : Nat → Value → Prop} {Fin : List Value → List (Addr × Obj) → Prop} {news : List (Addr × Obj)} {n : Nat} (R : Nat → Value → Prop)
    (turn : ∀ i v I oI C oC D ys m₂ h tk (E' : Value → Shared → Prop), i < n → P i v → NsObj oC m₂ → m₂ x = some v → Fr h₀ L h m → News h₀ L h ((I, oI) :: (C, oC) :: (D, lst ys) :: news) → Off3 I C D news → ((@Ne Nat I C) ∧ (@Ne Nat I D) ∧ (@Ne Nat C D)) →
      wpAny (model prog w) A (eval elt (compEnvC scope cl C env)) (CompEnd h₀ L m { s with heap := h, toks := tk } I oI C oC D (lst ys) S (fun y news' => R i y ∧ news' = news)) E' { s with heap := h, toks := tk })
    (fin : ∀ ys : List Value, ys.length = n → (∀ i y, ys[i]? = some y → R i y) → Fin ys news) : CompRest prog w A h₀ L m env elt x scope cl s S P Fin n 0 [] news := by
  have key : ∀ (j i : Nat) (ys : List Value), i + j = n → ys.length = i → (∀ k y, ys[k]? = some y → R k y) → CompRest prog w A h₀ L m env elt x scope cl s S P Fin j i ys news := by
    intro j
    induction j with
    | zero => intro i ys hi hl hy; exact CompRest.zero (fin ys (by omega) hy)
    | succ j ih =>
      intro i ys hi hl hy
      refine CompRest.succ ?_
      intro v I oI C oC D m₂ h tk E' hv hC hx F N off ne
      refine wpAny_mono (turn i v I oI C oC D ys m₂ h tk E' (by omega) hv hC hx F N off ne) (fun y s₂ hq => ?_) fun _ _ e => e
      obtain ⟨h', tk', nw, e, F', N', off', hS, hr, hn⟩ := hq
      subst hn
      refine ⟨h', tk', _, e, F', N', off', hS, ?_⟩
      refine ih (i + 1) _ (by omega) (by rw [List.length_append, List.length_singleton, hl]) ?_
      intro k z hz
      rcases Nat.lt_or_ge k ys.length with hk | hk
      · rw [List.getElem?_append_left hk] at hz; exact hy k z hz
      · rw [List.getElem?_append_right hk] at hz
        have h0 : k - ys.length = 0 := by
          cases hq : k - ys.length with
          | zero => rfl
          | succ q => rw [hq] at hz; simp at hz
        rw [h0] at hz
        simp at hz
        have : k = i := by omega
        rw [this, ← hz]; exact hr
  exact key n 0 [] (by omega) rfl (by intro k y h; simp at h)

/-- the turns of a comprehension with one test, which keeps the items that p takes -/
theorem rest_test {ct elt : Expr} {x : Str} {scope : Scope} {cl : List (Str × Addr)} {S : List (Addr × Obj) → Prop} {P : Nat → Value → Prop} {Fin : List Value → List (Addr × Obj) → Prop} {news : List (Addr × Obj)} {n : Nat} (p : Nat → Bool) (R : Nat → Value → Prop)
    (turn : ∀ i v I oI C oC D ys m₂ h tk (E' : Value → Shared → Prop), i < n → P i v → NsObj oC m₂ → m₂ x = some v → Fr h₀ L h m → News h₀ L h ((I, oI) :: (C, oC) :: (D, lst ys) :: news) → Off3 I C D news → ((@Ne Nat I C) ∧ (@Ne Nat I D) ∧ (@Ne Nat C D)) →
      wpAny (model prog w) A (isTrue ct (compEnvC scope cl C env) (eval ct (compEnvC scope cl C env))) (fun ok s' => ok = p i ∧ if ok = true then
        wpAny (model prog w) A (eval elt (compEnvC scope cl C env)) (CompEnd h₀ L m { s with heap := h, toks := tk } I oI C oC D (lst ys) S (fun y news' => R i y ∧ news' = news)) E' s'
        else CompEnd h₀ L m { s with heap := h, toks := tk } I oI C oC D (lst ys) S (fun _ news' => news' = news) Value.none s') E' { s with heap := h, toks := tk })
    (fin : ∀ ys : List Value, All2 R ((List.range n).filter p) ys → Fin ys news) : CompRestT prog w A h₀ L m env ct elt x scope cl s S P Fin n 0 [] news := by
  have key : ∀ (j i : Nat) (ys : List Value), i + j = n → All2 R ((List.range i).filter p) ys → CompRestT prog w A h₀ L m env ct elt x scope cl s S P Fin j i ys news := by
    intro j
    induction j with
    | zero =>
      intro i ys hi hy
      have e : i = n := by omega
      rw [e] at hy
      exact CompRestT.zero (fin ys hy)
    | succ j ih =>
      intro i ys hi hy
      refine CompRestT.succ ?_
      intro v I oI C oC D m₂ h tk E' hv hC hx F N off ne
      refine wpAny_mono (turn i v I oI C oC D ys m₂ h tk E' (by omega) hv hC hx F N off ne) (fun ok s₂ hq => ?_) fun _ _ e => e
      obtain ⟨hp, hq⟩ := hq
      cases ok with
      | true =>
        simp only [if_true] at hq ⊢
        refine wpAny_mono hq (fun y s₃ hq => ?_) fun _ _ e => e
        obtain ⟨h', tk', nw, e, F', N', off', hS, hr, hn⟩ := hq
        subst hn
        refine ⟨h', tk', _, e, F', N', off', hS, ih (i + 1) _ (by omega) ?_⟩
        rw [List.range_succ, List.filter_append]
        have : List.filter p [i] = [i] := by simp [← hp]
        rw [this]
        exact hy.snoc hr
      | false =>
        simp only [Bool.false_eq_true, if_false] at hq ⊢
        obtain ⟨h', tk', nw, e, F', N', off', hS, hn⟩ := hq
        subst hn
        refine ⟨h', tk', _, e, F', N', off', hS, ih (i + 1) _ (by omega) ?_⟩
        rw [List.range_succ, List.filter_append]
        have : List.filter p [i] = [] := by simp [← hp]
        rw [this, List.append_nil]
        exact hy
  exact key n 0 [] (by omega) .nil

theorem src_new {news : List (Addr × Obj)} {n : Nat} {P : Nat → Value → Prop} {S : List (Addr × Obj) → Prop} {s₁ : Shared} {o : Obj} {fp : List Addr} {St : Nat → Heap → Prop} (F : Fr h₀ L s₁.heap m) (N : News h₀ L s₁.heap news) (hsz : n ≤ sizeLine)
    (W : Walks prog w A s₁.heap.objs.size fp [s₁.heap.objs.size] n P St) (hIo : ∀ i h, St i h → ∃ o, h.get? s₁.heap.objs.size = some o)
    (hSt : ∀ i h h' o nw, St i h → h.get? s₁.heap.objs.size = some o → h'.get? s₁.heap.objs.size = some o → (∀ b o, h₀.get? b = some o → h'.get? b = some o) → News h₀ L h' nw → S nw → St i h')
    (h0 : St 0 (s₁.heap.push o)) (hfp : ∀ b ∈ fp, b ≤ s₁.heap.objs.size) (hS : S news) : SrcIt prog w A h₀ L m news n P S (.ref s₁.heap.objs.size) { s₁ with heap := s₁.heap.push o } :=
  ⟨_, fp, St, rfl, W, hsz, hIo, hSt, h0, fun b hb => by
      show b < (s₁.heap.push _).objs.size
      rw [Heap.size_push]; exact Nat.lt_succ_of_le (hfp b hb), F.keeps fun _ _ e => Heap.get?_push_of_some _ e, N.grown fun _ _ e => Heap.get?_push_of_some _ e, Nat.ne_of_lt F.ns.lt, next_is_new F, fun p hp => Nat.ne_of_lt (Heap.lt_size (N p hp).1), hS⟩

theorem src_str {news : List (Addr × Obj)} {y : Str} {t : Tok} {s₁ : Shared} {Q : Value → Shared → Prop} (hh : A.handled = none) (F : Fr h₀ L s₁.heap m) (N : News h₀ L s₁.heap news) (hsz : y.cps.size ≤ sizeLine)
    (h : ∀ it s₂, (∃ h, s₂ = { s₁ with heap := h }) → SrcIt prog w A h₀ L m news y.cps.size (SignAt y) (fun _ => True) it s₂ → Q it s₂) : wpAny (model prog w) A (pyIter (.str y t)) Q E s₁ := by
  cases ha : y.cps.all (· < 128)
  · refine wpAny_pyIter_wide ha (h _ _ ⟨_, rfl⟩ (src_new F N hsz (Walks.strWide hh _ y t) (fun i h st => let ⟨o, e, _⟩ := st; ⟨o, e⟩) (fun i h h' o nw st e e' _ _ _ => ?_) ⟨_, Heap.get?_push_size _ rfl, rfl, rfl⟩ (fun b hb => by rw [List.mem_singleton.mp hb]; exact Nat.le_refl _) trivial))
    obtain ⟨o', q, r⟩ := st; rw [e] at q; cases q; exact ⟨o, e', r⟩
  · refine wpAny_pyIter_ascii ha (h _ _ ⟨_, rfl⟩ (src_new F N hsz (Walks.strAscii hh _ y t) (fun i h st => let ⟨o, e, _⟩ := st; ⟨o, e⟩) (fun i h h' o nw st e e' _ _ _ => ?_) ⟨_, Heap.get?_push_size _ rfl, rfl, rfl⟩ (fun b hb => by rw [List.mem_singleton.mp hb]; exact Nat.le_refl _) trivial))
    obtain ⟨o', q, r⟩ := st; rw [e] at q; cases q; exact ⟨o, e', r⟩

theorem src_bytes {news : List (Addr × Obj)} {b : Array UInt8} {t : Tok} {s₁ : Shared} {Q : Value → Shared → Prop} (hh : A.handled = none) (F : Fr h₀ L s₁.heap m) (N : News h₀ L s₁.heap news) (hsz : b.size ≤ sizeLine)
    (h : ∀ it s₂, (∃ h, s₂ = { s₁ with heap := h }) → SrcIt prog w A h₀ L m news b.size (fun i v => ∃ c u, b[i]? = some c ∧ v = .int (c.toNat : Int) u) (fun _ => True) it s₂ → Q it s₂) : wpAny (model prog w) A (pyIter (.bytes b t)) Q E s₁ := by
  refine KBw.pyIter_bytes (h _ _ ⟨_, rfl⟩ (src_new F N hsz (KBw.walks hh _ b t) (fun i h st => let ⟨o, e, _⟩ := st; ⟨o, e⟩) (fun i h h' o nw st e e' _ _ _ => ?_) ⟨_, Heap.get?_push_size _ rfl, rfl, rfl⟩ (fun b hb => by rw [List.mem_singleton.mp hb]; exact Nat.le_refl _) trivial))
  obtain ⟨o', q, r⟩ := st; rw [e] at q; cases q; exact ⟨o, e', r⟩

theorem src_list {news : List (Addr × Obj)} {ax : Addr} {its : Array Value} {s₁ : Shared} {Q : Value → Shared → Prop} (hh : A.handled = none) (F : Fr h₀ L s₁.heap m) (N : News h₀ L s₁.heap news) (S : SrcAt h₀ ax its news) (hsz : its.size ≤ sizeLine)
    (h : ∀ it s₂, (∃ h, s₂ = { s₁ with heap := h }) → SrcIt prog w A h₀ L m news its.size (fun i v => its[i]? = some v) (SrcAt h₀ ax its) it s₂ → Q it s₂) : wpAny (model prog w) A (pyIter (.ref ax)) Q E s₁ := by
  have hl := S.list F.keep N
  have hlt : ax < s₁.heap.objs.size := by obtain ⟨_, e, _⟩ := hl; exact Heap.lt_size e
  refine wpAny_pyIter_list hl (h _ _ ⟨_, rfl⟩ (src_new F N hsz (Walks.list hh s₁.heap.objs.size ax (Nat.ne_of_lt hlt) its) (fun i h st => by obtain ⟨o, e, _⟩ := st.1; exact ⟨o, e⟩) list_st ⟨⟨_, Heap.get?_push_size _ rfl, rfl, rfl⟩, hl.push _⟩ (fun b hb => ?_) S))
  rcases List.mem_cons.mp hb with rfl | hb
  · exact Nat.le_refl _
  · rw [List.mem_singleton.mp hb]; exact Nat.le_of_lt hlt

/-- a tuple of the base -/
theorem src_tuple {news : List (Addr × Obj)} {ax : Addr} {its : Array Value} {s₁ : Shared} {Q : Value → Shared → Prop} (hh : A.handled = none) (F : Fr h₀ L s₁.heap m) (N : News h₀ L s₁.heap news) (ht : h₀.IsTuple ax its) (hsz : its.size ≤ sizeLine)
    (h : ∀ it s₂, (∃ h, s₂ = { s₁ with heap := h }) → SrcIt prog w A h₀ L m news its.size (fun i v => its[i]? = some v) (fun _ => True) it s₂ → Q it s₂) : wpAny (model prog w) A (pyIter (.ref ax)) Q E s₁ := by
  have hl : s₁.heap.IsTuple ax its := ht.at fun o e => F.keep _ o e
  have hlt : ax < s₁.heap.objs.size := by obtain ⟨_, e, _⟩ := hl; exact Heap.lt_size e
  refine wpAny_pyIter_tuple hl (h _ _ ⟨_, rfl⟩ (src_new F N hsz (Walks.tuple hh s₁.heap.objs.size ax (Nat.ne_of_lt hlt) its) (fun i h st => by obtain ⟨o, e, _⟩ := st.1; exact ⟨o, e⟩)
    (fun i h h' o nw st e e' k _ _ => ⟨by obtain ⟨o', q, r⟩ := st.1; rw [e] at q; cases q; exact ⟨o, e', r⟩, ht.at fun o e => k _ o e⟩) ⟨⟨_, Heap.get?_push_size _ rfl, rfl, rfl⟩, hl.at fun o e => Heap.get?_push_of_some _ e⟩ (fun b hb => ?_) trivial))
  rcases List.mem_cons.mp hb with rfl | hb
  · exact Nat.le_refl _
  · rw [List.mem_singleton.mp hb]; exact Nat.le_of_lt hlt

theorem strs_of : ∀ {ys : List Value} {l : List Nat}, ys.length = l.length → (∀ (i : Nat) (y : Value), ys[i]? = some y → ∃ (c : Nat) (t : Tok), l[i]? = some c ∧ y = Value.str ⟨#[c]⟩ t) → StrsAre ys (l.map fun c => (⟨#[c]⟩ : Str))
  | [], [], _, _ => .nil
  | y :: ys, c :: l, hl, h => by
    obtain ⟨c', t, hc, rfl⟩ := h 0 y rfl
    have e : c = c' := by simpa using hc
    subst e
    exact .cons _ _ (strs_of (by simpa using hl) fun i z hz => h (i + 1) z (by simpa using hz))
theorem join_ones : ∀ l : List Nat, Txt.join (Str.ofString "") (l.map fun c => (⟨#[c]⟩ : Str)) = ⟨l.toArray⟩ := by
  intro l
  have e : (Str.ofString "") = (⟨#[]⟩ : Str) := by decide +kernel
  have := join_nil_signs ⟨l.toArray⟩
  rw [e, eq_of_beq (join_plain_closes ⟨#[]⟩ (l.map fun c => (⟨#[c]⟩ : Str)))]
  have z : signs ⟨l.toArray⟩ = l.map fun c => (⟨#[c]⟩ : Str) := by
    unfold signs; simp
  rw [← z]; exact this
theorem join_codes {D : Addr} {ys : List Value} {l : List Nat} {t : Tok} {Q : Value → Shared → Prop} {s : Shared} {k : Nat} (hD : s.heap.get? D = some { cls := .type "list", data := .seq ys.toArray k }) (hl : ys.length = l.length)
    (hys : ∀ (i : Nat) (y : Value), ys[i]? = some y → ∃ (c : Nat) (t : Tok), l[i]? = some c ∧ y = Value.str ⟨#[c]⟩ t) (hsz : l.length ≤ 16777216) (h : ∀ t' k, Q (.str ⟨l.toArray⟩ t') { s with toks := k }) :
    wpAny (model prog w) A (call (.builtin "str.join") [.str (Str.ofString "") t, .ref D]) Q E s := by
  refine join_list (items := ys.toArray) ⟨_, hD, rfl, _, rfl⟩ (by simpa using strs_of hl hys) ?_ (fun t' k => by rw [join_ones]; exact h t' k)
  have e1 : (Str.ofString "").length = 0 := by decide +kernel
  rw [e1]
  have : ∀ l : List Nat, ((l.map fun c => (⟨#[c]⟩ : Str)).map (·.length)).sum = l.length := by
    intro l
    induction l with
    | nil => rfl
    | cons a r ih => simp only [List.map_cons, List.sum_cons, List.length_cons, ih]; show 1 + _ = _; omega
  rw [this]; omega
end

-- piece 02_pure
theorem walk_02_pure : twoK PySem.Challenge.rw_nz0311_01 MineH.hd.heap_1_39 := by k_fill; w_top off; trivial
/-- bytes as numbers -/
noncomputable def nat (d : List UInt8) : List Nat := d.map UInt8.toNat
theorem nat_length (d : List UInt8) : (nat d).length = d.length := List.length_map ..
theorem nat_take (d : List UInt8) (k : Nat) : nat (d.take k) = (nat d).take k := List.map_take ..
theorem nat_drop (d : List UInt8) (k : Nat) : nat (d.drop k) = (nat d).drop k := List.map_drop ..
theorem nat_getD (d : List UInt8) (n : Nat) : (nat d).getD n 0 = (d.getD n 0).toNat := by
  unfold nat
  rw [List.getD_eq_getElem?_getD, List.getD_eq_getElem?_getD, List.getElem?_map]
  cases d[n]? <;> rfl
theorem nat_inj : ∀ {d e : List UInt8}, nat d = nat e → d = e
  | [], [], _ => rfl
  | [], _ :: _, h => by cases h
  | _ :: _, [], h => by cases h
  | a :: d, b :: e, h => by
    have h1 : a.toNat = b.toNat := (List.cons.inj h).1
    have h2 : nat d = nat e := (List.cons.inj h).2
    rw [UInt8.toNat_inj.mp h1, nat_inj h2]
theorem nat_beq (d e : List UInt8) : (d == e) = (nat d == nat e) := by
  rw [Bool.eq_iff_iff, beq_iff_eq, beq_iff_eq]
  exact ⟨congrArg nat, nat_inj⟩
/-- the signs that every text of the law is made of -/
noncomputable def Plain (l : List Nat) : Prop := ∀ c ∈ l, 32 ≤ c ∧ c < 127 ∧ c ≠ 34 ∧ c ≠ 91 ∧ c ≠ 92
theorem getD_at {l : List Nat} {n : Nat} (hn : n < l.length) : l.getD n 0 = l[n] := by
  rw [List.getD_eq_getElem?_getD, List.getElem?_eq_getElem hn]; rfl
theorem Plain.at {l : List Nat} (h : Plain l) {n : Nat} (hn : n < l.length) : 32 ≤ l.getD n 0 ∧ l.getD n 0 < 127 ∧ l.getD n 0 ≠ 34 ∧ l.getD n 0 ≠ 91 ∧ l.getD n 0 ≠ 92 := by
  rw [getD_at hn]; exact h _ (List.getElem_mem hn)
theorem take1 {l : List Nat} {n : Nat} (hn : n < l.length) : (l.drop n).take 1 = [l.getD n 0] := by
  rw [List.drop_eq_getElem_cons hn, List.take_succ_cons, List.take_zero, getD_at hn]
theorem take2 {l : List Nat} {n : Nat} (hn : n < l.length) : (l.drop n).take 2 = l.getD n 0 :: (l.drop (n + 1)).take 1 := by
  rw [List.drop_eq_getElem_cons hn, List.take_succ_cons, getD_at hn]
noncomputable def isAtomN (c : Nat) : Bool := (48 ≤ c && c ≤ 57) || (65 ≤ c && c ≤ 90) || (97 ≤ c && c ≤ 122) || 127 < c || [33, 35, 36, 37, 38, 39, 42, 43, 45, 47, 61, 63, 94, 95, 96, 123, 124, 125, 126].contains c

-- piece 03_bytes
theorem walk_03_bytes : twoK PySem.Challenge.rw_nz0311_01 MineH.hd.heap_1_39 := by k_fill; w_top off; trivial
theorem cl_nat (n k : Nat) : clipAt n ((k : Nat) : Int) = min k n := clipAt_nat n k
section
variable {prog : Program} {w : World} {A : Around} {E : Value → Shared → Prop} {s : Shared} {value slice : PySem.Expr} {d : List UInt8} {t : Tok} {h₀ : Heap} {L : Addr} {m : PySem.Str → Option Value} {news : List (Addr × Obj)} {Q : Value → Shared → Prop}
theorem picked_nat {lo k : Nat} : KBy.picked d.toArray (some (lo : Int)) (some ((lo + k : Nat) : Int)) = ((d.drop lo).take k).toArray := by
  rw [KBc.picked_eq]
  simp only [Option.elim, cl_nat, List.size_toArray]
  by_cases h1 : lo ≤ d.length
  · by_cases h2 : lo + k ≤ d.length
    · rw [Nat.min_eq_left h1, Nat.min_eq_left h2, Nat.add_sub_cancel_left]
    · rw [Nat.min_eq_left h1, Nat.min_eq_right (by omega), List.take_of_length_le (by simp), List.take_of_length_le (by simp; omega)]
  · rw [Nat.min_eq_right (by omega), Nat.min_eq_right (by omega), Nat.sub_self, List.take_zero, List.drop_eq_nil_of_le (by omega), List.take_nil]
theorem slice_Z {lo k : Nat} {hi : Int} {tl tu : Tok} (F : Fr h₀ L s.heap m) (N : News h₀ L s.heap news) (hh : hi = ((lo + k : Nat) : Int)) (hz : d.length ≤ 16777216)
    (h : ∀ h' t' tk, Fr h₀ L h' m → News h₀ L h' news → Q (.bytes ((d.drop lo).take k).toArray t') { s with heap := h', toks := tk })
    (hs : subscripted slice false (.bytes d.toArray t) (.ref s.heap.objs.size) = operate [.ref s.heap.objs.size, .bytes d.toArray t] (getItem (.bytes d.toArray t) (.ref s.heap.objs.size)) := by with_unfolding_all rfl)
    (ht : ∀ r, letTemporaryGo value (.bytes d.toArray t) r = pure () := by intro _; with_unfolding_all rfl) :
    wpAny (model prog w) A (subscriptTail value slice (.bytes d.toArray t) (.ref s.heap.objs.size)) Q E { s with heap := s.heap.push { cls := .type "slice", data := .fields #[.int (lo : Int) tl, .int hi tu, .none] } } := by
  subst hh
  refine KBc.slice_K (lo := some (lo : Int)) (hi := some ((lo + k : Nat) : Int)) F N rfl (by constructor) (by constructor) (by rw [KBw.ints_length, List.size_toArray]; exact hz) (fun h' t' tk F' N' _ => ?_) hs ht
  rw [picked_nat]
  exact h h' t' tk F' N'
theorem item_Z {n : Nat} {u : Tok} (hz : d.length ≤ 16777216) (hn : n < d.length) (h : Q (.int ((nat d).getD n 0 : Nat) s.toks) { s with toks := s.toks + 1 })
    (hs : subscripted slice false (.bytes d.toArray t) (.int n u) = operate [.bytes d.toArray t, .int n u] (getItem (.bytes d.toArray t) (.int n u)) := by with_unfolding_all rfl)
    (ht : ∀ r, letTemporaryGo value (.bytes d.toArray t) r = pure () := by intro _; with_unfolding_all rfl) :
    wpAny (model prog w) A (subscriptTail value slice (.bytes d.toArray t) (.int (n : Int) u)) Q E s :=
  KBy.item_N (x := d) (by omega) (by omega) (by omega) (by rw [Int.toNat_natCast, ← nat_getD]; exact h) hs ht
end
theorem eq_nat (d e : List UInt8) : (d.toArray.toList == e.toArray.toList) = (nat d == nat e) := nat_beq d e

theorem reg_03_bytes_0 : True := by
  k_with "L subscriptTail" => ((k_here; (with_reducible show wpAny _ _ (subscriptTail _ (Expr.Slice _ _ none _) (Value.bytes (List.toArray _) _) (Value.ref _)) _ _ _); k_dflt ((with_reducible rename Fr _ _ _ _ => F'q); (with_reducible rename News _ _ _ _ => N'q); (first | (refine slice_Z (s := ⟨_, _, _, _, _⟩) (k := 1) F'q N'q rfl (by omega) ?_) | (refine slice_Z (s := ⟨_, _, _, _, _⟩) (k := 2) F'q N'q rfl (by omega) ?_) ); intro _ _ _ _ _)))
  k_with "L subscriptTail" => ((k_here; (with_reducible show wpAny _ _ (subscriptTail _ _ (Value.bytes (List.toArray _) _) (Value.int (Int.ofNat _) _)) _ _ _); k_dflt (refine item_Z (by omega) (by omega) ?_)))
  k_with "L subscriptTail" => ((k_here; (with_reducible show wpAny _ _ (subscriptTail _ _ (Value.bytes (List.toArray _) _) (Value.int _ _)) _ _ _); k_dflt (refine item_Z (by omega) (by (try simp only [List.size_toArray] at *); omega) ?_)))
  trivial
-- piece 04_in
theorem walk_04_in : twoK PySem.Challenge.rw_nz0311_01 MineH.hd.heap_1_39 := by k_fill; w_top off; trivial
section
open PySem.Builtin
variable {prog : Program} {w : World} {A : Around} {E : Value → Shared → Prop} {s : Shared} {Q : Value → Shared → Prop} {t u : Tok}
theorem nat_contains (l : List UInt8) (c : UInt8) : l.toArray.contains c = (nat l).contains c.toNat := by
  rw [Bool.eq_iff_iff, List.contains_toArray, List.contains_iff_mem, List.contains_iff_mem]
  unfold nat
  rw [List.mem_map]
  constructor
  · intro h; exact ⟨c, h, rfl⟩
  · rintro ⟨a, h, e⟩
    rw [← UInt8.toNat_inj.mp e]; exact h
theorem gives_in_int (l : List UInt8) (t u : Tok) (i : Nat) (hi : i < 256) : Gives (Builtin.«bytes.__contains__» ⟨[.bytes l.toArray t, .int (i : Int) u], []⟩) (.val (.bool ((nat l).contains i))) := by
  refine .of_wp fun M A E s Q hq => ?_
  show wpAny M A (Bytes.containsIn "bytes.__contains__" (.bytes l.toArray t) (.int (i : Int) u) >>= fun r => _) _ E s
  refine wpAny_bind ?_
  unfold Bytes.containsIn
  refine wpAny_bind (wpAny_attempt (PySem.wpAny_of_eq (a := (i : Int)) rfl ?_))
  refine wpAny_bind (PySem.wpAny_of_eq KBy.buffer_eq ?_)
  dsimp only
  have e : (decide ((i : Int) < 0) || decide ((i : Int) ≥ 256)) = false := by
    rw [Bool.or_eq_false_iff]; exact ⟨decide_eq_false (by omega), decide_eq_false (by omega)⟩
  rw [e]
  refine PySem.wpAny_pure (PySem.wpAny_pure ⟨_, rfl, ?_⟩)
  have e2 : ((i : Int).toNat.toUInt8).toNat = i := by rw [Int.toNat_natCast]; exact Nat.mod_eq_of_lt hi
  rw [nat_contains, e2]; exact hq
theorem in_int {l : List UInt8} {i : Nat} (hi : i < 256) (h : Q (.bool ((nat l).contains i)) s) : wpAny (model prog w) A (compareOp .In (.int (i : Int) u) (.bytes l.toArray t)) Q E s :=
  in_gives (typeIs_bytes _ _ _) FB.slot_bytes_contains FB.entry_bytes_contains (FB.args_bytes_contains_2 _ _) (gives_in_int l t u i hi) h
theorem find_one (l : List UInt8) (c : UInt8) : (Bytes.find? l.toArray #[c] 0 l.toArray.size).isSome = (nat l).contains c.toNat := by
  rw [← nat_contains, Bool.eq_iff_iff, List.contains_toArray, List.contains_iff_mem]
  unfold Bytes.find?
  rw [List.find?_isSome]
  constructor
  · rintro ⟨i, hi, he⟩
    have e := eq_of_beq he
    have hz : (l.toArray.extract i (i + 1)).toList = [c] := congrArg Array.toList e
    rw [List.extract_toArray] at hz
    simp only [List.extract_eq_take_drop, Nat.add_sub_cancel_left] at hz
    exact List.mem_of_mem_drop (List.mem_of_mem_take (l := l.drop i) (i := 1) (by rw [hz]; exact .head _))
  · intro hc
    obtain ⟨i, hi, he⟩ := List.mem_iff_getElem.mp hc
    refine ⟨i, ?_, ?_⟩
    · simp only [List.mem_map, List.mem_range]
      exact ⟨i, by simp; omega, rfl⟩
    · apply beq_of_eq
      apply Array.ext'
      show (l.toArray.extract i (i + 1)).toList = [c]
      rw [List.extract_toArray]
      simp only [List.extract_eq_take_drop, Nat.add_sub_cancel_left]
      rw [List.drop_eq_getElem_cons hi, he]; rfl
theorem asIndex_bytes (b : Array UInt8) {Q : Int → Shared → Prop} (hh : A.handled = none) (h : ∀ h' tk, (∀ b o, s.heap.get? b = some o → h'.get? b = some o) → ∀ e, E e { s with heap := h', toks := tk }) : wpAny (model prog w) A (asIndex (.bytes b t)) Q E s := by
  unfold asIndex
  refine wpAny_bind (PySem.wpAny_of_eq (a := none) rfl ?_)
  dsimp only
  refine wpAny_bind (wpAny_callSpecial?_none (T := "bytes") rfl (by rw [typeLookup_type, builtinLookup_eq_fast]; kernel_rfl) ?_)
  dsimp only
  refine wpAny_bind (PySem.wpAny_of_eq (a := "bytes") (by kernel_rfl) ?_)
  exact raiseError_exc excClass_TypeError hh fun h' tk e hx => h h' tk hx.1 _
theorem meets_in_one (l e : List UInt8) (c : UInt8) (t u : Tok) (he : e = [c]) : Meets (Builtin.«bytes.__contains__» ⟨[.bytes l.toArray t, .bytes e.toArray u], []⟩) (fun A R s => A.handled = none ∧ ∀ h' tk, (∀ b o, s.heap.get? b = some o → h'.get? b = some o) → R (.ok (.ret (.bool ((nat l).contains c.toNat)))) { s with heap := h', toks := tk }) := by
  subst he
  refine .of_wp fun prog w A R s hS => ?_
  obtain ⟨hh, h⟩ := hS
  show wpAny _ _ (Bytes.containsIn "bytes.__contains__" (.bytes l.toArray t) (.bytes [c].toArray u) >>= fun r => _) _ _ s
  refine wpAny_bind ?_
  unfold Bytes.containsIn
  refine wpAny_bind (wpAny_attempt (asIndex_bytes (t := u) _ hh fun h' tk k e => ?_))
  refine wpAny_bind (PySem.wpAny_of_eq KBy.buffer_eq ?_)
  dsimp only
  refine wpAny_bind (PySem.wpAny_of_eq KBy.buffer_eq ?_)
  dsimp only
  refine wpAny_bind (wpAny_rule (PySem.wpAny_pure (PySem.wpAny_pure ⟨_, rfl, ?_⟩)))
  rw [show (Bytes.find? l.toArray [c].toArray 0 l.toArray.size).isSome = _ from find_one l c]
  exact h h' tk k
theorem in_one {l e : List UInt8} {x : Nat} (he : nat e = [x]) (hh : A.handled = none) (h : ∀ h' tk, (∀ b o, s.heap.get? b = some o → h'.get? b = some o) → Q (.bool ((nat l).contains x)) { s with heap := h', toks := tk }) : wpAny (model prog w) A (compareOp .In (.bytes e.toArray u) (.bytes l.toArray t)) Q E s := by
  show wpAny _ _ (do return .bool (← contains (.bytes l.toArray t) (.bytes e.toArray u))) Q E s
  obtain ⟨c, rfl, rfl⟩ : ∃ c, e = [c] ∧ c.toNat = x := by
    match e, he with
    | [c], he => exact ⟨c, rfl, by simpa [nat] using he⟩
  refine wpAny_bind (wpAny_contains_slot (typeIs_bytes _ _ _) FB.slot_bytes_contains ?_)
  exact call_meets (Q := fun v s' => wpAny _ A (truthy v) (fun b s'' => wpAny _ A (pure (Value.bool b)) Q E s'') E s') FB.slot_bytes_contains (typeIs_bytes _ _ _) FB.entry_bytes_contains (FB.args_bytes_contains_2 _ _) (meets_in_one l _ c t u rfl) ⟨hh, fun h' tk k => PySem.wpAny_pure (PySem.wpAny_pure (h h' tk k))⟩
theorem slot_bytes_find : Slot "bytes" "find" "bytes.find" :=
  .of (owner := "bytes") (n := "find") (by rw [typeLookup_type, builtinLookup_eq_fast]; kernel_rfl) (by decide +kernel) (by decide +kernel) (by decide +kernel)
    (by first | exact .inl (by decide +kernel) | exact .inr (by decide +kernel)) (by rw [isSubtype_type]; kernel_rfl)
theorem entry_bytes_find : entryFor table "bytes.find" = some Builtin.«bytes.find» := entryFor_of_tree (by kernel_rfl)
theorem args_bytes_find_4 (a b c d : Value) : argsOk "bytes.find" ⟨[a, b, c, d], []⟩ := by
  unfold argsOk; rw [signature?_of (id := "bytes.find") (n := ['d', 'n', 'i', 'f']) (o := ['s', 'e', 't', 'y', 'b']) (by kernel_rfl) FB.owner_bytes]; kernel_rfl
theorem slot_bytes_join : Slot "bytes" "join" "bytes.join" :=
  .of (owner := "bytes") (n := "join") (by rw [typeLookup_type, builtinLookup_eq_fast]; kernel_rfl) (by decide +kernel) (by decide +kernel) (by decide +kernel)
    (by first | exact .inl (by decide +kernel) | exact .inr (by decide +kernel)) (by rw [isSubtype_type]; kernel_rfl)
theorem entry_bytes_join : entryFor table "bytes.join" = some Builtin.«bytes.join» := entryFor_of_tree (by kernel_rfl)
theorem args_bytes_join_2 (a b : Value) : argsOk "bytes.join" ⟨[a, b], []⟩ := by
  unfold argsOk; rw [signature?_of (id := "bytes.join") (n := ['n', 'i', 'o', 'j']) (o := ['s', 'e', 't', 'y', 'b']) (by kernel_rfl) FB.owner_bytes]; kernel_rfl
theorem slot_bytes_strip : Slot "bytes" "strip" "bytes.strip" :=
  .of (owner := "bytes") (n := "strip") (by rw [typeLookup_type, builtinLookup_eq_fast]; kernel_rfl) (by decide +kernel) (by decide +kernel) (by decide +kernel)
    (by first | exact .inl (by decide +kernel) | exact .inr (by decide +kernel)) (by rw [isSubtype_type]; kernel_rfl)
theorem entry_bytes_strip : entryFor table "bytes.strip" = some Builtin.«bytes.strip» := entryFor_of_tree (by kernel_rfl)
theorem args_bytes_strip_2 (a b : Value) : argsOk "bytes.strip" ⟨[a, b], []⟩ := by
  unfold argsOk; rw [signature?_of (id := "bytes.strip") (n := ['p', 'i', 'r', 't', 's']) (o := ['s', 'e', 't', 'y', 'b']) (by kernel_rfl) FB.owner_bytes]; kernel_rfl
noncomputable def stripN (l : List Nat) : List Nat := ((l.dropWhile (fun c => [32, 9].contains c)).reverse.dropWhile (fun c => [32, 9].contains c)).reverse
theorem nat_dropWhile (f : Nat → Bool) : ∀ l : List UInt8, nat (l.dropWhile (fun c => f c.toNat)) = (nat l).dropWhile f
  | [] => rfl
  | a :: r => by
    show nat (List.dropWhile _ (a :: r)) = List.dropWhile f (a.toNat :: nat r)
    rw [List.dropWhile_cons, List.dropWhile_cons]
    split
    · exact nat_dropWhile f r
    · rfl
theorem nat_reverse (l : List UInt8) : nat l.reverse = (nat l).reverse := List.map_reverse ..
noncomputable def stripB (l : List UInt8) : List UInt8 := ((l.dropWhile ([32, 9].toArray.contains)).reverse.dropWhile ([32, 9].toArray.contains)).reverse
theorem nat_strip (l : List UInt8) : nat (stripB l) = stripN (nat l) := by
  have e : ((#[32, 9] : Array UInt8).contains) = fun c : UInt8 => [32, 9].contains c.toNat := by
    funext c; exact nat_contains [32, 9] c
  unfold stripB stripN
  show nat ((List.dropWhile ((#[32, 9] : Array UInt8).contains) (List.dropWhile ((#[32, 9] : Array UInt8).contains) l).reverse).reverse) = _
  rw [e, nat_reverse, nat_dropWhile (fun c => [32, 9].contains c), nat_reverse, nat_dropWhile (fun c => [32, 9].contains c)]
theorem gives_strip (l : List UInt8) (t u : Tok) (hz : l.length ≤ 16777216) : Gives (Builtin.«bytes.strip» ⟨[.bytes l.toArray t, .bytes #[32, 9] u], []⟩) (if (stripB l).length == l.length then .val (.bytes l.toArray t) else .bytes (stripB l).toArray) := by
  refine .of_wp fun M A E s Q hq => ?_
  show wpAny M A (Bytes.bytesLike "bytes.strip" (.bytes #[32, 9] u) >>= fun r => _) _ E s
  refine wpAny_bind (PySem.wpAny_of_eq KBd.like_eq ?_)
  refine wpAny_bind (PySem.wpAny_pure ?_)
  refine wpAny_bind (PySem.wpAny_of_eq (a := l.toArray) rfl ?_)
  show wpAny M A (if ((stripB l).length == l.length) = true then _ else _) _ E s
  split
  · rename_i hc
    rw [if_pos hc] at hq
    refine wpAny_bind (wpAny_rule ?_)
    refine wpAny_bind ?_
    unfold Bytes.Kind.same
    refine wpAny_bind (wpAny_typeOf (typeIs_bytes s _ t) ?_)
    exact PySem.wpAny_pure (PySem.wpAny_pure ⟨_, rfl, hq⟩)
  · rename_i hc
    rw [if_neg hc] at hq
    refine wpAny_bind (wpAny_mkBytes (PySem.wpAny_pure ⟨_, rfl, hq.2⟩) hq.1)
theorem dropWhile_le {α : Type} (p : α → Bool) (l : List α) : (l.dropWhile p).length ≤ l.length := (List.dropWhile_sublist p).length_le
theorem stripB_le (l : List UInt8) : (stripB l).length ≤ l.length := by
  unfold stripB
  rw [List.length_reverse]
  refine Nat.le_trans (dropWhile_le _ _) ?_
  rw [List.length_reverse]
  exact dropWhile_le _ _
theorem dropWhile_same {α : Type} (p : α → Bool) : ∀ l : List α, (l.dropWhile p).length = l.length → l.dropWhile p = l
  | [], _ => rfl
  | a :: r, h => by
    rw [List.dropWhile_cons] at h ⊢
    split at h
    · have := dropWhile_le p r
      simp at h; omega
    · rename_i hp; rw [if_neg hp]
theorem stripB_same (l : List UInt8) (h : (stripB l).length = l.length) : stripB l = l := by
  unfold stripB at h ⊢
  have h1 := dropWhile_le ([32, 9].toArray.contains) l
  have h2 := dropWhile_le ([32, 9].toArray.contains) (l.dropWhile ([32, 9].toArray.contains)).reverse
  rw [List.length_reverse] at h h2
  have e1 := dropWhile_same ([32, 9].toArray.contains) l (by omega)
  rw [e1] at h ⊢
  rw [dropWhile_same _ l.reverse (by rw [List.length_reverse]; exact h), List.reverse_reverse]
theorem strip_call {l : List UInt8} (hz : l.length ≤ 16777216) (h : ∀ t' k, Q (.bytes (stripB l).toArray t') { s with toks := k }) : wpAny (model prog w) A (call (.builtin "bytes.strip") [.bytes l.toArray t, .bytes #[32, 9] u]) Q E s := by
  refine call_gives slot_bytes_strip (typeIs_bytes _ _ _) entry_bytes_strip (args_bytes_strip_2 _ _) (gives_strip l t u hz) ?_
  split
  · rename_i hc
    have := h t s.toks
    rw [stripB_same l (eq_of_beq hc)] at this
    exact this
  · exact ⟨by rw [List.size_toArray, sizeLine_eq]; exact Nat.le_trans (stripB_le l) hz, h s.toks (s.toks + 1)⟩
theorem find_no (l : List UInt8) (c : UInt8) (h : (nat l).contains c.toNat = false) : Bytes.find? l.toArray #[c] 0 l.toArray.size = none := by
  rw [← find_one] at h
  exact Option.isSome_eq_false_iff.mp h |> Option.isNone_iff_eq_none.mp
theorem gives_find (l : List UInt8) (c : UInt8) (t u t1 t2 : Tok) (h : (nat l).contains c.toNat = false) : Gives (Builtin.«bytes.find» ⟨[.bytes l.toArray t, .bytes #[c] u, .int 0 t1, .int (l.length : Int) t2], []⟩) (.int (-1)) := by
  refine .of_wp fun M A E s Q hq => ?_
  show wpAny M A (Bytes.searchArgs .bytes "find" ⟨[.bytes l.toArray t, .bytes #[c] u, .int 0 t1, .int (l.length : Int) t2], []⟩ >>= fun r => _) _ E s
  refine wpAny_bind ?_
  unfold Bytes.searchArgs
  refine wpAny_bind (PySem.wpAny_of_eq (a := (_, _)) rfl ?_)
  dsimp only
  have hb : ∀ (i : Int) (t' : Tok) (Q : Option Int → Shared → Prop) (E : Value → Shared → Prop) (s : Shared), Q (some i) s → wpAny M A (Bytes.bound? (some (.int i t'))) Q E s := by
    intro i t' Q E s h
    unfold Bytes.bound?
    dsimp only
    refine wpAny_bind (wpAny_specialOf (T := "int") (typeIs_int _ _ _) F.slot_int_index.lookup ?_)
    exact wpAny_bind (PySem.wpAny_of_eq rfl (PySem.wpAny_pure h))
  refine wpAny_bind (hb _ _ _ _ _ ?_)
  refine wpAny_bind (hb _ _ _ _ _ ?_)
  refine wpAny_bind (PySem.wpAny_of_eq KBy.buffer_eq ?_)
  dsimp only
  refine wpAny_bind (PySem.wpAny_pure ?_)
  refine wpAny_bind (PySem.wpAny_of_eq (a := l.toArray) rfl ?_)
  have hw : Bytes.window l.toArray.size (some 0) (some (l.length : Int)) = (0, (l.length : Int)) := by
    unfold Bytes.window
    simp
    omega
  rw [hw]
  refine PySem.wpAny_pure ?_
  dsimp only
  have hf : ((if (l.length : Int) - 0 < ((#[c] : Array UInt8).size : Nat) then none else some ((0 : Int).toNat, (l.length : Int).toNat)).bind fun x => match x with | (lo, hi) => if (false : Bool) = true then Bytes.rfind? l.toArray #[c] lo hi else Bytes.find? l.toArray #[c] lo hi) = none := by
    split
    · rfl
    · exact find_no l c h
  rw [hf]
  refine wpAny_bind (wpAny_rule ?_)
  exact wpAny_bind (wpAny_mkInt (PySem.wpAny_pure ⟨_, rfl, hq⟩))
theorem find_call {l : List UInt8} {c : UInt8} {t1 t2 : Tok} (hc : (nat l).contains c.toNat = false) (h : Q (.int (-1) s.toks) { s with toks := s.toks + 1 }) : wpAny (model prog w) A (call (.builtin "bytes.find") [.bytes l.toArray t, .bytes #[c] u, .int 0 t1, .int (l.length : Int) t2]) Q E s :=
  call_gives slot_bytes_find (typeIs_bytes _ _ _) entry_bytes_find (args_bytes_find_4 _ _ _ _) (gives_find l c t u t1 t2 hc) h
theorem meets_join_one (l : List UInt8) (t u : Tok) (D : Addr) : Meets (Builtin.«bytes.join» ⟨[.bytes #[] u, .ref D], []⟩) (fun _ R s => s.heap.IsList D #[.bytes l.toArray t] ∧ R (.ok (.ret (.bytes l.toArray t))) s) := by
  refine .of_wp fun prog w A R s hS => ?_
  obtain ⟨⟨o, ho, hc, n, hd⟩, h⟩ := hS
  have hT : s.TypeIs (.ref D) "list" := ⟨o, ho, hc⟩
  show wpAny _ _ (Bytes.joinItems (.ref D) >>= fun r => _) _ _ s
  refine wpAny_bind ?_
  unfold Bytes.joinItems
  refine wpAny_bind (wpAny_typeOf hT ?_)
  refine PySem.wpAny_pure ?_
  dsimp only
  refine wpAny_bind (wpAny_seqItems ho hd ?_)
  dsimp only
  refine wpAny_bind (wpAny_typeOf (typeIs_bytes s _ t) ?_)
  exact wpAny_bind (wpAny_rule (wpAny_bind (PySem.wpAny_pure (PySem.wpAny_pure ⟨_, rfl, h⟩))))
theorem join_one {l : List UInt8} {D : Addr} (hl : s.heap.IsList D #[.bytes l.toArray t]) (h : Q (.bytes l.toArray t) s) : wpAny (model prog w) A (call (.builtin "bytes.join") [.bytes #[] u, .ref D]) Q E s :=
  call_meets slot_bytes_join (typeIs_bytes _ _ _) entry_bytes_join (args_bytes_join_2 _ _) (meets_join_one l t u D) ⟨hl, h⟩
end

theorem reg_04_in_0 : True := by
  k_with "L compareOp In" => ((k_here; (with_reducible show wpAny _ _ (compareOp CmpOp.In (Value.int _ _) (Value.bytes _ _)) _ _ _); k_dflt (refine in_int (by omega) ?_)))
  k_with "L compareOp In" => ((k_here; (with_reducible show wpAny _ _ (compareOp CmpOp.In (Value.bytes _ _) (Value.bytes _ _)) _ _ _); k_dflt (refine in_one (by assumption) rfl ?_; intro h9q tk9q kp9q; (with_reducible rename Fr _ _ _ _ => F8q); (with_reducible rename News _ _ _ _ => N8q); (have F9q := F8q.keeps kp9q); (have N9q := N8q.grown kp9q); clear kp9q; (try dsimp only))))
  trivial
-- piece 05_join
theorem walk_05_join : twoK PySem.Challenge.rw_nz0311_01 MineH.hd.heap_1_39 := by k_fill; w_top off; trivial
section
open PySem.Builtin
variable {M : Model} {A : Around} {E : Value → Shared → Prop} {s : Shared}
/-- bytes of at most one sign -/
noncomputable def Ones (ys : List Value) : Prop := ∀ y ∈ ys, ∃ (b : List UInt8) (t : Tok), y = .bytes b.toArray t ∧ b.length ≤ 1
theorem takeQ {id : String} {b : Array UInt8} {t : Tok} : Bytes.takeBufferQuiet? id (.bytes b t) 0 = pure (some (b, none)) := by
  unfold Bytes.takeBufferQuiet? Bytes.takeBuffer?
  rw [KBy.special_eq KBy.look_buffer, KBy.own_buffer]
  have e : ∀ f, Bytes.buffer? id (.bytes b t) f = pure (some b) := by
    intro f
    unfold Bytes.buffer?
    rw [KBy.special_eq KBy.look_buffer, KBy.own_buffer, KBy.own_release]
    kernel_rfl
  simp only [pure_bind, Bool.not_true, Bool.false_eq_true, if_false, e]
  rfl
theorem fold_len : ∀ (l : List (Array UInt8 × Nat)) (out : Array UInt8), (∀ p ∈ l, p.1.size ≤ 1) → (l.foldl (fun out (p : Array UInt8 × Nat) => (if p.2 > 0 then out ++ (#[] : Array UInt8) else out) ++ p.1) out).size ≤ out.size + l.length
  | [], out, _ => by simp
  | p :: l, out, h => by
    rw [List.foldl_cons]
    refine Nat.le_trans (fold_len l _ fun q hq => h q (.tail _ hq)) ?_
    have h1 := h p (.head _)
    split <;> simp <;> omega
theorem sum_len : ∀ (l : List (Array UInt8)) (n : Nat), (∀ p ∈ l, p.size ≤ 1) → l.foldl (fun a p => a + p.size) n ≤ n + l.length
  | [], n, _ => by simp
  | p :: l, n, h => by
    rw [List.foldl_cons]
    refine Nat.le_trans (sum_len l _ fun q hq => h q (.tail _ hq)) ?_
    have h1 := h p (.head _)
    simp; omega
theorem letGo_none : ∀ (l : List (Value × Option Value)) (keep : List Value) {Q : Unit → Shared → Prop} {s : Shared}, (∀ q ∈ l, q.2 = none) → Q () s → wpAny M A (Bytes.joinLetGo l keep) Q E s
  | [], _, _, _, _, h => PySem.wpAny_pure h
  | (x, w) :: r, keep, Q, s, hn, h => by
    have e : w = none := hn (x, w) (.head _)
    subst e
    unfold Bytes.joinLetGo
    dsimp only
    refine wpAny_bind (wpAny_letGo ?_)
    exact letGo_none r keep (fun q hq => hn q (.tail _ hq)) h
theorem m1_one {motive : Array Value → Sort _} (x : Value) (h1 : (x : Value) → motive #[x]) (h2 : (x : Array Value) → motive x) : Bytes.joinM.match_1 motive #[x] h1 h2 = h1 x := rfl
theorem m1_many {motive : Array Value → Sort _} (ys : Array Value) (hn : ¬ ys.size = 1) (h1 : (x : Value) → motive #[x]) (h2 : (x : Array Value) → motive x) : Bytes.joinM.match_1 motive ys h1 h2 = h2 ys := by
  unfold Bytes.joinM.match_1
  rw [dif_neg hn]
theorem meets_join {ys : Array Value} {n : Nat} (u : Tok) (D : Addr) (ho : Ones ys.toList) (hz : ys.size ≤ 100000) : Meets (Builtin.«bytes.join» ⟨[.bytes #[] u, .ref D], []⟩) (fun _ R s => s.heap.get? D = some { cls := .type "list", data := .seq ys n } ∧ ∀ (b : List UInt8) t' k, R (.ok (.ret (.bytes b.toArray t'))) { s with toks := k }) := by
  refine .of_wp fun prog w A R s hS => ?_
  obtain ⟨ho', h⟩ := hS
  have hT : s.TypeIs (.ref D) "list" := ⟨_, ho', rfl⟩
  show wpAny _ _ (Bytes.joinItems (.ref D) >>= fun r => _) _ _ s
  refine wpAny_bind ?_
  unfold Bytes.joinItems
  refine wpAny_bind (wpAny_typeOf hT ?_)
  refine PySem.wpAny_pure ?_
  dsimp only
  refine wpAny_bind (wpAny_seqItems ho' rfl ?_)
  dsimp only
  rw [if_pos (show (Bytes.Kind.bytes == Bytes.Kind.bytes) = true from rfl)]
  by_cases h1 : ys.size = 1
  · obtain ⟨x, rfl⟩ := Array.size_eq_one_iff.mp h1
    obtain ⟨b, t, rfl, -⟩ := ho x (by simp)
    rw [m1_one]
    refine wpAny_bind (wpAny_typeOf (typeIs_bytes s _ t) ?_)
    exact wpAny_bind (wpAny_rule (PySem.wpAny_pure ⟨_, rfl, h b t s.toks⟩))
  · rw [m1_many _ h1]
    clear h1
    rw [Std.Legacy.Range.forIn_eq_forIn_range']
    simp only [Std.Legacy.Range.size, Nat.sub_zero, Nat.add_sub_cancel, Nat.div_one]
    refine wpAny_bind (wpAny_forIn_list _ (fun rest (b : Array (Array UInt8) × List (Value × Option Value)) s' => s' = s ∧ ∃ i, rest = List.range' i (ys.size - i) ∧ i ≤ ys.size ∧ b.1.size = i ∧ (∀ p ∈ b.1.toList, p.size ≤ 1) ∧ (∀ q ∈ b.2, q.2 = none ∧ q.1.onHeap = false)) _ ?_ ?_ _ _ ⟨rfl, 0, rfl, Nat.zero_le _, rfl, (by simp), (by simp)⟩)
    · rintro x rest ⟨parts, taken⟩ s' ⟨rfl, i, hr, hi, h1, h2, h3⟩
      have hlt : i < ys.size := by
        rcases Nat.lt_or_ge i ys.size with h | h
        · exact h
        · rw [Nat.sub_eq_zero_of_le h] at hr; simp at hr
      obtain ⟨rfl, hrest⟩ : x = i ∧ rest = List.range' (i + 1) (ys.size - (i + 1)) := by
        have e : ys.size - i = (ys.size - (i + 1)) + 1 := by omega
        rw [e, List.range'_succ] at hr
        injection hr with h1 h2
        exact ⟨h1, h2⟩
      obtain ⟨b, t, hb, hb1⟩ := ho ys[x] (by simp)
      have hg : ys.getD x Value.none = .bytes b.toArray t := by rw [Array.getD_eq_getD_getElem?, Array.getElem?_eq_getElem hlt]; exact hb
      refine wpAny_bind (wpAny_seqItems ho' rfl ?_)
      dsimp only
      have hany : (taken.any fun x => x.1.onHeap) = false := by
        rw [List.any_eq_false]; intro q hq; rw [(h3 q hq).2]; exact Bool.false_ne_true
      rw [hany, hg]
      rw [if_neg (show ¬ ((Bytes.Kind.bytes == Bytes.Kind.bytearray || false) = true) from by decide)]
      refine wpAny_bind (wpAny_holding (PySem.wpAny_of_eq takeQ ?_))
      dsimp only
      refine wpAny_bind (wpAny_seqItems ho' rfl ?_)
      dsimp only
      rw [if_neg (by simp)]
      refine PySem.wpAny_pure ?_
      refine ⟨rfl, x + 1, hrest, hlt, by simp [h1], ?_, ?_⟩
      · intro p hp
        simp only [Array.toList_push, List.mem_append, List.mem_singleton] at hp
        rcases hp with hp | rfl
        · exact h2 p hp
        · simpa using hb1
      · intro q hq
        simp only [List.mem_append, List.mem_singleton] at hq
        rcases hq with hq | rfl
        · exact h3 q hq
        · exact ⟨rfl, rfl⟩
    · rintro ⟨parts, taken⟩ s' ⟨rfl, i, hr, hi, h1, h2, h3⟩
      have hps : parts.size ≤ 100000 := by dsimp only at h1; omega
      refine wpAny_bind (PySem.wpAny_of_eq (a := #[]) rfl ?_)
      dsimp only
      have hsum : Bytes.tooLong (parts.foldl (fun x1 x2 => x1 + x2.size) ((#[] : Array UInt8).size * (parts.size - 1))) = false := by
        refine KBy.tooLong_not ?_
        rw [← Array.foldl_toList]
        refine Nat.le_trans (sum_len _ _ h2) ?_
        simp; omega
      rw [if_neg (by rw [hsum]; exact Bool.false_ne_true)]
      have hj : (Bytes.joined #[] parts.toList).size ≤ sizeLine := by
        unfold Bytes.joined
        refine Nat.le_trans (fold_len _ _ ?_) ?_
        · intro p hp
          exact h2 _ (List.fst_mem_of_mem_zipIdx hp)
        · rw [sizeLine_eq]; simp; omega
      refine wpAny_bind (wpAny_mkBytes ?_ hj)
      refine wpAny_bind (wpAny_holding (wpAny_point ?_))
      refine wpAny_bind (letGo_none _ _ (fun q hq => (h3 q hq).1) ?_)
      exact PySem.wpAny_pure ⟨_, rfl, h (Bytes.joined #[] parts.toList).toList _ _⟩

theorem join_many {prog : Program} {w : World} {ys : Array Value} {n : Nat} {u : Tok} {D : Addr} {Q : Value → Shared → Prop} (hD : s.heap.get? D = some { cls := .type "list", data := .seq ys n }) (ho : Ones ys.toList) (hz : ys.size ≤ 100000)
    (h : ∀ (b : List UInt8) t' k, Q (.bytes b.toArray t') { s with toks := k }) : wpAny (model prog w) A (call (.builtin "bytes.join") [.bytes #[] u, .ref D]) Q E s :=
  call_meets slot_bytes_join (typeIs_bytes _ _ _) entry_bytes_join (args_bytes_join_2 _ _) (meets_join u D ho hz) ⟨hD, h⟩
theorem pick_mem {xs : Array Value} {lo hi st : Option Int} {y : Value} (h : y ∈ (slicePick xs lo hi st).toList) : y ∈ xs.toList := by
  unfold slicePick at h
  simp only [List.mem_filterMap] at h
  obtain ⟨i, _, e⟩ := h
  rw [← Array.getElem?_toList] at e
  exact List.mem_of_getElem? e
end

-- piece 10_lower
theorem walk_10_lower : twoK PySem.Challenge.rw_nz0311_01 MineH.hd.heap_1_39 := by k_fill; w_top off; trivial
local macro_rules | `(tactic| k_room) => `(tactic| ktr_room)
local macro_rules | `(tactic| k_units) => `(tactic| ktr_units)

noncomputable def lowerN (c : Nat) : Nat := if 65 ≤ c ∧ c ≤ 90 then c + 32 else c
theorem c_lower_code {w : World} (c : Nat) (t : Tok) (hc : c < 1114000) (news) : Spec w 1 68 [.int (c : Int) t] news (fun v n' => (∃ t', v = .int (lowerN c : Int) t') ∧ n' = news) := by
  unfold Spec
  intro mean mg mb dp un gd cn cs a ccd cl outer A₀ base h₀ L m s Q E B F X N T hk hd hu hret
  refine wpAny_call ?_
  k_dflt cell_enter
  k_steps
  all_goals (refine hret _ _ _ _ (by assumption) (by assumption) ⟨⟨_, congrArg (fun z => Value.int z _) ?_⟩, rfl⟩)
  all_goals (unfold lowerN; split <;> omega)
theorem reg_10_lower_0 : True := by
  k_with "L call ref" => ((k_here; (with_reducible show wpAny _ _ (call (Value.ref 68) _) _ _ _); k_dflt (refine' Spec.use (c_lower_code _ _ ?h1 _) ?k1 ?k2 ?k3 ?k4 ?k5 ?k6q ?k7q ?k8q ?_; (case k1 => k_asm); (case k2 => k_asm); (case k3 => k_asm); (case k4 => k_asm); (case k5 => k_asm); (case k6q => first | exact rfl | assumption); (case k7q => ktr_room); (case k8q => ktr_units); (case h1 => first | assumption | omega); refine curry (elimA ?_); intro t9q h9q tk9q F9q N9q; (try dsimp only))))
  k_with "L eval ListComp" => ((k_here; (with_reducible show wpAny _ _ (eval (Expr.ListComp _ [⟨_, _, [], _⟩] _ _) _) _ _ _); k_dflt (refine comp_plain (by k_asm) (by rfl) (by decide) (by rfl) (by decide) (by rfl) ?_)))
  trivial
theorem lowerN_le {c : Nat} (h : c < 1114000) : lowerN c ≤ 1114100 := by unfold lowerN; split <;> omega
noncomputable def lowerS (x : Str) : Str := ⟨x.cps.map lowerN⟩
theorem c_lower_text {w : World} (x : Str) (t : Tok) (hx : x.cps.size ≤ 1000) (hc : ∀ c ∈ x.cps, c < 1114000) (news) : Spec w 2 73 [.str x t] news (fun v n' => (∃ t', v = .str (lowerS x) t') ∧ n' = news) := by
  unfold Spec
  intro mean mg mb dp un gd cn cs a ccd cl outer A₀ base h₀ L m s Q E B F X N T hk hd hu hret
  refine wpAny_call ?_
  k_dflt cell_enter
  k_steps
  refine src_str rfl (by assumption) (by assumption) (by rw [sizeLine_eq]; omega) (fun it s₂ hs hsrc => ⟨_, _, _, _, hsrc, ?_⟩)
  obtain ⟨g, rfl⟩ := hs
  dsimp only
  refine rest_plain (fun i y => ∃ c t', x.cps[i]? = some c ∧ y = .str ⟨#[lowerN c]⟩ t') ?_ ?_
  · clear hsrc
    rintro i v I oI C oC D ys m₂ h tk E' hi ⟨c, u, hcu, rfl⟩ hC hx' F' N' off ne
    have hb : c < 1114000 := hc c (Array.mem_of_getElem? hcu)
    have hb2 := lowerN_le hb
    k_steps
    all_goals exact LCg.CompEnd.intro (by assumption) (by assumption) news (fun p hp => hp) off trivial ⟨⟨c, _, hcu, by rw [Int.toNat_natCast]⟩, rfl⟩
  · clear hsrc
    intro ys hl hys
    k_steps
    refine join_codes (l := x.cps.toList.map lowerN) (News.get (by assumption) (List.mem_cons_self ..)) (by simpa using hl) (fun i y hy => ?_) (by simp; omega) (fun t' k => ?_)
    · obtain ⟨c, t', hcu, rfl⟩ := hys i y hy
      exact ⟨lowerN c, t', by simp [hcu], rfl⟩
    k_steps
    all_goals (refine hret _ _ _ _ (by assumption) (cb_drop (by assumption) fun p hp => List.mem_cons_of_mem _ hp) ⟨⟨_, congrArg (fun z => Value.str z _) ?_⟩, rfl⟩)
    all_goals exact (by unfold lowerS; rw [← Array.toList_map, Array.toArray_toList])

-- piece 11_draw
theorem walk_11_draw : twoK PySem.Challenge.rw_nz0311_01 MineH.hd.heap_1_39 := by k_fill; w_top off; trivial
noncomputable abbrev PN (P S : Addr) (ws : List Value) (a b c : Int) (ta tb tc : Tok) (c0 c1 : Nat) (rest : List (Addr × Obj)) : List (Addr × Obj) := (P, W.listOf #[.ref S, .int a ta, .int b tb, .int c tc] c0) :: (S, W.listOf ws.toArray c1) :: rest
section
variable {prog : Program} {w : World} {A : Around} {E : Value → Shared → Prop} {s : Shared} {h₀ : Heap} {L P S : Addr} {m : Str → Option Value} {rest : List (Addr × Obj)} {Q : Unit → Shared → Prop} {ws : List Value} {a b c x : Int} {ta tb tc t u : Tok} {c0 c1 : Nat}
theorem pen_set (k : Nat) {its : Array Value} {v : Value} (F : Fr h₀ L s.heap m) (N : News h₀ L s.heap ((P, W.listOf its c0) :: rest)) (hoff : ∀ p ∈ rest, p.1 ≠ P) (hk : k < its.size) (hz : its.size ≤ 100)
    (h : ∀ h', Fr h₀ L h' m → News h₀ L h' ((P, W.listOf (its.setIfInBounds k v) c0) :: rest) → Q () { s with heap := h' }) : wpAny (model prog w) A (setItem (.ref P) (.int (k : Nat) t) v) Q E s := by
  have z := N (P, W.listOf its c0) (.head _)
  refine ki_setAt z.1 (Int.natCast_nonneg _) (by omega) (by omega) (h _ (F.change (Heap.SameBut.update ..) z.2.1 z.2.2) (ki_turn (pre := []) _ N (fun _ h => nomatch h) hoff ?_ ?_))
  · rw [Int.toNat_natCast]
  · rw [if_pos (by simp)]
theorem pen_off (hSP : @Ne Nat S P) (hoff : ∀ p ∈ rest, p.1 ≠ P) {o : Obj} : ∀ p ∈ (S, o) :: rest, p.1 ≠ P := fun p hp => by
  rcases List.mem_cons.mp hp with rfl | hp
  · exact hSP
  · exact hoff p hp
theorem pen_set1 (F : Fr h₀ L s.heap m) (N : News h₀ L s.heap (PN P S ws a b c ta tb tc c0 c1 rest)) (hSP : @Ne Nat S P) (hoff : ∀ p ∈ rest, p.1 ≠ P)
    (h : ∀ h', Fr h₀ L h' m → News h₀ L h' (PN P S ws x b c u tb tc c0 c1 rest) → Q () { s with heap := h' }) : wpAny (model prog w) A (setItem (.ref P) (.int 1 t) (.int x u)) Q E s :=
  pen_set 1 F N (pen_off hSP hoff) (by show 1 < 4; omega) (by show 4 ≤ 100; omega) h
theorem pen_set2 (F : Fr h₀ L s.heap m) (N : News h₀ L s.heap (PN P S ws a b c ta tb tc c0 c1 rest)) (hSP : @Ne Nat S P) (hoff : ∀ p ∈ rest, p.1 ≠ P)
    (h : ∀ h', Fr h₀ L h' m → News h₀ L h' (PN P S ws a x c ta u tc c0 c1 rest) → Q () { s with heap := h' }) : wpAny (model prog w) A (setItem (.ref P) (.int 2 t) (.int x u)) Q E s :=
  pen_set 2 F N (pen_off hSP hoff) (by show 2 < 4; omega) (by show 4 ≤ 100; omega) h
end
theorem reg_11_draw_0 : True := by
  k_with "L setItem" => ((k_here; (with_reducible show wpAny _ _ (setItem (Value.ref _) (Value.int 1 _) (Value.int _ _)) _ _ _); k_dflt (refine' pen_set1 ?F ?N ?h1 ?h2 ?_; (case F => k_asm); (case N => k_asm); (case h1 => assumption); (case h2 => assumption); intro h8q F8q N8q; (try dsimp only))))
  k_with "L setItem" => ((k_here; (with_reducible show wpAny _ _ (setItem (Value.ref _) (Value.int 2 _) (Value.int _ _)) _ _ _); k_dflt (refine' pen_set2 ?F ?N ?h1 ?h2 ?_; (case F => k_asm); (case N => k_asm); (case h1 => assumption); (case h2 => assumption); intro h8q F8q N8q; (try dsimp only))))
  trivial
theorem fmod_lt {x : Int} {k : Nat} (hk : 0 < k) : ∃ r : Nat, r < k ∧ x.fmod (k : Nat) = (r : Nat) := by
  have h1 := Int.fmod_nonneg_of_pos x (show (0 : Int) < (k : Nat) by omega)
  have h2 := Int.fmod_lt_of_pos x (show (0 : Int) < (k : Nat) by omega)
  exact ⟨(x.fmod (k : Nat)).toNat, by omega, by omega⟩
theorem draw_fin {x a a0 b c : Int} {k c0 c1 : Nat} {P S : Addr} {ws : List Value} {rest : List (Addr × Obj)} {ta tb tc t : Tok} (hk : 0 < k) (ha : 0 ≤ a) (ha2 : a ≤ a0 + 1) : ∃ (r : Nat) (a' b' : Int) (ta' tb' t' : Tok), r < k ∧ 0 ≤ a' ∧ a' ≤ a0 + 1 ∧ Value.int (x.fmod (k : Nat)) t = .int (r : Nat) t' ∧ PN P S ws a b c ta tb tc c0 c1 rest = PN P S ws a' b' c ta' tb' tc c0 c1 rest := by
  obtain ⟨r, h1, h2⟩ := fmod_lt (x := x) hk
  exact ⟨r, a, b, ta, tb, t, h1, ha, ha2, by rw [h2], rfl⟩

theorem c_draw {w : World} (P S : Addr) (ws : List Value) (xs : List Int) (a b c : Int) (ta tb tc t0 : Tok) (c0 c1 k : Nat) (rest : List (Addr × Obj)) (hI : IntsAre ws xs) (hz : xs.length ≤ 63) (hk0 : 0 < k) (hk1 : k ≤ 1000) (ha : 0 ≤ a) (ha2 : a ≤ 1000) (hc : 0 ≤ c) (hc2 : c ≤ 1008) (hSP : @Ne Nat S P) (hoff : ∀ p ∈ rest, p.1 ≠ P) :
    Spec w 2 426 [.ref P, .int (k : Nat) t0] (PN P S ws a b c ta tb tc c0 c1 rest) (fun v n' => ∃ (r : Nat) (a' b' : Int) (ta' tb' t : Tok), r < k ∧ 0 ≤ a' ∧ a' ≤ a + 1 ∧ v = .int (r : Nat) t ∧ n' = PN P S ws a' b' c ta' tb' tc c0 c1 rest) := by
  unfold Spec
  intro mean mg mb dp un gd cn cs a ccd cl outer A₀ base h₀ L m s Q E B F X N T hk hd hu hret
  obtain ⟨sh, sg, sd, st, so⟩ := s
  dsimp only at F N hret
  refine wpAny_call ?_
  k_dflt cell_enter
  k_with "binaryOp FloorDiv int int" => (k_here; (with_reducible show wpAny _ _ (binaryOp Operator.FloorDiv (Value.int _ _) (Value.int (Nat.cast k) _)) _ _ _); (with_reducible refine floordiv_int ?kbe ?_ (Or.inl (PyProof.noPylong_small ?kbp))); (case kbe => omega); (case kbp => omega))
  k_steps
  all_goals first | exact hret _ _ _ _ (by assumption) (by assumption) (draw_fin hk0 (by omega) (by omega))
theorem c_drawI {w : World} (P S : Addr) (ws : List Value) (xs : List Int) (a b c q : Int) (ta tb tc t0 : Tok) (c0 c1 : Nat) (rest : List (Addr × Obj)) (hI : IntsAre ws xs) (hz : xs.length ≤ 63) (hk0 : 0 < q) (hk1 : q ≤ 1000) (ha : 0 ≤ a) (ha2 : a ≤ 1000) (hc : 0 ≤ c) (hc2 : c ≤ 1008) (hSP : @Ne Nat S P) (hoff : ∀ p ∈ rest, p.1 ≠ P) :
    Spec w 2 426 [.ref P, .int q t0] (PN P S ws a b c ta tb tc c0 c1 rest) (fun v n' => ∃ (r : Nat) (a' b' : Int) (ta' tb' t : Tok), (r : Int) < q ∧ 0 ≤ a' ∧ a' ≤ a + 1 ∧ v = .int (r : Nat) t ∧ n' = PN P S ws a' b' c ta' tb' tc c0 c1 rest) := by
  obtain ⟨k, rfl⟩ : ∃ k : Nat, q = (k : Nat) := ⟨q.toNat, by omega⟩
  intro mean mg mb dp un gd cn cs a ccd cl outer A₀ base h₀ L m s Q E B F X N T hk hd hu hret
  refine c_draw (w := w) P S ws xs _ b c ta tb tc t0 c0 c1 k rest hI hz (by omega) (by omega) ha ha2 hc hc2 hSP hoff _ _ _ _ _ _ _ _ _ _ _ _ _ _ _ _ _ _ _ _ B F X N T hk hd hu fun v n' h' tk' F' N' r => ?_
  obtain ⟨r, a', b', u1, u2, u3, h1, h2⟩ := r
  exact hret v n' h' tk' F' N' ⟨r, a', b', u1, u2, u3, by omega, h2⟩

theorem reg_11_draw_1 : True := by
  k_with "L call ref" => ((k_here; (with_reducible show wpAny _ _ (call (Value.ref 426) [Value.ref _, Value.int _ _]) _ _ _); k_dflt (refine' Spec.use (c_drawI _ _ _ _ _ _ _ _ _ _ _ _ _ _ _ ?h1 ?h2 ?h3 ?h4 ?h5 ?h6q ?h7q ?h8q ?h9q ?h10) ?k1 ?k2 ?k3 ?k4 ?k5 ?k6q ?k7q ?k8q ?_; (case k1 => k_asm); (case k2 => k_asm); (case k3 => k_asm); (case k4 => k_asm); (case k5 => k_asm); (case h1 => assumption); (case h2 => assumption); (case h3 => decide); (case h4 => decide); (case h5 => omega); (case h6q => omega); (case h7q => omega); (case h8q => omega); (case h9q => assumption); (case h10 => assumption); (case k6q => first | exact rfl | assumption); (case k7q => ktr_room); (case k8q => ktr_units); refine curry (elimD ?_); intro r9q a9q b9q ta9q tb9q t9q lt9q p9q q9q h9q tk9q F9q N9q; (try dsimp only))))
  trivial
-- piece 20_exc
theorem walk_20_exc : twoK PySem.Challenge.rw_nz0311_01 MineH.hd.heap_1_39 := by k_fill; w_top off; trivial
section
variable {prog : Program} {w : World} {A : Around} {E : Value → Shared → Prop} {h : Heap} {g : Array GenState} {d : Drawn} {t : Nat} {os : OsState}
variable {nm q : Str} {C N : Addr} {bs bm bmB : List Value} {hdct : Bool} {sn : List Str} {sub : List Value} {ab : Bool} {col : Option Bool} {dd : Option Addr} {k0 k1 k2 k3 k5 : Option Value} {B newId initId : String}

theorem xnew (F : ExcBaseFacts B newId initId bmB) (hcB : (Value.ref C :: bm).contains (.type B) = true) (hcA : (Value.ref C :: bm).contains (.type "AttributeError") = false) (hcN : (Value.ref C :: bm).contains (.type "NameError") = false) {R : Result → Shared → Prop} {rest : List Value}
    (hC : h.get? C = some (excClassObj nm q C N bs bm hdct sn sub ab col dd k0 k1 k2 k3 k5 newId))
    (hq : R (.ok (.ret (.ref (h.objs.size + 1)))) ⟨(h.push { cls := .type "tuple", data := .seq rest.toArray }).push
      { cls := .ref C, data := .fields #[.ref h.objs.size, .none, .none, .none, .bool false, .none] }, g, d, t, os⟩) (hrest : rest.length ≤ sizeLine := by size_fits) :
    codeAny (model prog w) A (.builtin newId ⟨.ref C :: rest, []⟩) R ⟨h, g, d, t, os⟩ := by
  have hends := F.ends
  refine codeAny_builtinAt F.entry ?_
  unfold Builtin.«BaseException.__new__»
  refine PySem.wpAt_bind ?_
  show PySem.wpAt _ _ _ (PySem.stack >>= _) _ _ _
  refine PySem.wpAt_bind (PySem.wpAt_stack fun p below => PySem.wpAt_of_wpAny ?_)
  wp_walk
  refine PySem.wpAt_of_wpAny ?_
  rw [F.owner]
  repeat (first | with_reducible refine wpAny_madeHere_exc F.canon hC ?_ | with_reducible refine wpAny_loadPart_at hC ?_ | (with_reducible refine wpAny_isSubtype_exc hC ?_; first | rw [hcB] | rw [hcA] | rw [hcN]) | wp_step)
  show R _ _
  rw [Heap.size_push]
  exact hq

theorem xcheck_new (F : ExcBaseFacts B newId initId bmB) (hcB : (Value.ref C :: bm).contains (.type B) = true) {M : Model} {rest : List Value} {Q : Unit → Shared → Prop} (hC : h.get? C = some (excClassObj nm q C N bs bm hdct sn sub ab col dd k0 k1 k2 k3 k5 newId))
    (hq : Q () ⟨h, g, d, t, os⟩) : wpAny M A (checkBuiltinCall newId ⟨.ref C :: rest, []⟩) Q E ⟨h, g, d, t, os⟩ := by
  have hstar := F.noStar
  simp only [checkBuiltinCall, F.newKind, F.newSplit, F.newRow]
  repeat (first | refine wpAny_loadPart_at hC ?_ | (refine wpAny_isSubtype_exc hC ?_; rw [hcB]) | refine wpAny_staticBase_exc hC ?_ | refine wpAny_madeBy_exc hC ?_ | simp only [bne_self_eq_false, Bool.false_eq_true, if_false] | wp_step)
  exact hq

/-- an own exception class of one own base: the base has the __init__ -/
theorem xtype_call (F : ExcBaseFacts B newId initId bmB) {P : Addr} {cP : Value} {dP : Option Addr} {cdP : ClassData} {slP : Array (Option Value)} {mN mP : Str → Option Value} {bm' : List Value} (hbm : bm = .ref P :: bm') (hcB : (Value.ref C :: bm).contains (.type B) = true) (hcA : (Value.ref C :: bm).contains (.type "AttributeError") = false) (hcN : (Value.ref C :: bm).contains (.type "NameError") = false)
    {rest : List Value} {fI : Addr} {oI : Obj} {Q : Fin → Shared → Prop}
    (hC : h.get? C = some (excClassObj nm q C N bs bm hdct sn sub ab col dd k0 k1 k2 k3 k5 newId)) (hn : h.Ns N mN) (hni : mN "__init__" = none)
    (hP : h.get? P = some { cls := cP, dict := dP, data := .cls cdP, slots := slP }) (hnP : h.Ns cdP.ns mP) (hi : mP "__init__" = some (.ref fI))
    (hfI : h.get? fI = some oI) (hfc : oI.cls = .type "function")
    (hq : ∀ h' e, Heap.MadeExcOf h h' e (.ref C) rest →
      wpAny (model prog w) A (call (.ref fI) (.ref e :: rest)) (fun r s' => r = .none ∧ Q (.done (.ret (.ref e))) s') E ⟨h', g, d, t, os⟩) (hrest : rest.length ≤ sizeLine := by size_fits) :
    wpAny (model prog w) A (Builtin.«type.__call__» ⟨.ref C :: rest, []⟩) Q E ⟨h, g, d, t, os⟩ := by
  repeat (first | with_reducible refine wpAny_loadPart_at hC ?_ | with_reducible refine wpAny_madeBy_exc hC ?_ | wp_step)
  refine codeAny_call_builtin_code (Code.quiet_builtin _ F.quiet) (xcheck_new F hcB hC ?_)
  refine xnew F hcB hcA hcN hC ?_ hrest
  show wpAny _ _ _ _ _ _
  have up : ∀ b o, h.get? b = some o → ((h.push { cls := .type "tuple", data := .seq rest.toArray }).push { cls := .ref C, data := .fields #[.ref h.objs.size, .none, .none, .none, .bool false, .none] }).get? b = some o := fun b o e => Heap.get?_push_of_some _ (Heap.get?_push_of_some _ e)
  have hC₁ := up _ _ hC
  have hfI₁ := up _ _ hfI
  have hP₁ := up _ _ hP
  have hn₁ := hn.keeps up
  have hnP₁ := hnP.keeps up
  have hget : ((h.push { cls := .type "tuple", data := .seq rest.toArray }).push
      { cls := .ref C, data := .fields #[.ref h.objs.size, .none, .none, .none, .bool false, .none] }).get? (h.objs.size + 1) = some
      { cls := .ref C, data := .fields #[.ref h.objs.size, .none, .none, .none, .bool false, .none] } := by heap_get
  have hcC : (Value.ref C :: bm).contains (.ref C) = true := by simp
  unfold isInstance
  repeat (first | with_reducible refine wpAny_loadPart_at hget ?_ | (with_reducible refine wpAny_isSubtype_exc hC₁ ?_; rw [hcC]) | wp_step)
  show wpAny _ _ (typeLookup (.ref C) _) _ _ _
  rw [typeLookup_eq]
  refine wpAny_bind (wpAny_mroOf_exc hC₁ ?_)
  rw [lookupAlong_cons]
  refine wpAny_bind (wpAny_classOwn_exc hC₁ hn₁ ?_)
  rw [hni]
  subst hbm
  dsimp only
  rw [lookupAlong_cons]
  refine wpAny_bind (wpAny_classOwn_cls hP₁ hnP₁ ?_)
  rw [hi]
  dsimp only
  refine wpAny_pure ?_
  refine wpAny_holding (wpAny_bind ?_)
  unfold bindSpecial
  refine wpAny_bind (wpAny_typeOf (T := "function") ⟨_, hfI₁, hfc⟩ ?_)
  rw [if_pos (by decide)]
  refine wpAny_pure (wpAny_bind (wpAny_mono (hq _ (h.objs.size + 1) ⟨up, Heap.get?_none_of_le (Nat.le_succ _), h.objs.size, hget, Heap.get?_none_of_le (Nat.le_refl _), ?_⟩) (fun r s' hr => ?_) fun _ _ x => x))
  · exact Heap.get?_push_of_some _ (Heap.get?_push_at rfl rfl)
  · obtain ⟨rfl, hQ⟩ := hr
    wp_walk
    exact hQ

theorem xcall (F : ExcBaseFacts B newId initId bmB) {P : Addr} {cP : Value} {dP : Option Addr} {cdP : ClassData} {slP : Array (Option Value)} {mN mP : Str → Option Value} {bm' : List Value} (hbm : bm = .ref P :: bm') (hcB : (Value.ref C :: bm).contains (.type B) = true) (hcA : (Value.ref C :: bm).contains (.type "AttributeError") = false) (hcN : (Value.ref C :: bm).contains (.type "NameError") = false)
    {rest : List Value} {fI : Addr} {oI : Obj} {Q : Value → Shared → Prop}
    (hC : h.get? C = some (excClassObj nm q C N bs bm hdct sn sub ab col dd k0 k1 k2 k3 k5 newId)) (hn : h.Ns N mN) (hni : mN "__init__" = none)
    (hP : h.get? P = some { cls := cP, dict := dP, data := .cls cdP, slots := slP }) (hnP : h.Ns cdP.ns mP) (hi : mP "__init__" = some (.ref fI))
    (hfI : h.get? fI = some oI) (hfc : oI.cls = .type "function")
    (hq : ∀ h' e, Heap.MadeExcOf h h' e (.ref C) rest →
      wpAny (model prog w) (A.under (.builtin "type.__call__" ⟨.ref C :: rest, []⟩)) (call (.ref fI) (.ref e :: rest)) (fun r s' => r = .none ∧ Q (.ref e) s') E ⟨h', g, d, t, os⟩) (hrest : rest.length ≤ sizeLine := by size_fits) :
    wpAny (model prog w) A (call (.ref C) rest) Q E ⟨h, g, d, t, os⟩ := by
  have f1 := tc_lookup
  have f2 := tc_bind (.ref C)
  have hT : (⟨h, g, d, t, os⟩ : Shared).TypeIs (.ref C) "type" := ⟨_, hC, rfl⟩
  refine wpAny_call (codeAny_of_tree ?_)
  show wpAny _ _ (callAny (.ref C) _) _ _ _
  repeat (any_goals (first | assumption | with_reducible refine wpAny_loadPart_at hC ?_ | wp_step))
  refine ⟨rfl, ?_⟩
  refine codeAny_call_builtin_at (Code.quiet_builtin _ (by decide +kernel)) entry_typeCall (wpAny_check_type_call_sub hC (xtype_call (hrest := hrest) F hbm hcB hcA hcN hC hn hni hP hnP hi hfI hfc fun h' e hm => ?_))
  exact hq h' e hm

theorem xcheck_init (F : ExcBaseFacts B newId initId bmB) (hcB : (Value.ref C :: bm).contains (.type B) = true) {M : Model} {nid : String} {e : Addr} {oe : Obj} {rest : List Value} {Q : Unit → Shared → Prop}
    (hC : h.get? C = some (excClassObj nm q C N bs bm hdct sn sub ab col dd k0 k1 k2 k3 k5 nid)) (he : h.get? e = some oe) (hcls : oe.cls = .ref C) (hq : Q () ⟨h, g, d, t, os⟩) :
    wpAny M A (checkBuiltinCall initId ⟨.ref e :: rest, []⟩) Q E ⟨h, g, d, t, os⟩ := by
  have hshort := F.noStar
  simp only [checkBuiltinCall, F.initKind, F.initSplit, F.initRow]
  repeat (first | (with_reducible refine wpAny_loadPart_at he ?_; rw [hcls]) | with_reducible refine wpAny_loadPart_at hC ?_ | (with_reducible refine wpAny_isSubtype_exc hC ?_; rw [hcB]) | wp_step)
  refine wpAny_onRaise ?_
  rw [show ∀ (a b : String) (n : Nat), Bind.check ⟨.positional, "*", B, .self, [⟨"args", .varPos, false⟩]⟩ a b n (List.map (fun x => x.fst) ({ pos := Value.ref e :: rest } : Args).kw) = pure () from
    fun a b n => check_star_args _ _ _ _ _ _]
  exact wpAny_pure hq
end
section
variable {prog : Program} {w : World} {A : Around} {E : Value → Shared → Prop} {s : Shared}
variable {nm q : Str} {C N : Addr} {bs bm bmB : List Value} {hdct : Bool} {sn : List Str} {sub : List Value} {ab : Bool} {col : Option Bool} {dd : Option Addr} {k0 k1 k2 k3 k5 : Option Value} {B newId initId nid : String}
theorem xinit (F : ExcBaseFacts B newId initId bmB) (hcB : (Value.ref C :: bm).contains (.type B) = true) {e : Addr} {ob : Obj} {vs : Array Value} {t0 : Addr} {rest : List Value} {Q : Value → Shared → Prop}
    (hC : s.heap.get? C = some (excClassObj nm q C N bs bm hdct sn sub ab col dd k0 k1 k2 k3 k5 nid)) (he : s.heap.get? e = some ob) (hcls : ob.cls = .ref C) (hd : ob.data = .fields vs) (h0 : vs[0]? = some (.ref t0))
    (h : Q .none { s with heap := (s.heap.push { cls := .type "tuple", data := .seq rest.toArray }).update e (Obj.mapFields (·.setIfInBounds 0 (.ref s.heap.objs.size))) }) (hrest : rest.length ≤ sizeLine := by size_fits) :
    wpAny (model prog w) A (call (.builtin initId) (.ref e :: rest)) Q E s := by
  refine wpAny_call (codeAny_call_builtin F.init.plain F.initEntry (xcheck_init F hcB (h := s.heap) hC he hcls ?_))
  unfold Builtin.«BaseException.__init__»
  dsimp only
  rw [if_neg (by simp)]
  unfold newTuple Builtin.BaseException.bexcPut
  have hsz : 0 < vs.size := (Array.getElem?_eq_some_iff.mp h0).1
  have he₁ := Heap.get?_push_of_some (h := s.heap) { cls := .type "tuple", data := .seq rest.toArray } he
  refine wpAny_bind (wpAny_newObj_type (wpAny_bind (wpAny_bind (wpAny_field he₁ hd h0 (wpAny_bind (wpAny_setField he₁ hd hsz ?_))))) (by show rest.toArray.size ≤ sizeLine; rw [List.size_toArray]; exact hrest))
  exact wpAny_letGo (wpAny_pure h)
end

-- piece 21_fault
theorem walk_21_fault : twoK PySem.Challenge.rw_nz0311_01 MineH.hd.heap_1_39 := by k_fill; w_top off; trivial
noncomputable abbrev excObj (C : Addr) (dd : Option Addr) (t : Addr) : Obj := { cls := .ref C, dict := dd, data := .fields #[.ref t, .none, .none, .none, .bool false, .none] }
theorem meta_Exception : typeOf (.type "Exception") = pure (.type "type") := by first | rfl | kernel_rfl
section
variable {prog : Program} {w : World} {A : Around} {E : Value → Shared → Prop} {s : Shared} {h₀ : Heap} {L : Addr} {m : Str → Option Value}
theorem init_K {C e t : Addr} {tl : List (Addr × Obj)} {v : Value} {nm q : Str} {N : Addr} {bs bm : List Value} {hdct : Bool} {sn : List Str} {sub : List Value} {ab : Bool} {col : Option Bool} {dd : Option Addr} {k0 k1 k2 k3 k5 : Option Value} {nid : String}
    {Q : Value → Shared → Prop} (F : Fr h₀ L s.heap m) (N' : News h₀ L s.heap ((e, excObj C none t) :: tl)) (off : ∀ p ∈ tl, p.1 ≠ e)
    (hC : h₀.get? C = some (excClassObj nm q C N bs bm hdct sn sub ab col dd k0 k1 k2 k3 k5 nid)) (hcB : (Value.ref C :: bm).contains (.type "Exception") = true)
    (h : ∀ T' h', Fr h₀ L h' m → News h₀ L h' ((e, excObj C none T') :: tl) → Q .none { s with heap := h' }) :
    wpAny (model prog w) A (call (.builtin "Exception.__init__") [.ref e, v]) Q E s := by
  have he := N' (e, excObj C none t) (.head _)
  refine xinit PySem.F.excBase_Exception hcB (F.keep _ _ hC) he.1 rfl rfl rfl (h s.heap.objs.size _ ?_ ?_)
  · refine (F.push _).change (Heap.SameBut.update ..) he.2.1 he.2.2
  · intro p hp
    rcases List.mem_cons.mp hp with rfl | hp
    · refine ⟨?_, he.2⟩
      rw [Heap.get?_update_self _ (Heap.get?_push_of_some _ he.1) rfl]
      rfl
    · have z := N' p (.tail _ hp)
      refine ⟨?_, z.2⟩
      rw [Heap.get?_update_other _ _ (Ne.symm (off p hp))]
      exact Heap.get?_push_of_some _ z.1
end
theorem reg_21_fault_0 : True := by
  k_with "L getMethod type:Exception" => ((k_here; k_dflt (refine' method_type ?F ?X meta_Exception (by decide +kernel) ?e ?h ?_; (case F => k_asm); (case X => k_asm); (case e => k_is); (case h => k_handed))))
  trivial
section
variable {prog : Program} {w : World} {A : Around} {E : Value → Shared → Prop} {h : Heap} {g : Array GenState} {d : Drawn} {t : Nat} {os : OsState}
variable {nm q : Str} {C N x : Addr} {bs bmB : List Value} {sn : List Str} {sub : List Value} {ab : Bool} {col : Option Bool} {dd : Option Addr} {k0 k1 k2 k3 k5 : Option Value} {B newId sa owner : String}
  {mN mA mP : Str → Option Value} {name : Str} {v : Value} {P : Addr} {cP : Value} {dP : Option Addr} {cdP : ClassData} {slP : Array (Option Value)}

theorem tl2 {M : Model} {y : Option Value} {Q : Option Value → Shared → Prop} (hC : h.get? C = some (excClassObj nm q C N bs (.ref P :: bmB) true sn sub ab col dd k0 k1 k2 k3 k5 newId)) (hn : h.Ns N mN) (hna : mN name = none)
    (hP : h.get? P = some { cls := cP, dict := dP, data := .cls cdP, slots := slP }) (hnP : h.Ns cdP.ns mP) (hPa : mP name = none) (hbm : mroOf (.type B) = pure bmB) (hB : typeLookup (.type B) name = pure y)
    (hq : Q y ⟨h, g, d, t, os⟩) : wpAny M A (typeLookup (.ref C) name) Q E ⟨h, g, d, t, os⟩ := by
  have hrest : lookupAlong bmB name = pure y := by rw [typeLookup_eq, hbm] at hB; exact hB
  rw [typeLookup_eq]
  refine wpAny_bind (wpAny_mroOf_exc hC ?_)
  rw [lookupAlong_cons]
  refine wpAny_bind (wpAny_classOwn_exc hC hn ?_)
  rw [hna]
  dsimp only
  rw [lookupAlong_cons]
  refine wpAny_bind (wpAny_classOwn_cls hP hnP ?_)
  rw [hPa]
  dsimp only
  rw [hrest]
  exact wpAny_pure hq

theorem xcheck_sa {M : Model} {o : Obj} {nameV : Value} {Q : Unit → Shared → Prop} (SF : StoreFacts B bmB sa owner)
    (hC : h.get? C = some (excClassObj nm q C N bs (.ref P :: bmB) true sn sub ab col dd k0 k1 k2 k3 k5 newId)) (hx : h.get? x = some o) (hc : o.cls = .ref C) (hq : Q () ⟨h, g, d, t, os⟩) :
    wpAny M A (checkBuiltinCall sa ⟨[.ref x, nameV, v], []⟩) Q E ⟨h, g, d, t, os⟩ := by
  have hcB : (Value.ref C :: .ref P :: bmB).contains (.type owner) = true := by rw [List.contains_cons, List.contains_cons, SF.hasOwner, Bool.or_true, Bool.or_true]
  have ha := SF.args (.ref x) nameV v
  simp only [checkBuiltinCall, SF.kind, SF.split]
  refine wpAny_bind ?_
  · unfold isInstance
    repeat (first | (with_reducible refine wpAny_loadPart_at hx ?_; rw [hc]) | (with_reducible refine wpAny_isSubtype_exc hC ?_; rw [hcB]) | wp_step)
    cases hsig : Manifest.signature? sa with
    | none => exact wpAny_pure hq
    | some sig =>
      simp only [argsOk, hsig] at ha
      have h2 : Bind.checkArgs sa sig ⟨[.ref x, nameV, v], []⟩ = pure () := ha
      show wpAny M A (Bind.checkArgs sa sig ⟨[.ref x, nameV, v], []⟩) Q E _
      rw [h2]; exact wpAny_pure hq

theorem xstore_entry0 {tk : Tok} {o : Obj} {Q : PySem.Fin → Shared → Prop} (SF : StoreFacts B bmB sa owner)
    (hC : h.get? C = some (excClassObj nm q C N bs (.ref P :: bmB) true sn sub ab col dd k0 k1 k2 k3 k5 newId)) (hn : h.Ns N mN) (hna : mN name = none)
    (hP : h.get? P = some { cls := cP, dict := dP, data := .cls cdP, slots := slP }) (hnP : h.Ns cdP.ns mP) (hPa : mP name = none)
    (hB : typeLookup (.type B) name = pure none) (hx : h.get? x = some o) (hc : o.cls = .ref C) (hnc : ∀ c, o.data ≠ .cls c) (hdn : o.dict = none)
    (hq : ∀ h' tk', h'.get? x = some { o with dict := some h.objs.size } → h'.Ns1 h.objs.size (fun y => if y = name then some v else none) → (∀ b ob, b ≠ x → h.get? b = some ob → h'.get? b = some ob) → Q (.done (.ret .none)) ⟨h', g, d, tk', os⟩) :
    wpAny (model prog w) A (Builtin.«object.__setattr__» ⟨[.ref x, .str name tk, v], []⟩) Q E ⟨h, g, d, t, os⟩ := by
  have hpass := SF.passes (.ref x)
  unfold Builtin.«object.__setattr__»
  repeat (first | rw [refuse_eq] | (rw [refuseLoop_ref, refuseLoop_ref, hpass]) | (with_reducible refine wpAny_loadPart_at hx ?_; rw [hc]) | with_reducible refine wpAny_mroOf_exc hC ?_ | (with_reducible refine tl2 hC hn hna hP hnP hPa SF.mro hB ?_) | wp_step)
  rw [hdn, if_neg (by simp [typeHasDict])]
  split
  · rename_i hcd
    cases hcd
  split
  · rename_i c hcd
    exact absurd hcd (hnc c)
  · have hx₁ : (h.push { cls := .type "dict", data := .dict #[] }).get? x = some o := Heap.get?_push_of_some _ hx
    have hxs : x ≠ h.objs.size := Nat.ne_of_lt (Heap.lt_size hx)
    refine wpAny_bind (wpAny_alloc' ?_)
    refine wpAny_bind (wpAny_update' hx₁ ?_)
    refine wpAny_pure ?_
    have hgd : ((h.push { cls := .type "dict", data := .dict #[] }).update x fun o => { cls := o.cls, dict := some h.objs.size, data := o.data, slots := o.slots }).get? h.objs.size
        = some { cls := .type "dict", data := .dict #[] } :=
      (Heap.get?_update_ne _ _ _ _ hxs.symm).trans (Heap.get?_push_at rfl rfl)
    have hnd : ((h.push { cls := .type "dict", data := .dict #[] }).update x fun o => { cls := o.cls, dict := some h.objs.size, data := o.data, slots := o.slots }).Ns h.objs.size (fun _ => none) :=
      ⟨_, #[], _, hgd, rfl, fun e he => absurd he (by simp), fun _ => rfl⟩
    show wpAny _ _ (Builtin.ObjectAttr.storeInDict h.objs.size (.str name tk) name v) _ _ _
    unfold Builtin.ObjectAttr.storeInDict Builtin.ObjectAttr.newKeyGuard
    refine wpAny_bind (wpAny_pure (wpAny_bind (wpAny_nsSet1 (Heap.Ns1.of_empty hnd) fun h' hn' hs => ?_)))
    obtain ⟨oD, esD, epD, hoD, hdD, hcD⟩ := hn'.count (Within.cons name v Within.nil)
    refine wpAny_bind (wpAny_lookBehind hoD (by rw [hdD]; exact pastItsLine_dict (Nat.le_trans hcD (by rw [List.length_cons, List.length_nil, sizeLine_eq]; omega))) ?_)
    wp_walk
    refine hq h' _ ((hs.2 x hxs).trans (Heap.get?_update_self _ hx₁ ?_)) ?_ (fun b ob hbx hb => ?_)
    · have hfr := (Heap.get?_some_iff.mp hx).2
      obtain ⟨oc, od, odt, osl⟩ := o
      cases odt <;> first | rfl | exact hfr
    · exact hn'
    · exact (hs.2 b (Nat.ne_of_lt (Heap.lt_size hb))).trans ((Heap.get?_update_ne _ _ _ _ hbx).trans (Heap.get?_push_of_some _ hb))

theorem xstore_entry1 {tk : Tok} {o : Obj} {dx : Addr} {ns : List Str} {Q : PySem.Fin → Shared → Prop} (SF : StoreFacts B bmB sa owner)
    (hC : h.get? C = some (excClassObj nm q C N bs (.ref P :: bmB) true sn sub ab col dd k0 k1 k2 k3 k5 newId)) (hn : h.Ns N mN) (hna : mN name = none)
    (hP : h.get? P = some { cls := cP, dict := dP, data := .cls cdP, slots := slP }) (hnP : h.Ns cdP.ns mP) (hPa : mP name = none)
    (hB : typeLookup (.type B) name = pure none) (hx : h.get? x = some o) (hc : o.cls = .ref C) (hdx : o.dict = some dx) (hns : h.Ns1 dx mA)
    (hq : ∀ h' tk', (∀ b ob, b ≠ dx → h.get? b = some ob → h'.get? b = some ob) → Q (.done (.ret .none)) ⟨h', g, d, tk', os⟩) (hw : Within mA ns := by within_ways) (hsz : ns.length ≤ sizeLine := by size_fits) :
    wpAny (model prog w) A (Builtin.«object.__setattr__» ⟨[.ref x, .str name tk, v], []⟩) Q E ⟨h, g, d, t, os⟩ := by
  have hpass := SF.passes (.ref x)
  unfold Builtin.«object.__setattr__»
  repeat (first | rw [refuse_eq] | (rw [refuseLoop_ref, refuseLoop_ref, hpass]) | (with_reducible refine wpAny_loadPart_at hx ?_; rw [hc]) | with_reducible refine wpAny_mroOf_exc hC ?_ | (with_reducible refine tl2 hC hn hna hP hnP hPa SF.mro hB ?_) | wp_step)
  rw [hdx]
  refine wpAny_pure ?_
  show wpAny _ _ (Builtin.ObjectAttr.storeInDict dx (.str name tk) name v) _ _ _
  unfold Builtin.ObjectAttr.storeInDict Builtin.ObjectAttr.newKeyGuard
  refine wpAny_bind (wpAny_pure (wpAny_bind (wpAny_nsSet1 hns fun h' hn' hs => ?_)))
  obtain ⟨oD, esD, epD, hoD, hdD, hcD⟩ := hn'.count (Within.cons name v hw)
  refine wpAny_bind (wpAny_lookBehind hoD (by rw [hdD]; exact pastItsLine_dict (Nat.le_trans hcD (by rw [List.length_cons]; omega))) ?_)
  wp_walk
  exact hq h' _ fun b ob hb e => (hs.2 b hb).trans e

theorem xset_call {o : Obj} {Q : Unit → Shared → Prop} (SF : StoreFacts B bmB sa owner)
    (hC : h.get? C = some (excClassObj nm q C N bs (.ref P :: bmB) true sn sub ab col dd k0 k1 k2 k3 k5 newId)) (hn : h.Ns N mN) (hns : mN "__setattr__" = none)
    (hP : h.get? P = some { cls := cP, dict := dP, data := .cls cdP, slots := slP }) (hnP : h.Ns cdP.ns mP) (hPs : mP "__setattr__" = none)
    (hx : h.get? x = some o) (hc : o.cls = .ref C)
    (hq : ∀ tk, codeAny (model prog w) A (.call (.builtin sa) ⟨[.ref x, .str name tk, v], []⟩) (fun r s' => match r with | .ok (.ret _) => Q () s' | .ok _ => False | .error e => E e s') ⟨h, g, d, t + 1, os⟩) :
    wpAny (model prog w) A (setAttr (.ref x) name v) Q E ⟨h, g, d, t, os⟩ := by
  have f3 := SF.slot.bind (.ref x)
  unfold setAttr callSpecial? specialOf
  repeat (any_goals (first | assumption | (with_reducible refine wpAny_loadPart_at hx ?_; rw [hc]) | (with_reducible refine tl2 hC hn hns hP hnP hPs SF.mro SF.slot.lookup ?_) | wp_step))
  refine codeAny_mono (hq t) fun r s' z => ?_
  rcases r with e | (v | _ | _ | _) <;> first | exact z | exact wpAny_pure (wpAny_pure z)

theorem xset0 {o : Obj} {Q : Unit → Shared → Prop} (SF : StoreFacts B bmB sa owner)
    (hC : h.get? C = some (excClassObj nm q C N bs (.ref P :: bmB) true sn sub ab col dd k0 k1 k2 k3 k5 newId)) (hn : h.Ns N mN) (hns : mN "__setattr__" = none) (hna : mN name = none)
    (hP : h.get? P = some { cls := cP, dict := dP, data := .cls cdP, slots := slP }) (hnP : h.Ns cdP.ns mP) (hPs : mP "__setattr__" = none) (hPa : mP name = none)
    (hB : typeLookup (.type B) name = pure none) (hx : h.get? x = some o) (hc : o.cls = .ref C) (hnc : ∀ c, o.data ≠ .cls c) (hdn : o.dict = none)
    (hq : ∀ h' tk', h'.get? x = some { o with dict := some h.objs.size } → h'.Ns1 h.objs.size (fun y => if y = name then some v else none) → (∀ b ob, b ≠ x → h.get? b = some ob → h'.get? b = some ob) → Q () ⟨h', g, d, tk', os⟩) :
    wpAny (model prog w) A (setAttr (.ref x) name v) Q E ⟨h, g, d, t, os⟩ :=
  xset_call SF hC hn hns hP hnP hPs hx hc fun _ => codeAny_call_builtin SF.slot.plain SF.entry (xcheck_sa SF hC hx hc (xstore_entry0 SF hC hn hna hP hnP hPa hB hx hc hnc hdn fun h' tk' a b c => hq h' tk' a b c))

theorem xset1 {o : Obj} {dx : Addr} {ns : List Str} {Q : Unit → Shared → Prop} (SF : StoreFacts B bmB sa owner)
    (hC : h.get? C = some (excClassObj nm q C N bs (.ref P :: bmB) true sn sub ab col dd k0 k1 k2 k3 k5 newId)) (hn : h.Ns N mN) (hns : mN "__setattr__" = none) (hna : mN name = none)
    (hP : h.get? P = some { cls := cP, dict := dP, data := .cls cdP, slots := slP }) (hnP : h.Ns cdP.ns mP) (hPs : mP "__setattr__" = none) (hPa : mP name = none)
    (hB : typeLookup (.type B) name = pure none) (hx : h.get? x = some o) (hc : o.cls = .ref C) (hdx : o.dict = some dx) (hnx : h.Ns1 dx mA)
    (hq : ∀ h' tk', (∀ b ob, b ≠ dx → h.get? b = some ob → h'.get? b = some ob) → Q () ⟨h', g, d, tk', os⟩) (hw : Within mA ns) (hsz : ns.length ≤ sizeLine) :
    wpAny (model prog w) A (setAttr (.ref x) name v) Q E ⟨h, g, d, t, os⟩ :=
  xset_call SF hC hn hns hP hnP hPs hx hc fun _ => codeAny_call_builtin SF.slot.plain SF.entry (xcheck_sa SF hC hx hc (xstore_entry1 SF hC hn hna hP hnP hPa hB hx hc hdx hnx (fun h' tk' a => hq h' tk' a) hw hsz))
end
section
variable {prog : Program} {w : World} {A : Around} {E : Value → Shared → Prop} {s : Shared} {h₀ : Heap} {L : Addr} {m : Str → Option Value} {e t : Addr} {tl : List (Addr × Obj)} {name : Str} {v : Value}
theorem ok45 (w : World) : nsOkIn (MineH.hd.heap_1_39 w.params) 45 = true := by kernel_rfl
theorem ok58 (w : World) : nsOkIn (MineH.hd.heap_1_39 w.params) 58 = true := by kernel_rfl
theorem ns_in {w : World} {h : Heap} (X : (MineH.hd.heap_1_39 w.params).In h) {N : Addr} (ok : nsOkIn (MineH.hd.heap_1_39 w.params) N = true) : h.Ns N (h.nsMap N) := .of_isNs (isNs_of_in X ok)
theorem set0_K {Q : Unit → Shared → Prop} (F : Fr h₀ L s.heap m) (N' : News h₀ L s.heap ((e, excObj 59 none t) :: tl)) (off : ∀ p ∈ tl, p.1 ≠ e) (X₀ : (MineH.hd.heap_1_39 w.params).In h₀)
    (h1 : nsIn (MineH.hd.heap_1_39 w.params) 58 name = some none) (h2 : nsIn (MineH.hd.heap_1_39 w.params) 45 name = some none) (hB : typeLookup (.type "Exception") name = pure none)
    (h : ∀ dx h' tk', Fr h₀ L h' m → News h₀ L h' ((e, excObj 59 (some dx) t) :: tl) → h'.Ns1 dx (fun y => if y = name then some v else none) → dx ≠ L → h₀.get? dx = none → dx ≠ e → (∀ p ∈ tl, p.1 ≠ dx) → Q () { s with heap := h', toks := tk' }) :
    wpAny (model prog w) A (setAttr (.ref e) name v) Q E s := by
  have X := X₀.keeps F.keep
  have he := N' _ (.head _)
  have fresh : h₀.get? s.heap.objs.size = none := next_is_new F
  refine xset0 (h := s.heap) PySem.F.store_Exception (X 59 _ rfl) (ns_in X (ok58 w)) (nsMap_none_of_in (N := 58) X (ok58 w) rfl) (nsMap_none_of_in (N := 58) X (ok58 w) h1) (X 46 _ rfl) (ns_in X (ok45 w)) (nsMap_none_of_in (N := 45) X (ok45 w) rfl) (nsMap_none_of_in (N := 45) X (ok45 w) h2) hB he.1 rfl (fun c q => by cases q) rfl fun h' tk' a b c => ?_
  have hLe : L ≠ e := Ne.symm he.2.1
  refine h s.heap.objs.size h' tk' ⟨F.ns.at' fun o q => c L o hLe q, fun b' o q => c b' o (fun z => by rw [z, he.2.2] at q; cases q) (F.keep b' o q), F.above⟩ (fun p hp => ?_) b (Nat.ne_of_gt F.ns.lt) fresh (Nat.ne_of_gt (Heap.lt_size he.1)) (fun p hp => Nat.ne_of_lt (Heap.lt_size (N' p (.tail _ hp)).1))
  rcases List.mem_cons.mp hp with rfl | hp
  · exact ⟨a, he.2⟩
  · exact ⟨c _ _ (off p hp) (N' p (.tail _ hp)).1, (N' p (.tail _ hp)).2⟩
theorem set1_K {Q : Unit → Shared → Prop} {dx : Addr} {n0 : Str} {v0 : Value} (F : Fr h₀ L s.heap m) (N' : News h₀ L s.heap ((e, excObj 59 (some dx) t) :: tl)) (X₀ : (MineH.hd.heap_1_39 w.params).In h₀)
    (h1 : nsIn (MineH.hd.heap_1_39 w.params) 58 name = some none) (h2 : nsIn (MineH.hd.heap_1_39 w.params) 45 name = some none) (hB : typeLookup (.type "Exception") name = pure none)
    (d1 : s.heap.Ns1 dx (fun y => if y = n0 then some v0 else none)) (d2 : dx ≠ L) (d3 : h₀.get? dx = none) (d4 : dx ≠ e) (d5 : ∀ p ∈ tl, p.1 ≠ dx)
    (h : ∀ h' tk', Fr h₀ L h' m → News h₀ L h' ((e, excObj 59 (some dx) t) :: tl) → Q () { s with heap := h', toks := tk' }) :
    wpAny (model prog w) A (setAttr (.ref e) name v) Q E s := by
  have X := X₀.keeps F.keep
  have he := N' _ (.head _)
  refine xset1 (h := s.heap) (ns := [n0]) PySem.F.store_Exception (X 59 _ rfl) (ns_in X (ok58 w)) (nsMap_none_of_in (N := 58) X (ok58 w) rfl) (nsMap_none_of_in (N := 58) X (ok58 w) h1) (X 46 _ rfl) (ns_in X (ok45 w)) (nsMap_none_of_in (N := 45) X (ok45 w) rfl) (nsMap_none_of_in (N := 45) X (ok45 w) h2) hB he.1 rfl rfl d1 (fun h' tk' c => ?_) (by within_ways) (by size_fits)
  refine h h' tk' ⟨F.ns.at' fun o q => c L o (Ne.symm d2) q, fun b' o q => c b' o (fun z => by rw [z, d3] at q; cases q) (F.keep b' o q), F.above⟩ (fun p hp => ?_)
  rcases List.mem_cons.mp hp with rfl | hp
  · exact ⟨c _ _ (Ne.symm d4) he.1, he.2⟩
  · exact ⟨c _ _ (d5 p hp) (N' p (.tail _ hp)).1, (N' p (.tail _ hp)).2⟩
end
theorem noB_what : typeLookup (.type "Exception") (Str.ofString "what") = pure none := by rw [typeLookup_type, builtinLookup_eq_fast]; kernel_rfl
theorem noB_at : typeLookup (.type "Exception") (Str.ofString "at") = pure none := by rw [typeLookup_type, builtinLookup_eq_fast]; kernel_rfl
theorem reg_21_fault_1 : True := by
  k_with "L call builtin:Exception.__init__" => ((k_here; k_dflt (refine' init_K ?F ?N ?off ?C ?B ?_; (case F => k_asm); (case N => k_asm); (case off => assumption); (case C => exact (by assumption : Frag.In _ _) _ _ rfl); (case B => rfl); intro T'q h'q F'q N'q; (try k_sweep))))
  k_with "L setAttr ref" => ((k_here; (with_reducible show wpAny _ _ (setAttr _ (Str.ofString "what") _) _ _ _); k_dflt (refine' set0_K ?F ?N ?off ?X ?h1 ?h2 noB_what ?_; (case F => k_asm); (case N => k_asm); (case off => assumption); (case X => k_asm); (case h1 => rfl); (case h2 => rfl); intro dxq h'q tk'q F'q N'q d1q d2q d3q d4q d5q; (try k_sweep))))
  k_with "L setAttr ref" => ((k_here; (with_reducible show wpAny _ _ (setAttr _ (Str.ofString "at") _) _ _ _); k_dflt (refine' set1_K ?F ?N ?X ?h1 ?h2 noB_at ?d1 ?d2 ?d3 ?d4 ?d5 ?_; (case F => k_asm); (case N => k_asm); (case X => k_asm); (case h1 => rfl); (case h2 => rfl); (case d1 => assumption); (case d2 => assumption); (case d3 => assumption); (case d4 => assumption); (case d5 => assumption); intro h'q tk'q F'q N'q; (try k_sweep))))
  trivial
theorem c_fault_init {w : World} (e t : Addr) (x : Str) (t1 t2 : Tok) (p : Int) (news) (hoff : ∀ p ∈ news, p.1 ≠ e) : Spec w 1 36 [.ref e, .str x t1, .int p t2] ((e, excObj 59 none t) :: news) (fun v n' => v = .none ∧ ∃ dx T', n' = (e, excObj 59 (some dx) T') :: news) := by
  unfold Spec
  intro mean mg mb dp un gd cn cs a ccd cl outer A₀ base h₀ L m s Q E B F X N T hk hd hu hret
  refine wpAny_call ?_
  k_dflt (refine' code_def ?k1 ?k2 ?k3 ?k4 ?k5 ?kA ?kF ?kK ?k6 ?k7 ?k8 ?k9 ?kB ?_ ?c2 ?c3 ?c4 ?c5; (case kA => exact rfl); (case kF => exact rfl); (case kK => assumption); (case k1 => k_asm); (case k2 => k_asm); (case k3 => k_asm); (case k4 => k_asm); (case k5 => k_asm); (case k6 => k_is); (case k7 => k_is); (case k8 => ktr_room); (case k9 => first | exact BindsTo.of_eq rfl | exact binds_K (by k_in) rfl (by k_is) rfl rfl rfl); (case c5 => decide); (case kB => exact locs rfl); (case c2 => exact rfl); (case c3 => exact rfl); (case c4 => exact rfl); k_whole; intro g' L' h' FG' F' N' B' X' T'; (try dsimp only); (try k_lift B'); (try k_fold))
  k_steps
  all_goals (refine hret _ _ _ _ (by assumption) (by assumption) ⟨rfl, _, _, rfl⟩)

-- piece 22_raise
theorem walk_22_raise : twoK PySem.Challenge.rw_nz0311_01 MineH.hd.heap_1_39 := by k_fill; w_top off; trivial
theorem ns_some_of {K : Frag} {h : Heap} {N : Addr} {mg : Str → Option Value} {n : Str} {v : Value} (X : K.In h) (G : h.Ns N mg) (e : nsIn K N n = some (some v)) : mg n = some v := by
  obtain ⟨o, es, ep, ho, hd, _, hf⟩ := G
  unfold nsIn at e
  split at e
  · rename_i c d es' n' sl q
    have := X _ _ q
    rw [ho] at this
    cases this
    cases hd
    split at e
    · rename_i en he
      rw [← hf]
      unfold nsFind findBy
      rw [← Array.find?_toList, he]
      simpa using e
    · split at e <;> simp at e
  · cases e
theorem c_fault {w : World} (x : Str) (t1 t2 : Tok) (p : Int) (news) : Spec w 3 59 [.str x t1, .int p t2] news (fun v n' => ∃ e dx T', v = .ref e ∧ n' = (e, excObj 59 (some dx) T') :: news ∧ ∀ p ∈ news, p.1 ≠ e) := by
  unfold Spec
  intro mean mg mb dp un gd cn cs a ccd cl outer A₀ base h₀ L m s Q E B F X N T hk hd hu hret
  have XS := X.keeps F.keep
  refine xcall (h := s.heap) (P := 46) (C := 59) PySem.F.excBase_Exception rfl rfl rfl rfl (XS 59 _ rfl) (ns_in XS (ok58 w)) (nsMap_none_of_in (N := 58) XS (ok58 w) rfl) (XS 46 _ rfl) (ns_in XS (ok45 w)) (mP := s.heap.nsMap 45) (fI := 36) ?_ (XS 36 _ rfl) rfl (fun h' e hx => ?_) (by size_fits)
  · exact ns_some_of XS (ns_in XS (ok45 w)) rfl
  · obtain ⟨hk', hnew, t, he, htn, ht⟩ := hx
    have F' : Fr h₀ L h' m := F.keeps hk'
    have hLe : e ≠ L := fun z => by
      obtain ⟨o, _, _, ho, _⟩ := F.ns
      rw [z, ho] at hnew; cases hnew
    have hb : h₀.get? e = none := by
      cases q : h₀.get? e with
      | none => rfl
      | some o => have := F.keep e o q; rw [hnew] at this; cases this
    have off : ∀ p ∈ news, p.1 ≠ e := fun p hp z => by have := (N p hp).1; rw [z, hnew] at this; cases this
    have N' : News h₀ L h' ((e, excObj 59 none t) :: news) := fun p hp => by
      rcases List.mem_cons.mp hp with rfl | hp
      · exact ⟨he, hLe, hb⟩
      · exact ⟨hk' _ _ (N p hp).1, (N p hp).2⟩
    refine Spec.use (s := ⟨h', s.gens, s.drawn, s.toks, s.os⟩) (c_fault_init e t x t1 t2 p news off) B F' X N' T hk ?_ ?_ ?_
    · show (Around.under (ktrTop dp un gd cn cs L a ccd cl outer) (.builtin "type.__call__" ⟨[.ref 59, .str x t1, .int p t2], []⟩)).depth + 1 < recursionLimit
      rw [depth_under_make]
      show dp + 1 + 1 < recursionLimit
      omega
    · show (Around.under (ktrTop dp un gd cn cs L a ccd cl outer) (.builtin "type.__call__" ⟨[.ref 59, .str x t1, .int p t2], []⟩)).units + 8 * 1 < cLine
      rw [units_under_make]
      show un + 1 + 8 * 1 < cLine
      omega
    · rintro v n' h'' tk' F'' N'' ⟨rfl, dx, T', rfl⟩
      exact ⟨rfl, hret _ _ _ _ F'' N'' ⟨e, dx, T', rfl, rfl, off⟩⟩
/-- what a raised own exception must be -/
noncomputable def RaisX (E : Value → Shared → Prop) (v : Value) (s₁ : Shared) : Prop :=
  ∃ e dd t, v = .ref e ∧ s₁.heap.get? e = some (excObj 59 dd t) ∧ (∃ nm q N bs sn sub ab col d0 k0 k1 k2 k3 k5 newId, s₁.heap.get? 59 = some (excClassObj nm q 59 N bs [.ref 46, .type "Exception", .type "BaseException", .type "object"] true sn sub ab col d0 k0 k1 k2 k3 k5 newId)) ∧ E (.ref e) s₁
theorem raiseStmt_x {M : Model} {A : Around} {E : Value → Shared → Prop} {env : Env} {s : Shared} {x : Sem Value} {Q : Flow → Shared → Prop} (hh : A.handled = none) (h : wpAny M A x (RaisX E) E s) : wpAny M A (raiseStmt env (some x) none) Q E s := by
  have hcB : (Value.ref 59 :: [.ref 46, .type "Exception", .type "BaseException", .type "object"]).contains (.type "BaseException") = true := rfl
  unfold raiseStmt
  refine wpAny_bind (wpAny_mono h (fun v s₁ h₁ => ?_) fun _ _ x => x)
  obtain ⟨e, dd, t, rfl, he, ⟨nm, q, N, bs, sn, sub, ab, col, d0, k0, k1, k2, k3, k5, newId, hC⟩, hE⟩ := h₁
  obtain ⟨hp, g, d, tk, os⟩ := s₁
  repeat (first | with_reducible refine wpAny_loadPart_at he ?_ | with_reducible refine wpAny_loadPart_at hC ?_ | (with_reducible refine wpAny_isSubtype_exc hC ?_; rw [hcB]) | wp_step)
  exact wpAny_raiseNew_none hh hE
theorem Raise_x {M : Model} {A : Around} {E : Value → Shared → Prop} {env : Env} {s : Shared} {e : Expr} {pos : Pos} {Q : Flow → Shared → Prop} (hh : A.handled = none)
    (h : wpAny M A (eval e env) (RaisX E) E s) : wpAny M A (exec (.Raise (some e) none pos) env) Q E s := by
  show wpAny M A (do standAt pos; raiseStmt env (some (do let v ← eval e env; standAt pos; pure v)) none) Q E s
  exact wpAny_bind (wpAny_standAt (raiseStmt_x hh (wpAny_bind (wpAny_mono h (fun v s₁ h₁ => wpAny_bind (wpAny_standAt (wpAny_pure h₁))) fun _ _ x => x))))
theorem raisX_of {w : World} {E : Value → Shared → Prop} {s : Shared} {h₀ : Heap} {L : Addr} {m : Str → Option Value} {e dx t : Addr} {news : List (Addr × Obj)} (F : Fr h₀ L s.heap m) (X : (MineH.hd.heap_1_39 w.params).In h₀) (N : News h₀ L s.heap news) (hm : (e, excObj 59 (some dx) t) ∈ news) (hE : E (.ref e) s) : RaisX E (.ref e) s :=
  ⟨e, some dx, t, rfl, (N _ hm).1, ⟨_, _, _, _, _, _, _, _, _, _, _, _, _, _, _, X.keeps F.keep 59 _ rfl⟩, hE⟩

theorem reg_22_raise_0 : True := by
  k_with "L exec Raise some none" => ((k_here; (with_reducible show wpAny _ _ (exec (Stmt.Raise (some (Expr.Call (Expr.Name ("WordFault" : Str) _) _ _ _)) none _) _) _ _ _); k_dflt (refine Raise_x rfl ?_)))
  k_with "L RaisX" => ((k_dflt (refine raisX_of (by k_asm) (by k_asm) (by k_asm) (by k_mem) ?_)))
  k_with "L call ref" => ((k_here; (with_reducible show wpAny _ _ (call (Value.ref 59) _) _ _ _); k_dflt (refine' Spec.use (c_fault _ _ _ _ _) ?k1 ?k2 ?k3 ?k4 ?k5 ?k6q ?k7q ?k8q ?_; (case k1 => k_asm); (case k2 => k_asm); (case k3 => k_asm); (case k4 => k_asm); (case k5 => k_asm); (case k6q => first | exact rfl | assumption); (case k7q => ktr_room); (case k8q => ktr_units); rintro v9q n9q h9q tk9q F9q N9q ⟨e9q, dx9q, T9q, ⟨eAq, ⟨eBq, off9q⟩⟩⟩; subst eBq; subst eAq; (try dsimp only))))
  trivial
-- piece 23_leave
theorem walk_23_leave : twoK PySem.Challenge.rw_nz0311_01 MineH.hd.heap_1_39 := by k_fill; w_top off; trivial
section
variable {M : Model} {A : Around} {E : Value → Shared → Prop} {s' : Shared} {base g : Heap} {outer : List Env} {L a e : Addr} {m : Str → Option Value} {name : Str} {scope : Scope} {cd : Value} {Q : Unit → Shared → Prop} {news : List (Addr × Obj)}
/-- the first frame that the own exception leaves -/
theorem leave_xS {dd : Option Addr} {t : Addr} (K : Below A base outer g) (F : Fr g L s'.heap m) (N : News g L s'.heap ((e, excObj 59 dd t) :: news)) (off : ∀ p ∈ news, p.1 ≠ e)
    (hQ : ∀ h', RaisedSN base g outer e (.ref 59) news h' → g.UpToSlots h' → Q () { s' with heap := h' }) (hk : scope.kind = .function := by rfl) :
    wpAny M (A.deeper (envOf name scope L a cd)) (leaving (envOf name scope L a cd) (.ref e)) Q E s' := by
  have K' := K.push (name := name) (a := a) (cd := cd) F hk
  have he := N _ (.head _)
  have heb : base.get? e = none := fresh_of_stays K.stays he.2.2
  let fs := (envOf name scope L a cd :: outer).filterMap (·.frame)
  have hfe : e ∉ fs := fun hm => by
    obtain ⟨env, hen, hf⟩ := List.mem_filterMap.mp hm
    rcases List.mem_cons.mp hen with rfl | hen
    · exact he.2.1 (Option.some.inj hf).symm
    · obtain ⟨o, ho, _⟩ := (K.frames.mem (List.mem_filterMap.mpr ⟨env, hen, hf⟩)).2
      rw [he.2.2] at ho; cases ho
  have hin : ∀ env ∈ (envOf name scope L a cd :: outer), ∀ b, env.frame = some b → b ∈ e :: fs := fun env he b hb => .tail _ (List.mem_filterMap.mpr ⟨env, he, hb⟩)
  have st : base.StaysIn (hideAll s'.heap (e :: fs)) := fun b o q => hideAll_get _ (K'.stays b o q) fun hm => by
    rcases List.mem_cons.mp hm with rfl | hm
    · rw [heb] at q; cases q
    · rw [(K'.frames.mem hm).1] at q; cases q
  have sg : ∀ b o, g.get? b = some o → b ∉ outer.filterMap (·.frame) → (hideAll s'.heap (e :: fs)).get? b = some o := fun b o q nm => hideAll_get _ (F.keep b o q) fun hm => by
    rcases List.mem_cons.mp hm with rfl | hm
    · rw [he.2.2] at q; cases q
    · rcases kts_mem hm with z | z
      · rw [z, kts_self F] at q
        cases q
      · exact nm z
  have hl : ∀ q ∈ news, (hideAll s'.heap (e :: fs)).get? q.1 = some q.2 ∧ g.get? q.1 = none ∧ base.get? q.1 = none := fun q hq => by
    have z := N q (.tail _ hq)
    refine ⟨hideAll_get _ z.1 fun hm => ?_, z.2.2, fresh_of_stays K.stays z.2.2⟩
    rcases List.mem_cons.mp hm with hm | hm
    · exact off q hq hm
    obtain ⟨env, hen, hf⟩ := List.mem_filterMap.mp hm
    rcases List.mem_cons.mp hen with rfl | hen
    · exact z.2.1 (Option.some.inj hf).symm
    · obtain ⟨o, ho, _⟩ := (K.frames.mem (List.mem_filterMap.mpr ⟨env, hen, hf⟩)).2
      rw [z.2.2] at ho; cases ho
  have hen : (hideAll s'.heap (e :: fs)).get? e = none := hideAll_none _ (.head _)
  refine wpAny_leaving_firstW (a0 := .ref t) K'.stack (funFrames_hide K'.frames hin) rfl he.1 (fun b o hb => of_hideAll _ hb) hen rfl rfl rfl fun h' hL => ?_
  obtain ⟨k1, ⟨_, _, k2⟩, k3, k4⟩ := hL
  exact hQ h' ⟨_, .ref t, st, sg, hl, k1, hen, k2, k3⟩ ((Heap.UpToSlots.of_keeps F.keep).trans k4)
end
/-- a call that raises the own exception -/
noncomputable def SpecX (w : World) (k : Nat) (f : Addr) (vs : List Value) (news kp : List (Addr × Obj)) (P : Prop) (R : Value → List (Addr × Obj) → Prop) : Prop :=
  ∀ (mean : ExcName → Option Value) (mg mb : Str → Option Value) (dp un : Nat) (gd : Option (List Code)) (cn : Str) (cs : Scope) (a : Addr) (ccd : Value) (outer : List Env)
    (A₀ : Around) (base h₀ : Heap) (L : Addr) (m : Str → Option Value) (s : Shared) (Q E : Value → Shared → Prop),
    Below A₀ base outer h₀ → Fr h₀ L s.heap m → (MineH.hd.heap_1_39 w.params).In h₀ → News h₀ L s.heap news → Top MineH.hd.view_1_40 (looseW MineH.hd.view_1_40 [Str.ofString "PostError"]) mean mg mb h₀ → cs.kind = .function →
    dp + k < recursionLimit → un + 8 * k < cLine →
    (¬ P → ∀ v news' h' tk', Fr h₀ L h' m → News h₀ L h' news' → R v news' → Q v { s with heap := h', toks := tk' }) →
    (P → ∀ e h' tk' g₂, RaisedSN base g₂ (envX cn cs L a ccd [] :: outer) e (.ref 59) kp h' → Fr h₀ L g₂ m → g₂.UpToSlots h' → E (.ref e) { s with heap := h', toks := tk' }) →
    wpAny (PySem.model PySem.Challenge.rw_nz0311_01.row.prog w) (ktrTop dp un gd cn cs L a ccd [] outer) (call (.ref f) vs) Q E s
theorem SpecX.use {w : World} {k : Nat} {f : Addr} {vs : List Value} {news kp : List (Addr × Obj)} {P : Prop} {R : Value → List (Addr × Obj) → Prop} (C : SpecX w k f vs news kp P R)
    {mean : ExcName → Option Value} {mg mb : Str → Option Value} {dp un : Nat} {gd : Option (List Code)} {cn : Str} {cs : Scope} {a : Addr} {ccd : Value} {outer : List Env}
    {A₀ : Around} {base h₀ : Heap} {L : Addr} {m : Str → Option Value} {s : Shared} {Q E : Value → Shared → Prop}
    (B : Below A₀ base outer h₀) (F : Fr h₀ L s.heap m) (X : (MineH.hd.heap_1_39 w.params).In h₀) (N : News h₀ L s.heap news) (T : Top MineH.hd.view_1_40 (looseW MineH.hd.view_1_40 [Str.ofString "PostError"]) mean mg mb h₀) (hk : cs.kind = .function)
    (hd : dp + k < recursionLimit) (hu : un + 8 * k < cLine)
    (ret : ¬ P → ∀ v news' h' tk', Fr h₀ L h' m → News h₀ L h' news' → R v news' → Q v { s with heap := h', toks := tk' })
    (raise : P → ∀ e h' tk' g₂, RaisedSN base g₂ (envX cn cs L a ccd [] :: outer) e (.ref 59) kp h' → Fr h₀ L g₂ m → g₂.UpToSlots h' → E (.ref e) { s with heap := h', toks := tk' }) :
    wpAny (PySem.model PySem.Challenge.rw_nz0311_01.row.prog w) (ktrTop dp un gd cn cs L a ccd [] outer) (call (.ref f) vs) Q E s :=
  C _ _ _ _ _ _ _ _ _ _ _ _ _ _ _ _ _ _ _ B F X N T hk hd hu ret raise

theorem reg_23_leave_0 : True := by
  k_with "L leaving ref" => ((k_here; k_dflt (refine' leave_onSN ?K ?F ?R ?U ?_; (case R => assumption); (case F => assumption); (case K => assumption); (case U => assumption); k_whole; intro h'q R'q RN'q U'q; clear RN'q; (try dsimp only at R'q U'q ⊢))))
  k_with "L leaving ref" => ((k_here; k_dflt (refine' leave_xS ?K ?F ?N ?off ?_; (case N => k_asm); (case F => k_asm); (case K => assumption); (case off => assumption); k_whole; intro h'q R'q U'q; (try dsimp only at R'q U'q ⊢))))
  trivial
-- piece 30_atom
theorem walk_30_atom : twoK PySem.Challenge.rw_nz0311_01 MineH.hd.heap_1_39 := by k_fill; w_top off; trivial
theorem c_is_atom {w : World} (c : Nat) (t : Tok) (hc : c < 256) (news) : Spec w 1 81 [.int (c : Int) t] news (fun v n' => v = .bool (isAtomN c) ∧ n' = news) := by
  unfold Spec
  intro mean mg mb dp un gd cn cs a ccd cl outer A₀ base h₀ L m s Q E B F X N T hk hd hu hret
  refine wpAny_call ?_
  k_dflt cell_enter
  k_steps
  all_goals (refine hret _ _ _ _ (by assumption) (by assumption) ⟨congrArg Value.bool ?_, rfl⟩)
  all_goals (unfold isAtomN; (try rw [show nat [33, 35, 36, 37, 38, 39, 42, 43, 45, 47, 61, 63, 94, 95, 96, 123, 124, 125, 126] = [33, 35, 36, 37, 38, 39, 42, 43, 45, 47, 61, 63, 94, 95, 96, 123, 124, 125, 126] from rfl]); generalize List.contains _ c = B; rw [Bool.eq_iff_iff]; simp only [Bool.or_eq_true, Bool.and_eq_true, decide_eq_true_eq]; cases B <;> simp only [Bool.false_eq_true, or_false, or_true, iff_true, false_iff] <;> omega)

theorem reg_30_atom_0 : True := by
  k_with "L call ref" => ((k_here; (with_reducible show wpAny _ _ (call (Value.ref 81) _) _ _ _); k_dflt (refine' Spec.use (c_is_atom _ _ ?h1 _) ?k1 ?k2 ?k3 ?k4 ?k5 ?k6q ?k7q ?k8q ?_; (case k1 => k_asm); (case k2 => k_asm); (case k3 => k_asm); (case k4 => k_asm); (case k5 => k_asm); (case k6q => first | exact rfl | assumption); (case k7q => ktr_room); (case k8q => ktr_units); (case h1 => first | assumption | omega); refine curry (elimB ?_); intro h9q tk9q F9q N9q; (try dsimp only))))
  trivial
-- piece 31_lex
theorem walk_31_lex : twoK PySem.Challenge.rw_nz0311_01 MineH.hd.heap_1_39 := by k_fill; w_top off; trivial
section
variable {prog : Program} {w : World} {A : Around} {E : Value → Shared → Prop} {s : Shared} {d : List UInt8} {t u : Tok} {n : Nat} {Q : Value → Shared → Prop}
theorem eq1 (k : Nat) {c : UInt8} (hc : c.toNat = k) (hn : n < d.length) (h : Q (.bool (decide ((nat d).getD n 0 = k))) s) : wpAny (model prog w) A (compareOp .Eq (.bytes ((d.drop n).take 1).toArray t) (.bytes #[c] u)) Q E s := by
  refine eq_bytes ?_
  have e : (((d.drop n).take 1).toArray.toList == (#[c] : Array UInt8).toList) = decide ((nat d).getD n 0 = k) := by
    show (((d.drop n).take 1) == [c]) = _
    rw [nat_beq, nat_take, nat_drop, take1 (by rw [nat_length]; exact hn), ← hc]
    show ([(nat d).getD n 0] == [c.toNat]) = _
    rw [Bool.eq_iff_iff, beq_iff_eq, decide_eq_true_eq]
    exact ⟨fun h => (List.cons.inj h).1, fun h => by rw [h]⟩
  rw [e]; exact h
theorem eq2 {c e : UInt8} (hn : n < d.length) (hne : (nat d).getD n 0 ≠ c.toNat) (h : Q (.bool false) s) : wpAny (model prog w) A (compareOp .Eq (.bytes ((d.drop n).take 2).toArray t) (.bytes #[c, e] u)) Q E s := by
  refine eq_bytes ?_
  have q : (((d.drop n).take 2).toArray.toList == (#[c, e] : Array UInt8).toList) = false := by
    show (((d.drop n).take 2) == [c, e]) = _
    rw [nat_beq, nat_take, nat_drop, take2 (by rw [nat_length]; exact hn)]
    rw [beq_eq_false_iff_ne]
    intro z
    exact hne (List.cons.inj z).1
  rw [q]; exact h
end
theorem reg_31_lex_0 : True := by
  k_with "L compareOp Eq bytes bytes" => ((k_here; (with_reducible show wpAny _ _ (compareOp CmpOp.Eq (Value.bytes (List.toArray (List.take 2 _)) _) (Value.bytes _ _)) _ _ _); k_dflt (refine eq2 (by assumption) (by show _ ≠ 13; omega) ?_)))
  k_with "L compareOp Eq bytes bytes" => ((k_here; (with_reducible show wpAny _ _ (compareOp CmpOp.Eq (Value.bytes (List.toArray (List.take 1 _)) _) (Value.bytes _ _)) _ _ _); k_dflt (first | (refine eq1 10 rfl (by assumption) ?_) | (refine eq1 34 rfl (by assumption) ?_) | (refine eq1 91 rfl (by assumption) ?_) | (refine eq1 40 rfl (by assumption) ?_) | (refine eq1 41 rfl (by assumption) ?_))))
  trivial
theorem c_line_end {w : World} (d : List UInt8) (n : Nat) (t u : Tok) (hp : Plain (nat d)) (hz : d.length ≤ 1000) (hn : n < d.length) (news) : Spec w 1 88 [.bytes d.toArray t, .int (n : Int) u] news (fun v n' => (∃ t', v = .int (-1) t') ∧ n' = news) := by
  unfold Spec
  intro mean mg mb dp un gd cn cs a ccd cl outer A₀ base h₀ L m s Q E B F X N T hk hd hu hret
  obtain ⟨hp1, hp2, -, -, hp3⟩ := hp.at (n := n) (by rw [nat_length]; exact hn)
  refine wpAny_call ?_
  k_dflt cell_enter
  k_steps
  all_goals (refine hret _ _ _ _ (by assumption) (by assumption) ⟨⟨_, rfl⟩, rfl⟩)
theorem reg_31_lex_1 : True := by
  k_with "L call ref" => ((k_here; (with_reducible show wpAny _ _ (call (Value.ref 88) _) _ _ _); k_dflt (refine' Spec.use (c_line_end _ _ _ _ ?h1 ?h2 ?h3 _) ?k1 ?k2 ?k3 ?k4 ?k5 ?k6q ?k7q ?k8q ?_; (case k1 => k_asm); (case k2 => k_asm); (case k3 => k_asm); (case k4 => k_asm); (case k5 => k_asm); (case k6q => first | exact rfl | assumption); (case k7q => ktr_room); (case k8q => ktr_units); (case h1 => assumption); (case h2 => assumption); (case h3 => first | assumption | omega); refine curry (elimA ?_); intro t9q h9q tk9q F9q N9q; (try dsimp only))))
  trivial
theorem in74 {w : World} {A : Around} {E : Value → Shared → Prop} {s : Shared} {Q : Value → Shared → Prop} {h₀ : Heap} {L : Addr} {m : Str → Option Value} {x : Int} {u : Tok} (F : Fr h₀ L s.heap m) (X : (MineH.hd.heap_1_39 w.params).In h₀) (hx : x ≠ 0 ∧ x ≠ 10 ∧ x ≠ 13) (h : Q (.bool false) s) : wpAny (PySem.model PySem.Challenge.rw_nz0311_01.row.prog w) A (compareOp .In (.int x u) (.ref 74)) Q E s := by
  have XS := X.keeps F.keep
  refine in_tuple_ints (ns := [0, 10, 13]) ⟨_, XS 74 _ rfl, rfl, _, rfl⟩ (by repeat constructor) ?_
  have e : ([0, 10, 13] : List Int).any (· == x) = false := by
    simp only [List.any_cons, List.any_nil, Bool.or_false, Bool.or_eq_false_iff, beq_eq_false_iff_ne]
    exact ⟨fun z => hx.1 z.symm, fun z => hx.2.1 z.symm, fun z => hx.2.2 z.symm⟩
  rw [e]; exact h
theorem reg_31_lex_2 : True := by
  k_with "L compareOp In int ref" => ((k_here; (with_reducible show wpAny _ _ (compareOp CmpOp.In (Value.int _ _) (Value.ref 74)) _ _ _); k_dflt (refine in74 (by k_asm) (by k_asm) (by omega) ?_)))
  trivial
theorem c_inside {w : World} (d : List UInt8) (n g : Nat) (t u u2 : Tok) (hp : Plain (nat d)) (hz : d.length ≤ 1000) (hn : n < d.length) (news) : Spec w 2 95 [.bytes d.toArray t, .int (n : Int) u, .int (g : Int) u2] news (fun v n' => ∃ T t1 t2, v = .ref T ∧ n' = (T, { cls := .type "tuple", data := .seq #[.bytes ((d.drop n).take 1).toArray t1, .int ((n + 1 : Nat) : Int) t2] }) :: news ∧ ∀ p ∈ news, p.1 < T) := by
  unfold Spec
  intro mean mg mb dp un gd cn cs a ccd cl outer A₀ base h₀ L m s Q E B F X N T hk hd hu hret
  obtain ⟨hp1, hp2, -, -, hp3⟩ := hp.at (n := n) (by rw [nat_length]; exact hn)
  refine wpAny_call ?_
  k_dflt cell_enter
  k_steps
  all_goals first | omega | exact hret _ _ _ _ (by assumption) (by assumption) ⟨_, _, _, rfl, rfl, by assumption⟩

theorem reg_31_lex_3 : True := by
  k_with "L call ref" => ((k_here; (with_reducible show wpAny _ _ (call (Value.ref 95) _) _ _ _); k_dflt (refine' Spec.use (c_inside _ _ _ _ _ _ ?h1 ?h2 ?h3 _) ?k1 ?k2 ?k3 ?k4 ?k5 ?k6q ?k7q ?k8q ?_; (case k1 => k_asm); (case k2 => k_asm); (case k3 => k_asm); (case k4 => k_asm); (case k5 => k_asm); (case k6q => first | exact rfl | assumption); (case k7q => ktr_room); (case k8q => ktr_units); (case h1 => assumption); (case h2 => assumption); (case h3 => first | assumption | omega); refine curry (elim3L ?_); intro T9q t9q u9q lt9q h9q tk9q F9q N9q; (try k_lt lt9q); (try dsimp only))))
  trivial
-- piece 32_past
theorem walk_32_past : twoK PySem.Challenge.rw_nz0311_01 MineH.hd.heap_1_39 := by k_fill; w_top off; trivial
noncomputable def isWhite (c : Nat) : Bool := c == 9 || c == 32
noncomputable def spanN (p : Nat → Bool) (l : List Nat) : Nat := (l.takeWhile p).length
theorem span_yes {p : Nat → Bool} {l : List Nat} {k : Nat} (h : k < l.length) (hp : p (l.getD k 0) = true) : k + spanN p (l.drop k) = k + 1 + spanN p (l.drop (k + 1)) := by
  unfold spanN
  rw [List.drop_eq_getElem_cons h, List.takeWhile_cons, ← getD_at h, if_pos hp, List.length_cons]; omega
theorem span_no {p : Nat → Bool} {l : List Nat} {k : Nat} (h : k < l.length) (hp : p (l.getD k 0) = false) : k + spanN p (l.drop k) = k := by
  unfold spanN
  rw [List.drop_eq_getElem_cons h, List.takeWhile_cons, ← getD_at h, hp]; rfl
theorem span_end {p : Nat → Bool} {l : List Nat} {k : Nat} (h : l.length ≤ k) : k + spanN p (l.drop k) = k := by
  unfold spanN
  rw [List.drop_eq_nil_of_le h]; rfl
theorem white_any {c : Nat} {b : Bool} (h : (([9, 32] : List Int).any fun x => x == (c : Int)) = b) : isWhite c = b := by
  rw [← h, Bool.eq_iff_iff]
  unfold isWhite
  simp only [List.any_cons, List.any_nil, Bool.or_false, Bool.or_eq_true, beq_iff_eq]
  omega
/-- the turn of the loop -/
noncomputable abbrev PastK (d : List UInt8) (n : Nat) (t : Tok) (news : List (Addr × Obj)) : Nat → (Str → Option Value) → List (Addr × Obj) → Prop := fun r m₁ nx => nx = news ∧ m₁ "data" = some (.bytes d.toArray t) ∧ ∃ (k : Nat) (u : Tok), m₁ "at" = some (.int (k : Int) u) ∧ r = d.length - k ∧ k ≤ d.length ∧ n + spanN isWhite ((nat d).drop n) = k + spanN isWhite ((nat d).drop k)
theorem c_past {w : World} (d : List UInt8) (n : Nat) (t u : Tok) (hp : Plain (nat d)) (hz : d.length ≤ 1000) (hn : n ≤ d.length) (news) : Spec w 2 130 [.bytes d.toArray t, .int (n : Int) u] news (fun v n' => (∃ t', v = .int ((n + spanN isWhite ((nat d).drop n) : Nat) : Int) t') ∧ n' = news) := by
  unfold Spec
  intro mean mg mb dp un gd cn cs a ccd cl outer A₀ base h₀ L m s Q E B F X N T hk hd hu hret
  have hzz : d.toArray.size = d.length := rfl
  refine wpAny_call ?_
  k_dflt cell_enter
  k_with "my while" => (k_here; refine While_inv2 (n₀ := d.length - n) (PastK d n t news) (by assumption) (by assumption) ⟨rfl, by with_unfolding_all rfl, n, u, by with_unfolding_all rfl, rfl, hn, rfl⟩ ?_; rintro r m₁ nx h₁ tk₁ F' N' ⟨rfl, hdt, k, u', hat, rfl, hk1, hk2⟩)
  k_steps
  · refine ⟨_, _, _, _, d.length - (k + 1), rfl, by assumption, cb_drop (by assumption) (fun p hp => List.mem_cons_of_mem _ hp), by omega, rfl, ?_, k + 1, _, if_pos rfl, rfl, by omega, ?_⟩
    · first | (with_reducible assumption) | exact if_pos rfl | (refine Eq.trans (if_neg (by decide +kernel)) ?_; first | (with_reducible assumption) | exact if_pos rfl | (refine Eq.trans (if_neg (by decide +kernel)) ?_; first | (with_reducible assumption) | exact if_pos rfl | (refine Eq.trans (if_neg (by decide +kernel)) ?_; first | (with_reducible assumption) | exact if_pos rfl | (refine Eq.trans (if_neg (by decide +kernel)) ?_; first | assumption | exact if_pos rfl))))
    rw [hk2]
    refine span_yes (by rw [nat_length]; omega) ?_
    exact white_any (by assumption)
  · exact hret _ _ _ _ (by assumption) (cb_drop (by assumption) (fun p hp => List.mem_cons_of_mem _ hp)) ⟨⟨_, by rw [hk2, span_no (by rw [nat_length]; omega) (white_any (by assumption))]⟩, rfl⟩
  · exact hret _ _ _ _ (by assumption) (by assumption) ⟨⟨_, by rw [hk2, span_end (by rw [nat_length]; omega)]⟩, rfl⟩

theorem reg_32_past_0 : True := by
  k_with "L call ref" => ((k_here; (with_reducible show wpAny _ _ (call (Value.ref 130) _) _ _ _); k_dflt (refine' Spec.use (c_past _ _ _ _ ?h1 ?h2 ?h3 _) ?k1 ?k2 ?k3 ?k4 ?k5 ?k6q ?k7q ?k8q ?_; (case k1 => k_asm); (case k2 => k_asm); (case k3 => k_asm); (case k4 => k_asm); (case k5 => k_asm); (case k6q => first | exact rfl | assumption); (case k7q => ktr_room); (case k8q => ktr_units); (case h1 => assumption); (case h2 => assumption); (case h3 => first | assumption | omega); refine curry (elimA ?_); intro t9q h9q tk9q F9q N9q; (try dsimp only))))
  trivial
-- piece 33_atom_at
theorem walk_33_atom_at : twoK PySem.Challenge.rw_nz0311_01 MineH.hd.heap_1_39 := by k_fill; w_top off; trivial
section
variable {prog : Program} {w : World} {A : Around} {E : Value → Shared → Prop} {s : Shared} {value slice : PySem.Expr} {d : List UInt8} {t : Tok} {h₀ : Heap} {L : Addr} {m : PySem.Str → Option Value} {news : List (Addr × Obj)} {Q : Value → Shared → Prop}
theorem slice_NN {lo hi : Nat} {tl tu : Tok} (F : Fr h₀ L s.heap m) (N : News h₀ L s.heap news) (hh : lo ≤ hi) (hz : d.length ≤ 16777216)
    (h : ∀ h' t' tk, Fr h₀ L h' m → News h₀ L h' news → Q (.bytes ((d.drop lo).take (hi - lo)).toArray t') { s with heap := h', toks := tk })
    (hs : subscripted slice false (.bytes d.toArray t) (.ref s.heap.objs.size) = operate [.ref s.heap.objs.size, .bytes d.toArray t] (getItem (.bytes d.toArray t) (.ref s.heap.objs.size)) := by with_unfolding_all rfl)
    (ht : ∀ r, letTemporaryGo value (.bytes d.toArray t) r = pure () := by intro _; with_unfolding_all rfl) :
    wpAny (model prog w) A (subscriptTail value slice (.bytes d.toArray t) (.ref s.heap.objs.size)) Q E { s with heap := s.heap.push { cls := .type "slice", data := .fields #[.int (lo : Int) tl, .int (hi : Int) tu, .none] } } :=
  slice_Z (k := hi - lo) F N (by omega) hz h hs ht
end
theorem reg_33_atom_at_0 : True := by
  k_with "L subscriptTail" => ((k_here; (with_reducible show wpAny _ _ (subscriptTail _ (Expr.Slice _ _ none _) (Value.bytes (List.toArray _) _) (Value.ref _)) _ _ _); k_dflt ((first | (refine' slice_Z (s := ⟨_, _, _, _, _⟩) (k := 1) ?F ?N rfl ?hz ?_; (case F => k_asm); (case N => k_asm); (case hz => omega)) | (refine' slice_Z (s := ⟨_, _, _, _, _⟩) (k := 2) ?F ?N rfl ?hz ?_; (case F => k_asm); (case N => k_asm); (case hz => omega)) | (refine' slice_NN (s := ⟨_, _, _, _, _⟩)  ?F ?N (by omega) ?hz ?_; (case F => k_asm); (case N => k_asm); (case hz => omega))); intro _ _ _ _ _)))
  trivial
/-- the turn of the loop -/
noncomputable abbrev AtomK (d : List UInt8) (n : Nat) (t u : Tok) (news : List (Addr × Obj)) : Nat → (Str → Option Value) → List (Addr × Obj) → Prop := fun r m₁ nx => nx = news ∧ m₁ "data" = some (.bytes d.toArray t) ∧ m₁ "at" = some (.int (n : Int) u) ∧ ∃ (k : Nat) (u : Tok), m₁ "end" = some (.int (k : Int) u) ∧ r = d.length - k ∧ n ≤ k ∧ k ≤ d.length ∧ n + spanN isAtomN ((nat d).drop n) = k + spanN isAtomN ((nat d).drop k)
theorem c_atom_at {w : World} (d : List UInt8) (n : Nat) (t u : Tok) (hp : Plain (nat d)) (hz : d.length ≤ 1000) (hn : n ≤ d.length) (news) : Spec w 2 116 [.bytes d.toArray t, .int (n : Int) u] news (fun v n' => ∃ T t1 t2, v = .ref T ∧ n' = (T, { cls := .type "tuple", data := .seq #[.bytes ((d.drop n).take (spanN isAtomN ((nat d).drop n))).toArray t1, .int ((n + spanN isAtomN ((nat d).drop n) : Nat) : Int) t2] }) :: news ∧ ∀ p ∈ news, p.1 < T) := by
  unfold Spec
  intro mean mg mb dp un gd cn cs a ccd cl outer A₀ base h₀ L m s Q E B F X N T hk hd hu hret
  have hzz : d.toArray.size = d.length := rfl
  have hby : ∀ k, (nat d).getD k 0 < 256 := fun k => by rw [nat_getD]; exact UInt8.toNat_lt _
  refine wpAny_call ?_
  k_dflt cell_enter
  k_with "my while" => (k_here; refine While_inv2 (n₀ := d.length - n) (AtomK d n t u news) (by assumption) (by assumption) ⟨rfl, by with_unfolding_all rfl, by with_unfolding_all rfl, n, u, by with_unfolding_all rfl, rfl, Nat.le_refl _, hn, rfl⟩ ?_; rintro r m₁ nx h₁ tk₁ F' N' ⟨rfl, hdt, hat0, k, u', hat, rfl, hk0, hk1, hk2⟩; have hb1 := hby k)
  k_steps
  · refine ⟨_, _, _, _, d.length - (k + 1), rfl, by assumption, by assumption, by omega, rfl, ?_, ?_, k + 1, _, if_pos rfl, rfl, by omega, by omega, ?_⟩
    · first | (with_reducible assumption) | exact if_pos rfl | (refine Eq.trans (if_neg (by decide +kernel)) ?_; first | (with_reducible assumption) | exact if_pos rfl | (refine Eq.trans (if_neg (by decide +kernel)) ?_; first | (with_reducible assumption) | exact if_pos rfl | (refine Eq.trans (if_neg (by decide +kernel)) ?_; first | (with_reducible assumption) | exact if_pos rfl | (refine Eq.trans (if_neg (by decide +kernel)) ?_; first | assumption | exact if_pos rfl))))
    · first | (with_reducible assumption) | exact if_pos rfl | (refine Eq.trans (if_neg (by decide +kernel)) ?_; first | (with_reducible assumption) | exact if_pos rfl | (refine Eq.trans (if_neg (by decide +kernel)) ?_; first | (with_reducible assumption) | exact if_pos rfl | (refine Eq.trans (if_neg (by decide +kernel)) ?_; first | (with_reducible assumption) | exact if_pos rfl | (refine Eq.trans (if_neg (by decide +kernel)) ?_; first | assumption | exact if_pos rfl))))
    rw [hk2]
    exact span_yes (by rw [nat_length]; omega) (by assumption)
  · have e : n + spanN isAtomN ((nat d).drop n) = k := by rw [hk2, span_no (by rw [nat_length]; omega) (by assumption)]
    rw [e, show spanN isAtomN ((nat d).drop n) = k - n by omega] at hret
    exact hret _ _ _ _ (by assumption) (by assumption) ⟨_, _, _, rfl, rfl, by assumption⟩
  · have e : n + spanN isAtomN ((nat d).drop n) = k := by rw [hk2, span_end (by rw [nat_length]; omega)]
    rw [e, show spanN isAtomN ((nat d).drop n) = k - n by omega] at hret
    exact hret _ _ _ _ (by assumption) (by assumption) ⟨_, _, _, rfl, rfl, by assumption⟩

theorem reg_33_atom_at_1 : True := by
  k_with "L call ref" => ((k_here; (with_reducible show wpAny _ _ (call (Value.ref 116) _) _ _ _); k_dflt (refine' Spec.use (c_atom_at _ _ _ _ ?h1 ?h2 ?h3 _) ?k1 ?k2 ?k3 ?k4 ?k5 ?k6q ?k7q ?k8q ?_; (case k1 => k_asm); (case k2 => k_asm); (case k3 => k_asm); (case k4 => k_asm); (case k5 => k_asm); (case k6q => first | exact rfl | assumption); (case k7q => ktr_room); (case k8q => ktr_units); (case h1 => assumption); (case h2 => assumption); (case h3 => first | assumption | omega); refine curry (elim3L ?_); intro T9q t9q u9q lt9q h9q tk9q F9q N9q; (try k_lt lt9q); (try dsimp only))))
  trivial
-- piece 34_comment_at
theorem walk_34_comment_at : twoK PySem.Challenge.rw_nz0311_01 MineH.hd.heap_1_39 := by k_fill; w_top off; trivial
theorem ne_of_lts {l : Addr} {news : List (Addr × Obj)} (h : ∀ p ∈ news, p.1 < l) : ∀ p ∈ news, p.1 ≠ l := fun p hp => Nat.ne_of_lt (h p hp)
local macro_rules | `(tactic| k_all) => `(tactic| first | exact ne_of_lts (by assumption) | assumption)
theorem type_bytes_join : typeOf (.builtin "bytes.join") = pure (.type "method_descriptor") := by show builtinType _ = _; rw [builtinType_eq_fast]; kernel_rfl
theorem type_bytes_find : typeOf (.builtin "bytes.find") = pure (.type "method_descriptor") := by show builtinType _ = _; rw [builtinType_eq_fast]; kernel_rfl
theorem type_bytes_strip : typeOf (.builtin "bytes.strip") = pure (.type "method_descriptor") := by show builtinType _ = _; rw [builtinType_eq_fast]; kernel_rfl
theorem reg_34_comment_at_0 : True := by
  k_with "L call builtin:list.append" => ((k_here; (with_reducible show wpAny _ _ (call (Value.builtin _) [Value.ref _, _]) _ _ _); k_dflt (refine' append_K ?k1 ?k2 ?k3 ?_ ?z; (case k1 => k_asm); (case k2 => k_asm); (case k3 => k_upd); (case z => first | size_fits | exact Nat.le_trans (by assumption) (by rw [sizeLine_eq]; omega)); k_whole); intro h'q F'q N'q; (try k_sweep)))
  k_with "L getMethod" => ((k_here; (with_reducible show wpAny _ _ (getMethod (Value.bytes _ _) (Str.ofString "join") _) _ _ _); (with_reducible refine KBd.method_of _ (typeIs_bytes _ _ _) slot_bytes_join type_bytes_join KBd.noRef ?_)))
  k_with "L getMethod" => ((k_here; (with_reducible show wpAny _ _ (getMethod (Value.bytes _ _) (Str.ofString "find") _) _ _ _); (with_reducible refine KBd.method_of _ (typeIs_bytes _ _ _) slot_bytes_find type_bytes_find KBd.noRef ?_)))
  k_with "L getMethod" => ((k_here; (with_reducible show wpAny _ _ (getMethod (Value.bytes _ _) (Str.ofString "strip") _) _ _ _); (with_reducible refine KBd.method_of _ (typeIs_bytes _ _ _) slot_bytes_strip type_bytes_strip KBd.noRef ?_)))
  trivial
/-- how far a comment goes on, from within depth d -/
noncomputable def cLen : Nat → List Nat → Option Nat
  | 0, _ => some 0
  | _ + 1, [] => none
  | d + 1, c :: r => if c = 40 then (if d + 2 > 20 then none else (cLen (d + 2) r).map (· + 1)) else if c = 41 then (cLen d r).map (· + 1) else (cLen (d + 1) r).map (· + 1)
theorem cLen_step {dep : Nat} {l : List Nat} {k e : Nat} (h : cLen (dep + 1) (l.drop k) = some e) : k < l.length ∧ (l.getD k 0 ≠ 40 ∨ dep + 2 ≤ 20) ∧
    ∃ e', e = e' + 1 ∧ cLen (if l.getD k 0 = 40 then dep + 2 else if l.getD k 0 = 41 then dep else dep + 1) (l.drop (k + 1)) = some e' := by
  rcases Nat.lt_or_ge k l.length with hk | hk
  · refine ⟨hk, ?_⟩
    rw [List.drop_eq_getElem_cons hk, ← getD_at hk] at h
    unfold cLen at h
    split at h
    · rename_i hc
      split at h
      · cases h
      · rename_i hd
        refine ⟨.inr (by omega), ?_⟩
        obtain ⟨e', he, rfl⟩ := Option.map_eq_some_iff.mp h
        exact ⟨e', rfl, by rw [if_pos hc]; exact he⟩
    · rename_i hc
      refine ⟨.inl hc, ?_⟩
      split at h
      · rename_i hc2
        obtain ⟨e', he, rfl⟩ := Option.map_eq_some_iff.mp h
        exact ⟨e', rfl, by rw [if_neg hc, if_pos hc2]; exact he⟩
      · rename_i hc2
        obtain ⟨e', he, rfl⟩ := Option.map_eq_some_iff.mp h
        exact ⟨e', rfl, by rw [if_neg hc, if_neg hc2]; exact he⟩
  · rw [List.drop_eq_nil_of_le hk] at h
    cases h
theorem Ones.push {xs : Array Value} {b : List UInt8} {t : Tok} (h : Ones xs.toList) (hb : b.length ≤ 1) : Ones (xs.push (.bytes b.toArray t)).toList := by
  intro y hy
  rw [Array.toList_push, List.mem_append] at hy
  rcases hy with hy | hy
  · exact h y hy
  · rw [List.mem_singleton.mp hy]; exact ⟨b, t, rfl, hb⟩
theorem allLt_to {a : Nat} : ∀ {l : List (Addr × Obj)}, AllLt a l → ∀ p ∈ l, p.1 < a
  | [], _, _, h => nomatch h
  | _ :: _, h, p, hp => by
    rcases List.mem_cons.mp hp with rfl | hp
    · exact h.1
    · exact allLt_to h.2 p hp
theorem reg_34_comment_at_1 : True := by
  k_with "L call builtin:bytes.join" => ((k_here; (with_reducible show wpAny _ _ (call (Value.builtin "bytes.join") [Value.bytes _ _, Value.ref _]) _ _ _); k_dflt (refine' join_many ?hD ?ho ?hz ?_; (case hD => exact News.get (by k_asm) (by k_mem)); (case ho => exact fun y hy => (by assumption : Ones _) y (pick_mem hy)); (case hz => exact Nat.le_trans (slicePick_size_le _ _ _ _) (by omega)); intro b9q t9q k9q)))
  trivial
/-- the turn of the loop -/
noncomputable abbrev CommK (d : List UInt8) (n e : Nat) (t u : Tok) (news : List (Addr × Obj)) : Nat → (Str → Option Value) → List (Addr × Obj) → Prop := fun r m₁ nx => ∃ (l : Addr) (xs : Array Value) (cap k dep e' : Nat) (u1 u2 : Tok), nx = (l, W.listOf xs cap) :: news ∧ (∀ p ∈ news, p.1 < l) ∧ m₁ "data" = some (.bytes d.toArray t) ∧ m₁ "begun" = some (.int (n : Int) u) ∧ m₁ "parts" = some (.ref l) ∧ m₁ "at" = some (.int (k : Int) u1) ∧ m₁ "depth" = some (.int (dep : Int) u2) ∧ r = d.length + 1 - k ∧ k ≤ d.length ∧ cLen dep ((nat d).drop k) = some e' ∧ k + e' = n + 1 + e ∧ Ones xs.toList ∧ xs.size ≤ k
theorem CommK.out {d : List UInt8} {n e : Nat} {t u : Tok} {news : List (Addr × Obj)} {M : Nat → (Str → Option Value) → List (Addr × Obj) → Prop} (h : ∀ (m₁ : Str → Option Value) (l : Addr) (xs : Array Value) (cap k dep e' : Nat) (u1 u2 : Tok), (∀ p ∈ news, p.1 < l) → m₁ "data" = some (.bytes d.toArray t) → m₁ "begun" = some (.int (n : Int) u) → m₁ "parts" = some (.ref l) → m₁ "at" = some (.int (k : Int) u1) → m₁ "depth" = some (.int (dep : Int) u2) → k ≤ d.length → cLen dep ((nat d).drop k) = some e' → k + e' = n + 1 + e → Ones xs.toList → xs.size ≤ k → M (d.length + 1 - k) m₁ ((l, W.listOf xs cap) :: news)) : ∀ r m₁ nx, CommK d n e t u news r m₁ nx → M r m₁ nx := by
  rintro r m₁ nx ⟨l, xs, cap, k, dep, e', u1, u2, rfl, hlt, hdt, hbg, hpt, hat, hdp, rfl, hk1, hk2, hk3, hon, hsz⟩
  exact h m₁ l xs cap k dep e' u1 u2 hlt hdt hbg hpt hat hdp hk1 hk2 hk3 hon hsz
theorem c_comment_at {w : World} (d : List UInt8) (n e : Nat) (t u : Tok) (hp : Plain (nat d)) (hz : d.length ≤ 1000) (hn : n < d.length) (he : cLen 1 ((nat d).drop (n + 1)) = some e) (news) : Spec w 3 109 [.bytes d.toArray t, .int (n : Int) u] news (fun v n' => ∃ T b t1 t2, v = .ref T ∧ n' = (T, { cls := .type "tuple", data := .seq #[.bytes (List.toArray b) t1, .int ((n + 1 + e : Nat) : Int) t2] }) :: news ∧ ∀ p ∈ news, p.1 < T) := by
  unfold Spec
  intro mean mg mb dp un gd cn cs a ccd cl outer A₀ base h₀ L m s Q E B F X N T hk hd hu hret
  have hzz : d.toArray.size = d.length := rfl
  refine wpAny_call ?_
  k_dflt cell_enter
  k_with "my while" => (k_here; ((with_reducible rename News _ _ _ ((_, _) :: _) => N0); refine While_inv2 (n₀ := d.length - n) (CommK d n e t u news) (by assumption) N0 ⟨_, _, _, n + 1, 1, e, _, _, rfl, by assumption, by (first | exact if_pos rfl | (refine Eq.trans (if_neg (by decide +kernel)) ?_; first | exact if_pos rfl | (refine Eq.trans (if_neg (by decide +kernel)) ?_; first | exact if_pos rfl | (refine Eq.trans (if_neg (by decide +kernel)) ?_; first | exact if_pos rfl | (refine Eq.trans (if_neg (by decide +kernel)) ?_; first | exact if_pos rfl | with_unfolding_all rfl)))) | with_unfolding_all rfl), by (first | exact if_pos rfl | (refine Eq.trans (if_neg (by decide +kernel)) ?_; first | exact if_pos rfl | (refine Eq.trans (if_neg (by decide +kernel)) ?_; first | exact if_pos rfl | (refine Eq.trans (if_neg (by decide +kernel)) ?_; first | exact if_pos rfl | (refine Eq.trans (if_neg (by decide +kernel)) ?_; first | exact if_pos rfl | with_unfolding_all rfl)))) | with_unfolding_all rfl), by (first | exact if_pos rfl | (refine Eq.trans (if_neg (by decide +kernel)) ?_; first | exact if_pos rfl | (refine Eq.trans (if_neg (by decide +kernel)) ?_; first | exact if_pos rfl | (refine Eq.trans (if_neg (by decide +kernel)) ?_; first | exact if_pos rfl | (refine Eq.trans (if_neg (by decide +kernel)) ?_; first | exact if_pos rfl | with_unfolding_all rfl)))) | with_unfolding_all rfl), by (first | exact if_pos rfl | (refine Eq.trans (if_neg (by decide +kernel)) ?_; first | exact if_pos rfl | (refine Eq.trans (if_neg (by decide +kernel)) ?_; first | exact if_pos rfl | (refine Eq.trans (if_neg (by decide +kernel)) ?_; first | exact if_pos rfl | (refine Eq.trans (if_neg (by decide +kernel)) ?_; first | exact if_pos rfl | with_unfolding_all rfl)))) | with_unfolding_all rfl), by (first | exact if_pos rfl | (refine Eq.trans (if_neg (by decide +kernel)) ?_; first | exact if_pos rfl | (refine Eq.trans (if_neg (by decide +kernel)) ?_; first | exact if_pos rfl | (refine Eq.trans (if_neg (by decide +kernel)) ?_; first | exact if_pos rfl | (refine Eq.trans (if_neg (by decide +kernel)) ?_; first | exact if_pos rfl | with_unfolding_all rfl)))) | with_unfolding_all rfl), by omega, by omega, he, rfl, (by unfold Ones; simp), by simp⟩ ?_; clear N0; refine curryK (CommK.out ?_); intro m₁ l xs cap k dep e' u1 u2 hlt hdt hbg hpt hat hdp hk1 hk2 hk3 hon hsz h₁ tk₁ F' N'; rcases dep with _ | dep; (case' succ => (obtain ⟨hk4, hk5, e2, hk6, hk7⟩ := cLen_step hk2; rw [nat_length] at hk4))))
  k_steps
  · rw [if_pos (by assumption)] at hk7
    exact ⟨_, _, _, _, d.length + 1 - (k + 1), rfl, by assumption, cb_drop (by assumption) (fun p hp => List.mem_cons_of_mem _ hp), by omega, l, _, _, k + 1, dep + 2, e2, _, _, rfl, hlt, by first | (with_reducible assumption) | exact if_pos rfl | (refine Eq.trans (if_neg (by decide +kernel)) ?_; first | (with_reducible assumption) | exact if_pos rfl | (refine Eq.trans (if_neg (by decide +kernel)) ?_; first | (with_reducible assumption) | exact if_pos rfl | (refine Eq.trans (if_neg (by decide +kernel)) ?_; first | (with_reducible assumption) | exact if_pos rfl | (refine Eq.trans (if_neg (by decide +kernel)) ?_; first | (with_reducible assumption) | exact if_pos rfl | (refine Eq.trans (if_neg (by decide +kernel)) ?_; first | (with_reducible assumption) | exact if_pos rfl | (refine Eq.trans (if_neg (by decide +kernel)) ?_; first | assumption | exact if_pos rfl | with_unfolding_all rfl)))))), by first | (with_reducible assumption) | exact if_pos rfl | (refine Eq.trans (if_neg (by decide +kernel)) ?_; first | (with_reducible assumption) | exact if_pos rfl | (refine Eq.trans (if_neg (by decide +kernel)) ?_; first | (with_reducible assumption) | exact if_pos rfl | (refine Eq.trans (if_neg (by decide +kernel)) ?_; first | (with_reducible assumption) | exact if_pos rfl | (refine Eq.trans (if_neg (by decide +kernel)) ?_; first | (with_reducible assumption) | exact if_pos rfl | (refine Eq.trans (if_neg (by decide +kernel)) ?_; first | (with_reducible assumption) | exact if_pos rfl | (refine Eq.trans (if_neg (by decide +kernel)) ?_; first | assumption | exact if_pos rfl | with_unfolding_all rfl)))))), by first | (with_reducible assumption) | exact if_pos rfl | (refine Eq.trans (if_neg (by decide +kernel)) ?_; first | (with_reducible assumption) | exact if_pos rfl | (refine Eq.trans (if_neg (by decide +kernel)) ?_; first | (with_reducible assumption) | exact if_pos rfl | (refine Eq.trans (if_neg (by decide +kernel)) ?_; first | (with_reducible assumption) | exact if_pos rfl | (refine Eq.trans (if_neg (by decide +kernel)) ?_; first | (with_reducible assumption) | exact if_pos rfl | (refine Eq.trans (if_neg (by decide +kernel)) ?_; first | (with_reducible assumption) | exact if_pos rfl | (refine Eq.trans (if_neg (by decide +kernel)) ?_; first | assumption | exact if_pos rfl | with_unfolding_all rfl)))))), by first | (with_reducible assumption) | exact if_pos rfl | (refine Eq.trans (if_neg (by decide +kernel)) ?_; first | (with_reducible assumption) | exact if_pos rfl | (refine Eq.trans (if_neg (by decide +kernel)) ?_; first | (with_reducible assumption) | exact if_pos rfl | (refine Eq.trans (if_neg (by decide +kernel)) ?_; first | (with_reducible assumption) | exact if_pos rfl | (refine Eq.trans (if_neg (by decide +kernel)) ?_; first | (with_reducible assumption) | exact if_pos rfl | (refine Eq.trans (if_neg (by decide +kernel)) ?_; first | (with_reducible assumption) | exact if_pos rfl | (refine Eq.trans (if_neg (by decide +kernel)) ?_; first | assumption | exact if_pos rfl | with_unfolding_all rfl)))))), by first | (with_reducible assumption) | exact if_pos rfl | exact (if_pos rfl).trans (congrArg some (congrArg (fun z => Value.int z _) (by omega))) | (refine Eq.trans (if_neg (by decide +kernel)) ?_; first | (with_reducible assumption) | exact if_pos rfl | exact (if_pos rfl).trans (congrArg some (congrArg (fun z => Value.int z _) (by omega))) | (refine Eq.trans (if_neg (by decide +kernel)) ?_; first | (with_reducible assumption) | exact if_pos rfl | exact (if_pos rfl).trans (congrArg some (congrArg (fun z => Value.int z _) (by omega))) | (refine Eq.trans (if_neg (by decide +kernel)) ?_; first | (with_reducible assumption) | exact if_pos rfl | exact (if_pos rfl).trans (congrArg some (congrArg (fun z => Value.int z _) (by omega))) | (refine Eq.trans (if_neg (by decide +kernel)) ?_; first | (with_reducible assumption) | exact if_pos rfl | exact (if_pos rfl).trans (congrArg some (congrArg (fun z => Value.int z _) (by omega))) | (refine Eq.trans (if_neg (by decide +kernel)) ?_; first | (with_reducible assumption) | exact if_pos rfl | exact (if_pos rfl).trans (congrArg some (congrArg (fun z => Value.int z _) (by omega))) | (refine Eq.trans (if_neg (by decide +kernel)) ?_; first | assumption | exact if_pos rfl | exact (if_pos rfl).trans (congrArg some (congrArg (fun z => Value.int z _) (by omega))) | with_unfolding_all rfl)))))), rfl, by omega, hk7, by omega, hon.push (by simp; omega), by rw [Array.size_push]; omega⟩
  · rw [if_neg (by assumption), if_pos (by assumption)] at hk7
    exact ⟨_, _, _, _, d.length + 1 - (k + 1), rfl, by assumption, cb_drop (by assumption) (fun p hp => List.mem_cons_of_mem _ hp), by omega, l, _, _, k + 1, dep, e2, _, _, rfl, hlt, by first | (with_reducible assumption) | exact if_pos rfl | (refine Eq.trans (if_neg (by decide +kernel)) ?_; first | (with_reducible assumption) | exact if_pos rfl | (refine Eq.trans (if_neg (by decide +kernel)) ?_; first | (with_reducible assumption) | exact if_pos rfl | (refine Eq.trans (if_neg (by decide +kernel)) ?_; first | (with_reducible assumption) | exact if_pos rfl | (refine Eq.trans (if_neg (by decide +kernel)) ?_; first | (with_reducible assumption) | exact if_pos rfl | (refine Eq.trans (if_neg (by decide +kernel)) ?_; first | (with_reducible assumption) | exact if_pos rfl | (refine Eq.trans (if_neg (by decide +kernel)) ?_; first | assumption | exact if_pos rfl | with_unfolding_all rfl)))))), by first | (with_reducible assumption) | exact if_pos rfl | (refine Eq.trans (if_neg (by decide +kernel)) ?_; first | (with_reducible assumption) | exact if_pos rfl | (refine Eq.trans (if_neg (by decide +kernel)) ?_; first | (with_reducible assumption) | exact if_pos rfl | (refine Eq.trans (if_neg (by decide +kernel)) ?_; first | (with_reducible assumption) | exact if_pos rfl | (refine Eq.trans (if_neg (by decide +kernel)) ?_; first | (with_reducible assumption) | exact if_pos rfl | (refine Eq.trans (if_neg (by decide +kernel)) ?_; first | (with_reducible assumption) | exact if_pos rfl | (refine Eq.trans (if_neg (by decide +kernel)) ?_; first | assumption | exact if_pos rfl | with_unfolding_all rfl)))))), by first | (with_reducible assumption) | exact if_pos rfl | (refine Eq.trans (if_neg (by decide +kernel)) ?_; first | (with_reducible assumption) | exact if_pos rfl | (refine Eq.trans (if_neg (by decide +kernel)) ?_; first | (with_reducible assumption) | exact if_pos rfl | (refine Eq.trans (if_neg (by decide +kernel)) ?_; first | (with_reducible assumption) | exact if_pos rfl | (refine Eq.trans (if_neg (by decide +kernel)) ?_; first | (with_reducible assumption) | exact if_pos rfl | (refine Eq.trans (if_neg (by decide +kernel)) ?_; first | (with_reducible assumption) | exact if_pos rfl | (refine Eq.trans (if_neg (by decide +kernel)) ?_; first | assumption | exact if_pos rfl | with_unfolding_all rfl)))))), by first | (with_reducible assumption) | exact if_pos rfl | (refine Eq.trans (if_neg (by decide +kernel)) ?_; first | (with_reducible assumption) | exact if_pos rfl | (refine Eq.trans (if_neg (by decide +kernel)) ?_; first | (with_reducible assumption) | exact if_pos rfl | (refine Eq.trans (if_neg (by decide +kernel)) ?_; first | (with_reducible assumption) | exact if_pos rfl | (refine Eq.trans (if_neg (by decide +kernel)) ?_; first | (with_reducible assumption) | exact if_pos rfl | (refine Eq.trans (if_neg (by decide +kernel)) ?_; first | (with_reducible assumption) | exact if_pos rfl | (refine Eq.trans (if_neg (by decide +kernel)) ?_; first | assumption | exact if_pos rfl | with_unfolding_all rfl)))))), by first | (with_reducible assumption) | exact if_pos rfl | exact (if_pos rfl).trans (congrArg some (congrArg (fun z => Value.int z _) (by omega))) | (refine Eq.trans (if_neg (by decide +kernel)) ?_; first | (with_reducible assumption) | exact if_pos rfl | exact (if_pos rfl).trans (congrArg some (congrArg (fun z => Value.int z _) (by omega))) | (refine Eq.trans (if_neg (by decide +kernel)) ?_; first | (with_reducible assumption) | exact if_pos rfl | exact (if_pos rfl).trans (congrArg some (congrArg (fun z => Value.int z _) (by omega))) | (refine Eq.trans (if_neg (by decide +kernel)) ?_; first | (with_reducible assumption) | exact if_pos rfl | exact (if_pos rfl).trans (congrArg some (congrArg (fun z => Value.int z _) (by omega))) | (refine Eq.trans (if_neg (by decide +kernel)) ?_; first | (with_reducible assumption) | exact if_pos rfl | exact (if_pos rfl).trans (congrArg some (congrArg (fun z => Value.int z _) (by omega))) | (refine Eq.trans (if_neg (by decide +kernel)) ?_; first | (with_reducible assumption) | exact if_pos rfl | exact (if_pos rfl).trans (congrArg some (congrArg (fun z => Value.int z _) (by omega))) | (refine Eq.trans (if_neg (by decide +kernel)) ?_; first | assumption | exact if_pos rfl | exact (if_pos rfl).trans (congrArg some (congrArg (fun z => Value.int z _) (by omega))) | with_unfolding_all rfl)))))), rfl, by omega, hk7, by omega, hon.push (by simp; omega), by rw [Array.size_push]; omega⟩
  · rw [if_neg (by assumption), if_neg (by assumption)] at hk7
    exact ⟨_, _, _, _, d.length + 1 - (k + 1), rfl, by assumption, cb_drop (by assumption) (fun p hp => List.mem_cons_of_mem _ hp), by omega, l, _, _, k + 1, dep + 1, e2, _, _, rfl, hlt, by first | (with_reducible assumption) | exact if_pos rfl | (refine Eq.trans (if_neg (by decide +kernel)) ?_; first | (with_reducible assumption) | exact if_pos rfl | (refine Eq.trans (if_neg (by decide +kernel)) ?_; first | (with_reducible assumption) | exact if_pos rfl | (refine Eq.trans (if_neg (by decide +kernel)) ?_; first | (with_reducible assumption) | exact if_pos rfl | (refine Eq.trans (if_neg (by decide +kernel)) ?_; first | (with_reducible assumption) | exact if_pos rfl | (refine Eq.trans (if_neg (by decide +kernel)) ?_; first | (with_reducible assumption) | exact if_pos rfl | (refine Eq.trans (if_neg (by decide +kernel)) ?_; first | assumption | exact if_pos rfl | with_unfolding_all rfl)))))), by first | (with_reducible assumption) | exact if_pos rfl | (refine Eq.trans (if_neg (by decide +kernel)) ?_; first | (with_reducible assumption) | exact if_pos rfl | (refine Eq.trans (if_neg (by decide +kernel)) ?_; first | (with_reducible assumption) | exact if_pos rfl | (refine Eq.trans (if_neg (by decide +kernel)) ?_; first | (with_reducible assumption) | exact if_pos rfl | (refine Eq.trans (if_neg (by decide +kernel)) ?_; first | (with_reducible assumption) | exact if_pos rfl | (refine Eq.trans (if_neg (by decide +kernel)) ?_; first | (with_reducible assumption) | exact if_pos rfl | (refine Eq.trans (if_neg (by decide +kernel)) ?_; first | assumption | exact if_pos rfl | with_unfolding_all rfl)))))), by first | (with_reducible assumption) | exact if_pos rfl | (refine Eq.trans (if_neg (by decide +kernel)) ?_; first | (with_reducible assumption) | exact if_pos rfl | (refine Eq.trans (if_neg (by decide +kernel)) ?_; first | (with_reducible assumption) | exact if_pos rfl | (refine Eq.trans (if_neg (by decide +kernel)) ?_; first | (with_reducible assumption) | exact if_pos rfl | (refine Eq.trans (if_neg (by decide +kernel)) ?_; first | (with_reducible assumption) | exact if_pos rfl | (refine Eq.trans (if_neg (by decide +kernel)) ?_; first | (with_reducible assumption) | exact if_pos rfl | (refine Eq.trans (if_neg (by decide +kernel)) ?_; first | assumption | exact if_pos rfl | with_unfolding_all rfl)))))), by first | (with_reducible assumption) | exact if_pos rfl | (refine Eq.trans (if_neg (by decide +kernel)) ?_; first | (with_reducible assumption) | exact if_pos rfl | (refine Eq.trans (if_neg (by decide +kernel)) ?_; first | (with_reducible assumption) | exact if_pos rfl | (refine Eq.trans (if_neg (by decide +kernel)) ?_; first | (with_reducible assumption) | exact if_pos rfl | (refine Eq.trans (if_neg (by decide +kernel)) ?_; first | (with_reducible assumption) | exact if_pos rfl | (refine Eq.trans (if_neg (by decide +kernel)) ?_; first | (with_reducible assumption) | exact if_pos rfl | (refine Eq.trans (if_neg (by decide +kernel)) ?_; first | assumption | exact if_pos rfl | with_unfolding_all rfl)))))), by first | (with_reducible assumption) | exact if_pos rfl | exact (if_pos rfl).trans (congrArg some (congrArg (fun z => Value.int z _) (by omega))) | (refine Eq.trans (if_neg (by decide +kernel)) ?_; first | (with_reducible assumption) | exact if_pos rfl | exact (if_pos rfl).trans (congrArg some (congrArg (fun z => Value.int z _) (by omega))) | (refine Eq.trans (if_neg (by decide +kernel)) ?_; first | (with_reducible assumption) | exact if_pos rfl | exact (if_pos rfl).trans (congrArg some (congrArg (fun z => Value.int z _) (by omega))) | (refine Eq.trans (if_neg (by decide +kernel)) ?_; first | (with_reducible assumption) | exact if_pos rfl | exact (if_pos rfl).trans (congrArg some (congrArg (fun z => Value.int z _) (by omega))) | (refine Eq.trans (if_neg (by decide +kernel)) ?_; first | (with_reducible assumption) | exact if_pos rfl | exact (if_pos rfl).trans (congrArg some (congrArg (fun z => Value.int z _) (by omega))) | (refine Eq.trans (if_neg (by decide +kernel)) ?_; first | (with_reducible assumption) | exact if_pos rfl | exact (if_pos rfl).trans (congrArg some (congrArg (fun z => Value.int z _) (by omega))) | (refine Eq.trans (if_neg (by decide +kernel)) ?_; first | assumption | exact if_pos rfl | exact (if_pos rfl).trans (congrArg some (congrArg (fun z => Value.int z _) (by omega))) | with_unfolding_all rfl)))))), rfl, by omega, hk7, by omega, hon.push (by simp; omega), by rw [Array.size_push]; omega⟩
  · have he0 : e' = 0 := by unfold cLen at hk2; exact (Option.some.inj hk2).symm
    subst he0
    obtain rfl : k = n + 1 + e := by omega
    exact hret _ _ _ _ (by assumption) (cb_drop (by assumption) fun p hp => by
      rcases List.mem_cons.mp hp with rfl | hp
      · exact .head _
      · exact .tail _ (.tail _ (.tail _ hp))) ⟨_, _, _, _, rfl, rfl, fun p hp => allLt_to (by first | assumption | exact (by assumption : _ ∧ _ ∧ AllLt _ _).2.2) p hp⟩

-- piece 35_token
theorem walk_35_token : twoK PySem.Challenge.rw_nz0311_01 MineH.hd.heap_1_39 := by k_fill; w_top off; trivial
theorem reg_35_token_0 : True := by
  k_with "L call ref" => ((k_here; (with_reducible show wpAny _ _ (call (Value.ref 109) _) _ _ _); k_dflt (refine' Spec.use (c_comment_at _ _ _ _ _ ?h1 ?h2 ?h3 ?h4 _) ?k1 ?k2 ?k3 ?k4 ?k5 ?k6q ?k7q ?k8q ?_; (case k1 => k_asm); (case k2 => k_asm); (case k3 => k_asm); (case k4 => k_asm); (case k5 => k_asm); (case k6q => first | exact rfl | assumption); (case k7q => ktr_room); (case k8q => ktr_units); (case h1 => assumption); (case h2 => assumption); (case h3 => first | assumption | omega); (case h4 => first | assumption | exact (by assumption : _ = 40 → _) (by assumption)); refine curry (elim4L ?_); intro T9q b9q t9q u9q lt9q h9q tk9q F9q N9q; (try k_lt lt9q); (try dsimp only))))
  trivial
noncomputable def signsN : List Nat := [60, 62, 64, 44, 59, 58, 46, 92]
/-- one token: its kind (0 atom, 1 sign, 2 comment), its worth, how many signs it takes -/
noncomputable def tokOne : List Nat → Option (Nat × List Nat × Nat)
  | [] => none
  | c :: r => if c = 34 then none else if c = 91 then none else if c = 40 then (cLen 1 r).map (fun e => (2, [], e + 1)) else if signsN.contains c = true then some (1, [c], 1)
    else if isAtomN c = true then some (0, (c :: r).takeWhile isAtomN, spanN isAtomN (c :: r)) else none
noncomputable def kindS (k : Nat) : Str := if k = 0 then "atom" else if k = 1 then "sign" else "comment"
/-- the token's tuple -/
noncomputable def tokObj (k : Nat) (b : List UInt8) (p : Int) (t1 t2 t3 : Tok) : Obj := { cls := .type "tuple", data := .seq #[.str (kindS k) t1, .bytes b.toArray t2, .int p t3] }
theorem cLen_le : ∀ (l : List Nat) (dep e : Nat), cLen dep l = some e → e ≤ l.length
  | _, 0, e, h => by unfold cLen at h; cases h; exact Nat.zero_le _
  | [], dep + 1, e, h => by unfold cLen at h; cases h
  | c :: r, dep + 1, e, h => by
    unfold cLen at h
    split at h
    · split at h
      · cases h
      · obtain ⟨e', he, rfl⟩ := Option.map_eq_some_iff.mp h
        exact Nat.succ_le_succ (cLen_le r _ _ he)
    · split at h
      · obtain ⟨e', he, rfl⟩ := Option.map_eq_some_iff.mp h
        exact Nat.succ_le_succ (cLen_le r _ _ he)
      · obtain ⟨e', he, rfl⟩ := Option.map_eq_some_iff.mp h
        exact Nat.succ_le_succ (cLen_le r _ _ he)
theorem take_span (p : Nat → Bool) (l : List Nat) : l.take (spanN p l) = l.takeWhile p := by
  unfold spanN
  exact (List.prefix_iff_eq_take.mp (List.takeWhile_prefix p)).symm
theorem span_le (p : Nat → Bool) (l : List Nat) : spanN p l ≤ l.length := (List.takeWhile_prefix p).length_le
theorem c_token_at {w : World} (d : List UInt8) (n k len : Nat) (wd : List Nat) (t u : Tok) (hp : Plain (nat d)) (hz : d.length ≤ 1000) (hn : n < d.length) (ht : tokOne ((nat d).drop n) = some (k, wd, len)) (news) : Spec w 4 123 [.bytes d.toArray t, .int (n : Int) u] news (fun v n' => ∃ T T1 b t1 t2 t3 t4, v = .ref T ∧ n' = (T, { cls := .type "tuple", data := .seq #[.ref T1, .int ((n + len : Nat) : Int) t1] }) :: (T1, tokObj k b n t2 t3 t4) :: news ∧ (k = 2 ∨ nat b = wd) ∧ 0 < len ∧ n + len ≤ d.length ∧ T1 < T ∧ (∀ p ∈ news, p.1 < T1)) := by
  unfold Spec
  intro mean mg mb dp un gd cn cs a ccd cl outer A₀ base h₀ L m s Q E B F X N T hk hd hu hret
  have hzz : d.toArray.size = d.length := rfl
  have hnn : n < (nat d).length := by rw [nat_length]; exact hn
  obtain ⟨hp1, hp2, hp3, hp4, hp5⟩ := hp.at hnn
  have he1 : nat ((d.drop n).take 1) = [(nat d).getD n 0] := by rw [nat_take, nat_drop, take1 hnn]
  rw [List.drop_eq_getElem_cons hnn, ← getD_at hnn] at ht
  obtain ⟨e, hC⟩ : ∃ e, (nat d).getD n 0 = 40 → cLen 1 ((nat d).drop (n + 1)) = some e := by
    by_cases h : (nat d).getD n 0 = 40
    · simp only [tokOne] at ht
      rw [if_neg hp3, if_neg hp4, if_pos h] at ht
      obtain ⟨e, he, -⟩ := Option.map_eq_some_iff.mp ht
      exact ⟨e, fun _ => he⟩
    · exact ⟨0, fun q => absurd q h⟩
  refine wpAny_call ?_
  k_dflt cell_enter
  k_steps
  all_goals simp only [tokOne] at ht
  · rw [if_neg hp3, if_neg hp4, if_pos (by assumption), hC (by assumption)] at ht
    obtain ⟨rfl, rfl, rfl⟩ : 2 = k ∧ [] = wd ∧ e + 1 = len := by
      have := Option.some.inj ht; simpa using this
    have hle := cLen_le _ _ _ (hC (by assumption))
    rw [List.length_drop, nat_length] at hle
    rw [show n + (e + 1) = n + 1 + e by omega] at hret
    exact hret _ _ _ _ (by assumption) (cb_drop (by assumption) fun p hp => by rcases List.mem_cons.mp hp with rfl | hp; exact .head _; rcases List.mem_cons.mp hp with rfl | hp; exact .tail _ (.head _); first | exact .tail _ (.tail _ hp) | exact .tail _ (.tail _ (.tail _ hp))) ⟨_, _, _, _, _, _, _, rfl, rfl, .inl rfl, by omega, by omega, by first | (with_reducible assumption) | exact And.left (b := _ ∧ AllLt _ _) (by assumption) | exact And.left (b := AllLt _ _) (by assumption), by first | (with_reducible assumption) | exact allLt_to (And.right (a := _ < _) (by assumption))⟩
  · rw [if_neg hp3, if_neg hp4, if_neg (by assumption), if_pos (by assumption)] at ht
    obtain ⟨rfl, rfl, rfl⟩ : 1 = k ∧ [(nat d).getD n 0] = wd ∧ 1 = len := by
      have := Option.some.inj ht; simpa using this
    exact hret _ _ _ _ (by assumption) (cb_drop (by assumption) fun p hp => by rcases List.mem_cons.mp hp with rfl | hp; exact .head _; rcases List.mem_cons.mp hp with rfl | hp; exact .tail _ (.head _); first | exact .tail _ (.tail _ hp) | exact .tail _ (.tail _ (.tail _ hp))) ⟨_, _, _, _, _, _, _, rfl, rfl, .inr he1, by omega, by omega, by first | (with_reducible assumption) | exact And.left (b := _ ∧ AllLt _ _) (by assumption) | exact And.left (b := AllLt _ _) (by assumption), by first | (with_reducible assumption) | exact allLt_to (And.right (a := _ < _) (by assumption))⟩
  · rw [if_neg hp3, if_neg hp4, if_neg (by assumption), if_neg (show ¬ signsN.contains ((nat d).getD n 0) = true from ne_true_of_eq_false (by assumption)), if_pos (by assumption), getD_at hnn, ← List.drop_eq_getElem_cons hnn] at ht
    obtain ⟨rfl, rfl, rfl⟩ : 0 = k ∧ ((nat d).drop n).takeWhile isAtomN = wd ∧ spanN isAtomN ((nat d).drop n) = len := by
      have := Option.some.inj ht; simpa using this
    have hle := span_le isAtomN ((nat d).drop n)
    rw [List.length_drop, nat_length] at hle
    have hpos : 0 < spanN isAtomN ((nat d).drop n) := by
      have := span_yes hnn (p := isAtomN) (by assumption); omega
    exact hret _ _ _ _ (by assumption) (cb_drop (by assumption) fun p hp => by rcases List.mem_cons.mp hp with rfl | hp; exact .head _; rcases List.mem_cons.mp hp with rfl | hp; exact .tail _ (.head _); first | exact .tail _ (.tail _ hp) | exact .tail _ (.tail _ (.tail _ hp))) ⟨_, _, _, _, _, _, _, rfl, rfl, .inr (by rw [nat_take, nat_drop, take_span]), hpos, by omega, by first | (with_reducible assumption) | exact And.left (b := _ ∧ AllLt _ _) (by assumption) | exact And.left (b := AllLt _ _) (by assumption), by first | (with_reducible assumption) | exact allLt_to (And.right (a := _ < _) (by assumption))⟩
  · rw [if_neg hp3, if_neg hp4, if_neg (by assumption), if_neg (show ¬ signsN.contains ((nat d).getD n 0) = true from ne_true_of_eq_false (by assumption)), if_neg (show ¬ isAtomN ((nat d).getD n 0) = true from ne_true_of_eq_false (by assumption))] at ht
    cases ht

-- piece 36_tokens
theorem walk_36_tokens : twoK PySem.Challenge.rw_nz0311_01 MineH.hd.heap_1_39 := by k_fill; w_top off; trivial
theorem c_past0 {w : World} (d : List UInt8) (t u : Tok) (hp : Plain (nat d)) (hz : d.length ≤ 1000) (news) : Spec w 2 130 [.bytes d.toArray t, .int 0 u] news (fun v n' => (∃ t', v = .int ((0 + spanN isWhite ((nat d).drop 0) : Nat) : Int) t') ∧ n' = news) := c_past d 0 t u hp hz (Nat.zero_le _) news
theorem reg_36_tokens_0 : True := by
  k_with "L call ref" => ((k_here; (with_reducible show wpAny _ _ (call (Value.ref 130) _) _ _ _); k_dflt (refine' Spec.use (c_past0 _ _ _ ?h1 ?h2 _) ?k1 ?k2 ?k3 ?k4 ?k5 ?k6q ?k7q ?k8q ?_; (case k1 => k_asm); (case k2 => k_asm); (case k3 => k_asm); (case k4 => k_asm); (case k5 => k_asm); (case k6q => first | exact rfl | assumption); (case k7q => ktr_room); (case k8q => ktr_units); (case h1 => assumption); (case h2 => assumption); refine curry (elimA ?_); intro t9q h9q tk9q F9q N9q; (try dsimp only))))
  k_with "L call ref" => ((k_here; (with_reducible show wpAny _ _ (call (Value.ref 123) _) _ _ _); k_dflt (refine' Spec.use (c_token_at _ _ _ _ _ _ _ ?h1 ?h2 ?h3 ?h4 _) ?k1 ?k2 ?k3 ?k4 ?k5 ?k6q ?k7q ?k8q ?_; (case k1 => k_asm); (case k2 => k_asm); (case k3 => k_asm); (case k4 => k_asm); (case k5 => k_asm); (case k6q => first | exact rfl | assumption); (case k7q => ktr_room); (case k8q => ktr_units); (case h1 => assumption); (case h2 => assumption); (case h3 => first | assumption | omega); (case h4 => assumption); refine curry (elimT ?_); intro T9q S9q b9q t9q u9q x9q y9q wd9q pos9q le9q lt9q lt8q h9q tk9q F9q N9q; (try k_lt lt8q); (try k_lt2 lt9q); (try dsimp only))))
  trivial
/-- the tokens of a text that begins with no white -/
noncomputable def lexG : Nat → List Nat → Option (List (Nat × List Nat))
  | 0, _ => none
  | f + 1, l => if l = [] then some [] else match tokOne l with
    | none => none
    | some (k, wd, n) => (lexG f ((l.drop n).dropWhile isWhite)).map ((k, wd) :: ·)
noncomputable def lexN (l : List Nat) : Option (List (Nat × List Nat)) := lexG (l.length + 1) (l.dropWhile isWhite)
theorem lexG_step {f : Nat} {l : List Nat} {post : List (Nat × List Nat)} (h : lexG f l = some post) (hl : l ≠ []) : ∃ f' kk wd len post', f = f' + 1 ∧ tokOne l = some (kk, wd, len) ∧ post = (kk, wd) :: post' ∧ lexG f' ((l.drop len).dropWhile isWhite) = some post' := by
  cases f with
  | zero => cases h
  | succ f =>
    unfold lexG at h
    rw [if_neg hl] at h
    split at h
    · cases h
    · rename_i kk wd len ht
      obtain ⟨post', hp, rfl⟩ := Option.map_eq_some_iff.mp h
      exact ⟨f, kk, wd, len, post', rfl, ht, rfl, hp⟩
theorem lexG_nil {f : Nat} {post : List (Nat × List Nat)} (h : lexG f [] = some post) : post = [] := by
  cases f with
  | zero => cases h
  | succ f => unfold lexG at h; rw [if_pos rfl] at h; exact (Option.some.inj h).symm
theorem drop_ne {l : List Nat} {k : Nat} (h : k < l.length) : l.drop k ≠ [] := fun e => by
  have := congrArg List.length e; rw [List.length_drop] at this; simp at this; omega
/-- a token in the ledger -/
noncomputable def TokIn (news : List (Addr × Obj)) (tk : Nat × List Nat) (y : Value) : Prop := ∃ T b p t1 t2 t3, y = .ref T ∧ (T, tokObj tk.1 b p t1 t2 t3) ∈ news ∧ (tk.1 = 2 ∨ nat b = tk.2)
theorem TokIn.mono {news news' : List (Addr × Obj)} {tk : Nat × List Nat} {y : Value} (h : TokIn news tk y) (s : ∀ p ∈ news, p ∈ news') : TokIn news' tk y := by
  obtain ⟨T, b, p, t1, t2, t3, e, hm, hw⟩ := h
  exact ⟨T, b, p, t1, t2, t3, e, s _ hm, hw⟩
theorem drop_span (p : Nat → Bool) : ∀ l : List Nat, l.drop (spanN p l) = l.dropWhile p
  | [] => rfl
  | a :: r => by
    unfold spanN
    rw [List.takeWhile_cons, List.dropWhile_cons]
    split
    · rw [List.length_cons, List.drop_succ_cons]; exact drop_span p r
    · rfl
theorem drop_next (p : Nat → Bool) (l : List Nat) (k : Nat) : l.drop (k + spanN p (l.drop k)) = (l.drop k).dropWhile p := by
  rw [← List.drop_drop, drop_span]
theorem mem_swap {α : Type} {a b c : α} {x : List α} : ∀ p ∈ c :: b :: x, p ∈ a :: b :: c :: x := by
  intro p hp
  rcases List.mem_cons.mp hp with rfl | hp
  · exact .tail _ (.tail _ (.head _))
  · rcases List.mem_cons.mp hp with rfl | hp
    · exact .tail _ (.head _)
    · exact .tail _ (.tail _ (.tail _ hp))
/-- an equation that the walk must not use -/
noncomputable def Held (p : Prop) : Prop := p
theorem held {p : Prop} (h : p) : Held p := h
theorem tok_lt {T : Addr} {o : Obj} {x tks news : List (Addr × Obj)} (h : AllLt T x) (e : Held (x = tks ++ news)) (r : Held (∀ q ∈ news, ∀ p ∈ tks, q.1 < p.1)) : ∀ q ∈ news, ∀ p ∈ (T, o) :: tks, q.1 < p.1 := by
  intro q hq p hp
  have e' : x = tks ++ news := e
  rcases List.mem_cons.mp hp with rfl | hp
  · exact allLt_to h q (by rw [e']; exact List.mem_append_right _ hq)
  · exact r q hq p hp
/-- the turn of the loop -/
noncomputable abbrev TokK (d : List UInt8) (t : Tok) (toks : List (Nat × List Nat)) (news : List (Addr × Obj)) : Nat → (Str → Option Value) → List (Addr × Obj) → Prop := fun r m₁ nx => ∃ (l : Addr) (xs : Array Value) (cap k f : Nat) (u1 : Tok) (x tks : List (Addr × Obj)) (pre post : List (Nat × List Nat)), nx = (l, W.listOf xs cap) :: x ∧ Held (x = tks ++ news) ∧ (∀ p ∈ x, p.1 ≠ l) ∧ (∀ p ∈ news, p.1 < l) ∧ m₁ "octets" = some (.bytes d.toArray t) ∧ m₁ "found" = some (.ref l) ∧ m₁ "at" = some (.int (k : Int) u1) ∧ r = d.length + 1 - k ∧ k ≤ d.length ∧ lexG f ((nat d).drop k) = some post ∧ toks = pre ++ post ∧ All2 (TokIn tks) pre xs.toList ∧ xs.size ≤ k ∧ Held (∀ q ∈ news, ∀ p ∈ tks, q.1 < p.1)
theorem TokK.out {d : List UInt8} {t : Tok} {toks : List (Nat × List Nat)} {news : List (Addr × Obj)} {M : Nat → (Str → Option Value) → List (Addr × Obj) → Prop} (h : ∀ (m₁ : Str → Option Value) (l : Addr) (xs : Array Value) (cap k f : Nat) (u1 : Tok) (x tks : List (Addr × Obj)) (pre post : List (Nat × List Nat)), Held (x = tks ++ news) → (∀ p ∈ x, p.1 ≠ l) → (∀ p ∈ news, p.1 < l) → m₁ "octets" = some (.bytes d.toArray t) → m₁ "found" = some (.ref l) → m₁ "at" = some (.int (k : Int) u1) → k ≤ d.length → lexG f ((nat d).drop k) = some post → toks = pre ++ post → All2 (TokIn tks) pre xs.toList → xs.size ≤ k → Held (∀ q ∈ news, ∀ p ∈ tks, q.1 < p.1) → M (d.length + 1 - k) m₁ ((l, W.listOf xs cap) :: x)) : ∀ r m₁ nx, TokK d t toks news r m₁ nx → M r m₁ nx := by
  rintro r m₁ nx ⟨l, xs, cap, k, f, u1, x, tks, pre, post, rfl, hsub, hoff, hlt, hdt, hpt, hat, rfl, hk1, hlx, htk, hall, hsz, hlt2⟩
  exact h m₁ l xs cap k f u1 x tks pre post hsub hoff hlt hdt hpt hat hk1 hlx htk hall hsz hlt2
theorem c_tokens_of {w : World} (d : List UInt8) (t : Tok) (toks : List (Nat × List Nat)) (hp : Plain (nat d)) (hz : d.length ≤ 1000) (hl : lexN (nat d) = some toks) (news) : Spec w 5 137 [.bytes d.toArray t] news (fun v n' => ∃ l xs cap x tk, v = .ref l ∧ n' = (l, W.listOf xs cap) :: x ∧ x = tk ++ news ∧ All2 (TokIn tk) toks xs.toList ∧ xs.size ≤ d.length ∧ (∀ p ∈ x, p.1 ≠ l) ∧ (∀ p ∈ news, p.1 < l) ∧ Held (∀ q ∈ news, ∀ p ∈ tk, q.1 < p.1)) := by
  unfold Spec
  intro mean mg mb dp un gd cn cs a ccd cl outer A₀ base h₀ L m s Q E B F X N T hk hd hu hret
  have hzz : d.toArray.size = d.length := rfl
  have hs0 := span_le isWhite ((nat d).drop 0)
  have hl' : lexG ((nat d).length + 1) (((nat d).drop 0).dropWhile isWhite) = some toks := hl
  rw [List.drop_zero, nat_length] at hs0
  refine wpAny_call ?_
  k_dflt cell_enter
  k_with "my while" => (k_here; ((with_reducible rename News _ _ _ ((_, _) :: _) => N0); refine While_inv2 (n₀ := d.length + 1 - (0 + spanN isWhite ((nat d).drop 0))) (TokK d t toks news) (by assumption) N0 ⟨_, _, _, 0 + spanN isWhite ((nat d).drop 0), (nat d).length + 1, _, news, [], [], toks, rfl, held (List.nil_append _).symm, ne_of_lts (by assumption), by assumption, by first | (with_reducible assumption) | exact if_pos rfl | (refine Eq.trans (if_neg (by decide +kernel)) ?_; first | (with_reducible assumption) | exact if_pos rfl | (refine Eq.trans (if_neg (by decide +kernel)) ?_; first | (with_reducible assumption) | exact if_pos rfl | (refine Eq.trans (if_neg (by decide +kernel)) ?_; first | (with_reducible assumption) | exact if_pos rfl | (refine Eq.trans (if_neg (by decide +kernel)) ?_; first | (with_reducible assumption) | exact if_pos rfl | (refine Eq.trans (if_neg (by decide +kernel)) ?_; first | (with_reducible assumption) | exact if_pos rfl | (refine Eq.trans (if_neg (by decide +kernel)) ?_; first | assumption | exact if_pos rfl | with_unfolding_all rfl) | with_unfolding_all rfl) | with_unfolding_all rfl) | with_unfolding_all rfl) | with_unfolding_all rfl) | with_unfolding_all rfl) | with_unfolding_all rfl, by first | (with_reducible assumption) | exact if_pos rfl | (refine Eq.trans (if_neg (by decide +kernel)) ?_; first | (with_reducible assumption) | exact if_pos rfl | (refine Eq.trans (if_neg (by decide +kernel)) ?_; first | (with_reducible assumption) | exact if_pos rfl | (refine Eq.trans (if_neg (by decide +kernel)) ?_; first | (with_reducible assumption) | exact if_pos rfl | (refine Eq.trans (if_neg (by decide +kernel)) ?_; first | (with_reducible assumption) | exact if_pos rfl | (refine Eq.trans (if_neg (by decide +kernel)) ?_; first | (with_reducible assumption) | exact if_pos rfl | (refine Eq.trans (if_neg (by decide +kernel)) ?_; first | assumption | exact if_pos rfl | with_unfolding_all rfl) | with_unfolding_all rfl) | with_unfolding_all rfl) | with_unfolding_all rfl) | with_unfolding_all rfl) | with_unfolding_all rfl) | with_unfolding_all rfl, by first | (with_reducible assumption) | exact if_pos rfl | (refine Eq.trans (if_neg (by decide +kernel)) ?_; first | (with_reducible assumption) | exact if_pos rfl | (refine Eq.trans (if_neg (by decide +kernel)) ?_; first | (with_reducible assumption) | exact if_pos rfl | (refine Eq.trans (if_neg (by decide +kernel)) ?_; first | (with_reducible assumption) | exact if_pos rfl | (refine Eq.trans (if_neg (by decide +kernel)) ?_; first | (with_reducible assumption) | exact if_pos rfl | (refine Eq.trans (if_neg (by decide +kernel)) ?_; first | (with_reducible assumption) | exact if_pos rfl | (refine Eq.trans (if_neg (by decide +kernel)) ?_; first | assumption | exact if_pos rfl | with_unfolding_all rfl) | with_unfolding_all rfl) | with_unfolding_all rfl) | with_unfolding_all rfl) | with_unfolding_all rfl) | with_unfolding_all rfl) | with_unfolding_all rfl, rfl, by (rw [List.drop_zero]; omega), by (rw [drop_next]; exact hl'), rfl, .nil, by simp, held fun _ _ _ hp => nomatch hp⟩ ?_; clear N0; refine curryK (TokK.out ?_); intro m₁ l xs cap k f u1 x tks pre post hsub hoff hlt hdt hpt hat hk1 hlx htk hall hsz hlt2 h₁ tk₁ F' N'; rcases Nat.lt_or_ge k d.length with hk2 | hk2; (case' inl => (obtain ⟨f', kk, wd, len, post', rfl, hto, rfl, hlx'⟩ := lexG_step hlx (drop_ne (by rw [nat_length]; exact hk2))))))
  k_steps
  · have hsp := span_le isWhite ((nat d).drop (k + len))
    rw [List.length_drop, nat_length] at hsp
    rw [List.drop_drop] at hlx'
    exact ⟨_, _, _, _, d.length + 1 - (k + len + spanN isWhite ((nat d).drop (k + len))), rfl, by assumption, cb_drop (by assumption) mem_swap, by omega, l, _, _, k + len + spanN isWhite ((nat d).drop (k + len)), f', _, _, _ :: tks, pre ++ [(kk, wd)], post', rfl, congrArg (_ :: ·) hsub, List.forall_mem_cons.mpr ⟨Nat.ne_of_gt (And.left (b := AllLt _ x) (by assumption)), hoff⟩, hlt, by first | (with_reducible assumption) | exact if_pos rfl | (refine Eq.trans (if_neg (by decide +kernel)) ?_; first | (with_reducible assumption) | exact if_pos rfl | (refine Eq.trans (if_neg (by decide +kernel)) ?_; first | (with_reducible assumption) | exact if_pos rfl | (refine Eq.trans (if_neg (by decide +kernel)) ?_; first | (with_reducible assumption) | exact if_pos rfl | (refine Eq.trans (if_neg (by decide +kernel)) ?_; first | (with_reducible assumption) | exact if_pos rfl | (refine Eq.trans (if_neg (by decide +kernel)) ?_; first | (with_reducible assumption) | exact if_pos rfl | (refine Eq.trans (if_neg (by decide +kernel)) ?_; first | assumption | exact if_pos rfl | with_unfolding_all rfl) | with_unfolding_all rfl) | with_unfolding_all rfl) | with_unfolding_all rfl) | with_unfolding_all rfl) | with_unfolding_all rfl) | with_unfolding_all rfl, by first | (with_reducible assumption) | exact if_pos rfl | (refine Eq.trans (if_neg (by decide +kernel)) ?_; first | (with_reducible assumption) | exact if_pos rfl | (refine Eq.trans (if_neg (by decide +kernel)) ?_; first | (with_reducible assumption) | exact if_pos rfl | (refine Eq.trans (if_neg (by decide +kernel)) ?_; first | (with_reducible assumption) | exact if_pos rfl | (refine Eq.trans (if_neg (by decide +kernel)) ?_; first | (with_reducible assumption) | exact if_pos rfl | (refine Eq.trans (if_neg (by decide +kernel)) ?_; first | (with_reducible assumption) | exact if_pos rfl | (refine Eq.trans (if_neg (by decide +kernel)) ?_; first | assumption | exact if_pos rfl | with_unfolding_all rfl) | with_unfolding_all rfl) | with_unfolding_all rfl) | with_unfolding_all rfl) | with_unfolding_all rfl) | with_unfolding_all rfl) | with_unfolding_all rfl, by first | (with_reducible assumption) | exact if_pos rfl | (refine Eq.trans (if_neg (by decide +kernel)) ?_; first | (with_reducible assumption) | exact if_pos rfl | (refine Eq.trans (if_neg (by decide +kernel)) ?_; first | (with_reducible assumption) | exact if_pos rfl | (refine Eq.trans (if_neg (by decide +kernel)) ?_; first | (with_reducible assumption) | exact if_pos rfl | (refine Eq.trans (if_neg (by decide +kernel)) ?_; first | (with_reducible assumption) | exact if_pos rfl | (refine Eq.trans (if_neg (by decide +kernel)) ?_; first | (with_reducible assumption) | exact if_pos rfl | (refine Eq.trans (if_neg (by decide +kernel)) ?_; first | assumption | exact if_pos rfl | with_unfolding_all rfl) | with_unfolding_all rfl) | with_unfolding_all rfl) | with_unfolding_all rfl) | with_unfolding_all rfl) | with_unfolding_all rfl) | with_unfolding_all rfl, rfl, by omega, by (rw [drop_next]; exact hlx'), by simp [htk], by (rw [Array.toList_push]; exact All2.snoc ⟨_, _, _, _, _, _, rfl, .head _, by assumption⟩ (hall.imp fun a b h => h.mono fun p hp => .tail _ hp)), by rw [Array.size_push]; omega, held (tok_lt (And.right (a := _ < _) (by assumption)) hsub hlt2)⟩
  · rw [List.drop_eq_nil_of_le (by rw [nat_length]; exact hk2)] at hlx
    obtain rfl := lexG_nil hlx
    rw [List.append_nil] at htk
    subst htk
    exact hret _ _ _ _ (by assumption) (by assumption) ⟨l, xs, cap, x, tks, rfl, rfl, hsub, hall, by omega, hoff, hlt, hlt2⟩

theorem reg_36_tokens_1 : True := by
  k_with "L call ref" => ((k_here; (with_reducible show wpAny _ _ (call (Value.ref 137) _) _ _ _); k_dflt (refine' Spec.use (c_tokens_of _ _ _ ?h1 ?h2 ?h3 _) ?k1 ?k2 ?k3 ?k4 ?k5 ?k6q ?k7q ?k8q ?_; (case k1 => k_asm); (case k2 => k_asm); (case k3 => k_asm); (case k4 => k_asm); (case k5 => k_asm); (case k6q => first | exact rfl | assumption); (case k7q => ktr_room); (case k8q => ktr_units); (case h1 => assumption); (case h2 => assumption); (case h3 => assumption); rintro v9q n9q h9q tk9q F9q N9q ⟨l9q, xs9q, cap9q, x9q, tks9q, e9q, e8q, sub9q, all9q, sz9q, off9q, lt9q, lt8q⟩; subst n9q; subst v9q; (try dsimp only))))
  trivial
-- piece 40_cal
theorem walk_40_cal : twoK PySem.Challenge.rw_nz0311_01 MineH.hd.heap_1_39 := by k_fill; w_top off; trivial
noncomputable def leapI (y : Int) : Bool := y.fmod 4 == 0 && (y.fmod 100 != 0 || y.fmod 400 == 0)
noncomputable def monthLen (y m : Int) : Int := if m = 2 then (if leapI y then 29 else 28) else if [4, 6, 9, 11].any (fun x => x == m) then 30 else 31
noncomputable def isDayI (y m d : Int) : Bool := decide (1 ≤ y ∧ y ≤ 9999 ∧ 1 ≤ m ∧ m ≤ 12 ∧ 1 ≤ d ∧ d ≤ monthLen y m)
noncomputable def isTimeI (h m s : Int) : Bool := decide (0 ≤ h ∧ h ≤ 23 ∧ 0 ≤ m ∧ m ≤ 59 ∧ 0 ≤ s ∧ s ≤ 60)
noncomputable def fullYear (n f : Int) : Int := if f = 2 then (if n < 50 then n + 2000 else n + 1900) else if f = 3 then n + 1900 else n
theorem c_leap {w : World} (y : Int) (t : Tok) (news) : Spec w 1 179 [.int y t] news (fun v n' => v = .bool (leapI y) ∧ n' = news) := by
  unfold Spec
  intro mean mg mb dp un gd cn cs a ccd cl outer A₀ base h₀ L m s Q E B F X N T hk hd hu hret
  obtain ⟨sh, sg, sd, st, so⟩ := s
  dsimp only at F N hret
  refine wpAny_call ?_
  k_dflt cell_enter
  k_steps
  all_goals (refine hret _ _ _ _ (by assumption) (by assumption) ⟨congrArg Value.bool ?_, rfl⟩; unfold leapI; simp [*])
theorem reg_40_cal_0 : True := by
  k_with "L call ref" => ((k_here; (with_reducible show wpAny _ _ (call (Value.ref 179) _) _ _ _); k_dflt (refine' Spec.use (c_leap _ _ _) ?k1 ?k2 ?k3 ?k4 ?k5 ?k6q ?k7q ?k8q ?_; (case k1 => k_asm); (case k2 => k_asm); (case k3 => k_asm); (case k4 => k_asm); (case k5 => k_asm); (case k6q => first | exact rfl | assumption); (case k7q => ktr_room); (case k8q => ktr_units);  refine curry (elimB ?_); intro h9q tk9q F9q N9q; (try dsimp only))))
  trivial
theorem c_month_length {w : World} (y m : Int) (t t1 : Tok) (news) : Spec w 2 186 [.int y t, .int m t1] news (fun v n' => (∃ t', v = .int (monthLen y m) t') ∧ n' = news) := by
  unfold Spec
  intro mean mg mb dp un gd cn cs a ccd cl outer A₀ base h₀ L m s Q E B F X N T hk hd hu hret
  obtain ⟨sh, sg, sd, st, so⟩ := s
  dsimp only at F N hret
  refine wpAny_call ?_
  k_dflt cell_enter
  k_steps
  all_goals (refine hret _ _ _ _ (by assumption) (by first | assumption | exact cb_drop (by assumption) fun p hp => List.mem_cons_of_mem _ hp) ⟨⟨_, congrArg (fun z => Value.int z _) ?_⟩, rfl⟩; unfold monthLen; simp [*])
theorem reg_40_cal_1 : True := by
  k_with "L call ref" => ((k_here; (with_reducible show wpAny _ _ (call (Value.ref 186) _) _ _ _); k_dflt (refine' Spec.use (c_month_length _ _ _ _ _) ?k1 ?k2 ?k3 ?k4 ?k5 ?k6q ?k7q ?k8q ?_; (case k1 => k_asm); (case k2 => k_asm); (case k3 => k_asm); (case k4 => k_asm); (case k5 => k_asm); (case k6q => first | exact rfl | assumption); (case k7q => ktr_room); (case k8q => ktr_units);  refine curry (elimA ?_); intro t9q h9q tk9q F9q N9q; (try dsimp only))))
  trivial
theorem c_is_day {w : World} (y m d : Int) (t t1 t2 : Tok) (news) : Spec w 3 193 [.int y t, .int m t1, .int d t2] news (fun v n' => v = .bool (isDayI y m d) ∧ n' = news) := by
  unfold Spec
  intro mean mg mb dp un gd cn cs a ccd cl outer A₀ base h₀ L m s Q E B F X N T hk hd hu hret
  obtain ⟨sh, sg, sd, st, so⟩ := s
  dsimp only at F N hret
  refine wpAny_call ?_
  k_dflt cell_enter
  k_steps
  all_goals (refine hret _ _ _ _ (by assumption) (by assumption) ⟨congrArg Value.bool ?_, rfl⟩; unfold isDayI; rw [Bool.eq_iff_iff]; simp only [decide_eq_true_eq]; (try generalize monthLen _ _ = ml at *); omega)
theorem reg_40_cal_2 : True := by
  k_with "L call ref" => ((k_here; (with_reducible show wpAny _ _ (call (Value.ref 193) _) _ _ _); k_dflt (refine' Spec.use (c_is_day _ _ _ _ _ _ _) ?k1 ?k2 ?k3 ?k4 ?k5 ?k6q ?k7q ?k8q ?_; (case k1 => k_asm); (case k2 => k_asm); (case k3 => k_asm); (case k4 => k_asm); (case k5 => k_asm); (case k6q => first | exact rfl | assumption); (case k7q => ktr_room); (case k8q => ktr_units);  refine curry (elimB ?_); intro h9q tk9q F9q N9q; (try dsimp only))))
  trivial
theorem c_is_time {w : World} (h m s : Int) (t t1 t2 : Tok) (news) : Spec w 1 200 [.int h t, .int m t1, .int s t2] news (fun v n' => v = .bool (isTimeI h m s) ∧ n' = news) := by
  unfold Spec
  intro mean mg mb dp un gd cn cs a ccd cl outer A₀ base h₀ L m s Q E B F X N T hk hd hu hret
  obtain ⟨sh, sg, sd, st, so⟩ := s
  dsimp only at F N hret
  refine wpAny_call ?_
  k_dflt cell_enter
  k_steps
  all_goals (refine hret _ _ _ _ (by assumption) (by assumption) ⟨congrArg Value.bool ?_, rfl⟩; unfold isTimeI; rw [Bool.eq_iff_iff]; simp only [decide_eq_true_eq]; omega)
theorem reg_40_cal_3 : True := by
  k_with "L call ref" => ((k_here; (with_reducible show wpAny _ _ (call (Value.ref 200) _) _ _ _); k_dflt (refine' Spec.use (c_is_time _ _ _ _ _ _ _) ?k1 ?k2 ?k3 ?k4 ?k5 ?k6q ?k7q ?k8q ?_; (case k1 => k_asm); (case k2 => k_asm); (case k3 => k_asm); (case k4 => k_asm); (case k5 => k_asm); (case k6q => first | exact rfl | assumption); (case k7q => ktr_room); (case k8q => ktr_units);  refine curry (elimB ?_); intro h9q tk9q F9q N9q; (try dsimp only))))
  trivial
theorem c_full_year {w : World} (n f : Int) (t t1 : Tok) (hn : 0 ≤ n) (hn2 : n < 100000) (news) : Spec w 1 288 [.int n t, .int f t1] news (fun v n' => (∃ t', v = .int (fullYear n f) t') ∧ n' = news) := by
  unfold Spec
  intro mean mg mb dp un gd cn cs a ccd cl outer A₀ base h₀ L m s Q E B F X N T hk hd hu hret
  obtain ⟨sh, sg, sd, st, so⟩ := s
  dsimp only at F N hret
  refine wpAny_call ?_
  k_dflt cell_enter
  k_steps
  all_goals (refine hret _ _ _ _ (by assumption) (by assumption) ⟨⟨_, congrArg (fun z => Value.int z _) ?_⟩, rfl⟩; unfold fullYear; simp [*])

theorem reg_40_cal_4 : True := by
  k_with "L call ref" => ((k_here; (with_reducible show wpAny _ _ (call (Value.ref 288) _) _ _ _); k_dflt (refine' Spec.use (c_full_year _ _ _ _ ?h1 ?h2 _) ?k1 ?k2 ?k3 ?k4 ?k5 ?k6q ?k7q ?k8q ?_; (case k1 => k_asm); (case k2 => k_asm); (case k3 => k_asm); (case k4 => k_asm); (case k5 => k_asm); (case k6q => first | exact rfl | assumption); (case k7q => ktr_room); (case k8q => ktr_units); (case h1 => first | assumption | omega); (case h2 => first | assumption | omega); refine curry (elimA ?_); intro t9q h9q tk9q F9q N9q; (try dsimp only))))
  trivial
-- piece 41_fig
theorem walk_41_fig : twoK PySem.Challenge.rw_nz0311_01 MineH.hd.heap_1_39 := by k_fill; w_top off; trivial
section
variable {prog : Program} {w : World} {A : Around} {E : Value → Shared → Prop} {s : Shared} {h₀ : Heap} {L : Addr} {m : Str → Option Value} {news : List (Addr × Obj)} {D l : Addr} {ys : List Value} {Q : Value → Shared → Prop}
theorem eq_nil (N : News h₀ L s.heap news) (h1 : (D, lst ys) ∈ news) (h2 : (l, W.listOf #[] 0) ∈ news) (hu : A.units < cLine) (h : Q (.bool ys.isEmpty) s) : wpAny (model prog w) A (compareOp .Eq (.ref D) (.ref l)) Q E s := by
  have i1 : s.heap.IsList D ys.toArray := ⟨_, (N _ h1).1, rfl, _, rfl⟩
  have i2 : s.heap.IsList l #[] := ⟨_, (N _ h2).1, rfl, _, rfl⟩
  cases ys with
  | nil => exact SeqAt.eq_listAt (e := fun _ => true) i1 i2 rfl hu (fun j h => absurd h (Nat.not_lt_zero _)) h
  | cons y r => exact SeqAt.eq_list_lengthsAt i1 i2 (by simp) hu h
theorem ne_nil (N : News h₀ L s.heap news) (h1 : (D, lst ys) ∈ news) (h2 : (l, W.listOf #[] 0) ∈ news) (hu : A.units < cLine) (h : Q (.bool (!ys.isEmpty)) s) : wpAny (model prog w) A (compareOp .NotEq (.ref D) (.ref l)) Q E s := by
  have i1 : s.heap.IsList D ys.toArray := ⟨_, (N _ h1).1, rfl, _, rfl⟩
  have i2 : s.heap.IsList l #[] := ⟨_, (N _ h2).1, rfl, _, rfl⟩
  cases ys with
  | nil => exact SeqAt.RcNeAt.lists (e := fun _ => true) i1 i2 rfl hu (fun j h => absurd h (Nat.not_lt_zero _)) _ _ _ _ h
  | cons y r => exact SeqAt.RcNeAt.lists_lengths i1 i2 (by simp) hu _ _ _ _ h
end
theorem str0 : (Str.ofString "0").cps.toList = [48] := by decide +kernel
theorem str9 : (Str.ofString "9").cps.toList = [57] := by decide +kernel
theorem lt_one {a b : Nat} : [a] < [b] ↔ a < b := by
  constructor
  · intro h
    cases h with
    | rel h => exact h
    | cons h => cases h
  · intro h; exact .rel h
theorem all2_len {α β : Type} {R : α → β → Prop} {as : List α} {bs : List β} (h : All2 R as bs) : bs.isEmpty = as.isEmpty := by cases h <;> rfl
theorem filt_empty (p : Nat → Bool) (l : List Nat) : ((List.range l.length).filter (fun i => !(p (l.getD i 0)))).isEmpty = l.all p := by
  rw [Bool.eq_iff_iff, List.isEmpty_iff, List.filter_eq_nil_iff, List.all_eq_true]
  constructor
  · intro h x hx
    obtain ⟨i, hi, e⟩ := List.mem_iff_getElem.mp hx
    have := h i (List.mem_range.mpr hi)
    rw [getD_at hi, e] at this
    simpa using this
  · intro h i hi
    have hi := List.mem_range.mp hi
    rw [getD_at hi, h _ (List.getElem_mem hi)]
    simp
theorem arr_getD (a : Array Nat) (i : Nat) : a.getD i 0 = a.toList.getD i 0 := by
  rw [Array.getD_eq_getD_getElem?, List.getD_eq_getElem?_getD, Array.getElem?_toList]
theorem filt_empty' (p : Nat → Bool) (x : Array Nat) : ((List.range x.size).filter (fun i => !(p (x.getD i 0)))).isEmpty = x.toList.all p := by
  rw [← filt_empty p x.toList, Array.length_toList]
  simp only [arr_getD]
theorem reg_41_fig_0 : True := by
  k_with "L eval ListComp" => ((k_here; (with_reducible show wpAny _ _ (eval (Expr.ListComp _ [⟨_, _, [_], _⟩] _ _) _) _ _ _); k_dflt (refine comp_test (by k_asm) (by rfl) (by decide) (by rfl) (by decide) (by rfl) ?_)))
  k_with "L compareOp Eq ref ref" => ((k_here; (with_reducible show wpAny _ _ (compareOp CmpOp.Eq (Value.ref _) (Value.ref _)) _ _ _); k_dflt (refine' eq_nil ?N ?h1 ?h2 ?hu ?_; (case N => k_asm); (case h1 => k_mem); (case h2 => k_mem); (case hu => ktr_units))))
  k_with "L compareOp NotEq ref ref" => ((k_here; (with_reducible show wpAny _ _ (compareOp CmpOp.NotEq (Value.ref _) (Value.ref _)) _ _ _); k_dflt (refine' ne_nil ?N ?h1 ?h2 ?hu ?_; (case N => k_asm); (case h1 => k_mem); (case h2 => k_mem); (case hu => ktr_units))))
  trivial
noncomputable def figC (c : Nat) : Bool := decide (48 ≤ c ∧ c ≤ 57)
noncomputable def figL (l : List Nat) : Bool := !l.isEmpty && l.all figC
theorem str_ne_nil (x : Str) : (x != Str.ofString "") = !x.cps.toList.isEmpty := by
  have e : Str.ofString "" = (⟨#[]⟩ : Str) := by decide +kernel
  rw [e]
  obtain ⟨⟨l⟩⟩ := x
  cases l with
  | nil => rfl
  | cons a r => rw [bne_iff_ne.mpr (fun z => by cases z)]; rfl
theorem c_is_figures {w : World} (x : Str) (t : Tok) (hx : x.cps.size ≤ 1000) (hc : ∀ c ∈ x.cps, c < 1114000) (news) : Spec w 2 215 [.str x t] news (fun v n' => v = .bool (figL x.cps.toList) ∧ n' = news) := by
  unfold Spec
  intro mean mg mb dp un gd cn cs a ccd cl outer A₀ base h₀ L m s Q E B F X N T hk hd hu hret
  obtain ⟨sh, sg, sd, st, so⟩ := s
  dsimp only at F N hret
  refine wpAny_call ?_
  k_dflt cell_enter
  k_steps
  · refine src_str rfl (by assumption) (by assumption) (by rw [sizeLine_eq]; omega) (fun it s₂ hs hsrc => ⟨_, _, _, _, hsrc, ?_⟩)
    obtain ⟨g, rfl⟩ := hs
    dsimp only
    refine rest_test (fun i => !(figC (x.cps.getD i 0))) (fun i y => True) ?_ ?_
    · clear hsrc
      rintro i v I oI C oC D ys m₂ h tk E' hi ⟨c, u, hcu, rfl⟩ hC hx' F' N' off ne
      have hb : c < 1114000 := hc c (Array.mem_of_getElem? hcu)
      have hcu' : x.cps.getD i 0 = c := by rw [Array.getD_eq_getD_getElem?, hcu]; rfl
      k_steps
      all_goals first
        | exact LCg.CompEnd.intro (by assumption) (by assumption) news (fun p hp => hp) off trivial ⟨trivial, rfl⟩
        | exact LCg.CompEnd.intro (by assumption) (by assumption) news (fun p hp => hp) off trivial rfl
        | (rw [hcu']; unfold figC; simp only [str0, str9, lt_one] at *; rw [Bool.eq_iff_iff]; simp; omega)
    · clear hsrc
      intro ys hys
      k_steps
      all_goals (refine hret _ _ _ _ (by assumption) (cb_drop (by assumption) fun p hp => .tail _ (.tail _ hp)) ⟨congrArg Value.bool ?_, rfl⟩)
      rw [all2_len hys, filt_empty']
      have hh := (str_ne_nil x).symm.trans (by assumption)
      unfold figL
      rw [hh, Bool.true_and]
  all_goals (refine hret _ _ _ _ (by assumption) (by assumption) ⟨congrArg Value.bool ?_, rfl⟩)
  all_goals (unfold figL; rw [← str_ne_nil, show (x != Str.ofString "") = false by assumption]; rfl)

theorem reg_41_fig_1 : True := by
  k_with "L call ref" => ((k_here; (with_reducible show wpAny _ _ (call (Value.ref 215) _) _ _ _); k_dflt (refine' Spec.use (c_is_figures _ _ ?h1 ?h2 _) ?k1 ?k2 ?k3 ?k4 ?k5 ?k6q ?k7q ?k8q ?_; (case k1 => k_asm); (case k2 => k_asm); (case k3 => k_asm); (case k4 => k_asm); (case k5 => k_asm); (case k6q => first | exact rfl | assumption); (case k7q => ktr_room); (case k8q => ktr_units); (case h1 => first | assumption | omega); (case h2 => assumption); refine curry (elimB ?_); intro h9q tk9q F9q N9q; (try dsimp only))))
  trivial
-- piece 42_names
theorem walk_42_names : twoK PySem.Challenge.rw_nz0311_01 MineH.hd.heap_1_39 := by k_fill; w_top off; trivial
theorem reg_42_names_0 : True := by
  k_with "L call ref" => ((k_here; (with_reducible show wpAny _ _ (call (Value.ref 73) _) _ _ _); k_dflt (refine' Spec.use (c_lower_text _ _ ?h1 ?h2 _) ?k1 ?k2 ?k3 ?k4 ?k5 ?k6q ?k7q ?k8q ?_; (case k1 => k_asm); (case k2 => k_asm); (case k3 => k_asm); (case k4 => k_asm); (case k5 => k_asm); (case k6q => first | exact rfl | assumption); (case k7q => ktr_room); (case k8q => ktr_units); (case h1 => assumption); (case h2 => assumption); refine curry (elimA ?_); intro t9q h9q tk9q F9q N9q; (try dsimp only))))
  trivial
section
variable {prog : Program} {w : World} {A : Around} {E : Value → Shared → Prop} {s : Shared} {h₀ : Heap} {L : Addr} {m : Str → Option Value} {news : List (Addr × Obj)} {D : Addr} {ys : List Value} {zs : List Str} {Q : Value → Shared → Prop} {k : Str} {t : Tok}
theorem strs_get : ∀ {ys : List Value} {zs : List Str}, StrsAre ys zs → ys.length = zs.length ∧ ∀ (j : Nat) (h1 : j < ys.length) (h2 : j < zs.length), isStrOf k ys[j] = (zs[j] == k)
  | _, _, .nil => ⟨rfl, fun j h => absurd h (Nat.not_lt_zero _)⟩
  | _, _, .cons n u h => by
    obtain ⟨a, b⟩ := strs_get h
    refine ⟨by simp [a], fun j h1 h2 => ?_⟩
    cases j with
    | zero => rfl
    | succ j => exact b j (Nat.lt_of_succ_lt_succ h1) (Nat.lt_of_succ_lt_succ h2)
theorem in_strs (N : News h₀ L s.heap news) (hm : (D, lst ys) ∈ news) (hs : StrsAre ys zs) (h : Q (.bool (zs.any (· == k))) s) : wpAny (model prog w) A (compareOp .In (.str k t) (.ref D)) Q E s :=
  in_list_strs ⟨_, (N _ hm).1, rfl, _, rfl⟩ hs h
theorem index_strs (N : News h₀ L s.heap news) (hm : (D, lst ys) ∈ news) (hs : StrsAre ys zs) (hin : zs.any (· == k) = true) (hz : ys.length ≤ 1000) (h : Q (.int (zs.findIdx (· == k) : Nat) s.toks) { s with toks := s.toks + 1 }) :
    wpAny (model prog w) A (call (.builtin "list.index") [.ref D, .str k t]) Q E s := by
  obtain ⟨hl, hg⟩ := strs_get (k := k) hs
  obtain ⟨x, hx, hp⟩ := List.any_eq_true.mp hin
  have hlt : zs.findIdx (· == k) < zs.length := List.findIdx_lt_length_of_exists ⟨x, hx, hp⟩
  have e1 : isStrOf k (ys[zs.findIdx (· == k)]'(by omega)) = true := by
    rw [hg _ (by omega) hlt]; exact List.findIdx_getElem (w := hlt)
  have e2 : ∀ i (hi : i < ys.length), i < zs.findIdx (· == k) → isStrOf k ys[i] = false := fun i hi hlt2 => by
    rw [hg _ hi (by omega)]
    have := List.not_of_lt_findIdx hlt2
    simpa using this
  refine call_meets PySem.F.slot_list_index ⟨_, (N _ hm).1, rfl⟩ PySem.F.entry_list_index (PySem.F.args_list_index_2 _ _)
    (MeetsSeq.list_index D ys.toArray _ (.str k t) (isStrOf k) (fun y hy => eq_isStrOf k t hs y (by simpa using hy)) (zs.findIdx (· == k)) (by rw [List.size_toArray]; omega) (by omega) (by simpa using e1) (fun i hi hlt => e2 i (by simpa using hi) hlt)) ⟨(N _ hm).1, h⟩
end
theorem reg_42_names_1 : True := by
  k_with "L compareOp In str ref" => ((k_here; (with_reducible show wpAny _ _ (compareOp CmpOp.In (Value.str _ _) (Value.ref _)) _ _ _); k_dflt (refine' in_strs ?N ?m ?hs ?_; (case N => k_asm); (case m => k_mem); (case hs => with_reducible assumption))))
  k_with "L call builtin:list.index" => ((k_here; (with_reducible show wpAny _ _ (call (Value.builtin _) [Value.ref _, Value.str _ _]) _ _ _); k_dflt (refine' index_strs ?N ?m ?hs ?hin ?hz ?_; (case N => k_asm); (case m => k_mem); (case hs => with_reducible assumption); (case hin => with_reducible assumption); (case hz => omega))))
  trivial
noncomputable def monthsL : List Str := [Str.ofString "jan", Str.ofString "feb", Str.ofString "mar", Str.ofString "apr", Str.ofString "may", Str.ofString "jun", Str.ofString "jul", Str.ofString "aug", Str.ofString "sep", Str.ofString "oct", Str.ofString "nov", Str.ofString "dec"]
noncomputable def daysL : List Str := [Str.ofString "mon", Str.ofString "tue", Str.ofString "wed", Str.ofString "thu", Str.ofString "fri", Str.ofString "sat", Str.ofString "sun"]
noncomputable def monthN (x : Str) : Int := if monthsL.any (· == lowerS x) = true then ((monthsL.findIdx (· == lowerS x) : Nat) : Int) + 1 else 0
noncomputable def isDayN (x : Str) : Bool := daysL.any (· == lowerS x)
/-- a table of texts of the base, turned small -/
noncomputable def SmallOf (its : Array Value) (zs : List Str) : Prop := its.size = zs.length ∧ ∀ i (h : i < zs.length), ∃ y u, its[i]? = some (.str y u) ∧ lowerS y = zs[i] ∧ y.cps.size ≤ 1000 ∧ ∀ c ∈ y.cps, c < 1114000
theorem smallOf_cons {v : Value} {its : List Value} {z : Str} {zs : List Str} (h : ∃ y u, v = .str y u ∧ lowerS y = z ∧ y.cps.size ≤ 1000 ∧ ∀ c ∈ y.cps, c < 1114000) (r : SmallOf its.toArray zs) : SmallOf (v :: its).toArray (z :: zs) := by
  obtain ⟨y, u, rfl, e⟩ := h
  obtain ⟨a, b⟩ := r
  refine ⟨by simpa using a, fun i hi => ?_⟩
  cases i with
  | zero => exact ⟨y, u, rfl, e⟩
  | succ i =>
    obtain ⟨y', u', e1, e2⟩ := b i (Nat.lt_of_succ_lt_succ hi)
    exact ⟨y', u', by simpa using e1, e2⟩
theorem strs_of_all : ∀ {ys : List Value} {zs : List Str}, ys.length = zs.length → (∀ i y, ys[i]? = some y → ∃ (h : i < zs.length) (t : Tok), y = .str zs[i] t) → StrsAre ys zs
  | [], [], _, _ => .nil
  | y :: ys, z :: zs, hl, h => by
    obtain ⟨_, t, e⟩ := h 0 y rfl
    subst e
    exact .cons _ _ (strs_of_all (by simpa using hl) fun i y hy => by
      obtain ⟨h1, t, e⟩ := h (i + 1) y hy
      exact ⟨Nat.lt_of_succ_lt_succ h1, t, e⟩)
theorem ht143 {w : World} {h₀ : Heap} (X : (MineH.hd.heap_1_39 w.params).In h₀) : ∃ its, h₀.IsTuple 143 its ∧ SmallOf its monthsL := by
  refine ⟨_, ⟨_, X 143 _ rfl, rfl, _, rfl⟩, ?_⟩
  repeat (first | exact ⟨rfl, fun i h => absurd h (Nat.not_lt_zero _)⟩ | refine smallOf_cons ⟨_, _, rfl, by decide +kernel, by decide +kernel, by decide +kernel⟩ ?_)
theorem ht144 {w : World} {h₀ : Heap} (X : (MineH.hd.heap_1_39 w.params).In h₀) : ∃ its, h₀.IsTuple 144 its ∧ SmallOf its daysL := by
  refine ⟨_, ⟨_, X 144 _ rfl, rfl, _, rfl⟩, ?_⟩
  repeat (first | exact ⟨rfl, fun i h => absurd h (Nat.not_lt_zero _)⟩ | refine smallOf_cons ⟨_, _, rfl, by decide +kernel, by decide +kernel, by decide +kernel⟩ ?_)
theorem walks_imp {prog : Program} {w : World} {A : Around} {I : Addr} {fp wr : List Addr} {n : Nat} {P P' : Nat → Value → Prop} {St : Nat → Heap → Prop} (f : ∀ i v, i < n → P i v → P' i v) (W : Walks prog w A I fp wr n P St) : Walks prog w A I fp wr n P' St where
  sub := W.sub
  frame := W.frame
  item := fun i s Q E hi st hQ => W.item i s Q E hi st fun v h' tk hv a b => hQ v h' tk (f i v hi hv) a b
  done := W.done
  self := W.self
theorem assign_plain {prog : Program} {w : World} {A : Around} {E : Value → Shared → Prop} {s : Shared} {h₀ : Heap} {L : Addr} {m : Str → Option Value} {env : Env} {elt iter : PySem.Expr} {x y : Str} {px py : Pos} {scope : Scope} {cl : List (Str × Addr)} {pos spos : Pos} {Q : Flow → Shared → Prop} (_F₀ : Fr h₀ L s.heap m) (hLe : env.locals = L)
    (hsw : swapsWith (.ListComp elt [⟨.Name x px, iter, [], 0⟩] scope pos) (some (.Name y py)) spos.line env = pure true)
    (hclos : closureFor scope env = pure cl) (hcell : ∀ z ∈ scope.names, z.2 ≠ .cell) (hkind : scope.kind = .function)
    (hnames : ∀ z ∈ scope.names, z.2 = .local → scope.names.lookup z.1 = some .local) (hx : scope.names.lookup x = some .local)
    (hy : env.kindOf y = some .local) (hp : (env.scope.kind == .class || (env.scope.kind == .module && env.locals != env.globals)) = false)
    (h : wpAny (model prog w) A (eval iter env) (fun xv s₁ => wpAny (model prog w) A (pyIter xv) (fun it s₂ => ∃ news n P S, SrcIt prog w A h₀ L m news n P S it s₂ ∧ CompRest prog w A h₀ L m env elt x scope cl s₂ S P (FinA h₀ L m s₂ y Q) n 0 [] news) E s₁) E s)
    (hs : ∀ x, foldedSetIterable iter env x = pure x := by intro _; rfl) :
    wpAny (model prog w) A (exec (.Assign [.Name y py] (.ListComp elt [⟨.Name x px, iter, [], 0⟩] scope pos) spos) env) Q E s := by
  subst hLe
  rw [exec_Assign_Name_used _ _ _ _ hsw]
  refine wpAny_bind (wpAny_standAt (wpAny_bind ?_))
  show wpAny _ A (do let _ ← comprehension (.ListComp elt [⟨.Name x px, iter, [], 0⟩] scope pos) scope env _ (newList []) false (eval iter env) (some (assign (.Name y py) env))) _ _ s
  refine wpAny_bind (wpAny_mono (wpAny_comprehension_free (use := some (assign (.Name y py) env)) (Q := fun _ s' => Q .next s') rfl hs hclos hkind hnames
    (wpAny_mono h (fun xv s₁ h₁ => ?_) fun _ _ e => e)) (fun _ s' hq => wpAny_pure (wpAny_pure hq)) fun _ _ e => e)
  refine wpAny_mono h₁ (fun it s₂ h₂ => ?_) fun _ _ e => e
  obtain ⟨news, n, P, S, ⟨I, fp, St, rfl, W, hsz, hIo, hSt, hst, hfp, F, N, hIL, hI₀, off, hS⟩, R⟩ := h₂
  refine block_U W hsz hIo hSt hcell hkind hx hst hfp F N hIL hI₀ off hS R ?_
  intro D C h' tk m' ys news' F' N' o1 hn hC₀ hD₀ hCL hDL hCD offC fin
  show wpAny _ A (assign (.Name y py) env (.ref D)) _ _ _
  refine wpAny_assign_Name (wpAny_storeName_local hy F'.ns (fun h₂ hn₂ hs₂ => ?_) hp)
  have hL₀ : h₀.get? env.locals = none := Heap.get?_none_of_le F'.above
  have F₂ : Fr h₀ env.locals h₂ (fun z => if z = y then some (.ref D) else m z) := ⟨hn₂, fun b o e => hs₂.extBut b o (fun q => by rw [q, hL₀] at e; cases e) (F'.keep b o e), F'.above⟩
  refine ⟨m', hn.sameBut hs₂ hCL, fun h'' hs'' => fin D h'' _ (F₂.change hs'' hCL hC₀) (fun p hp => ?_) o1⟩
  have z : h₂.get? p.1 = some p.2 := hs₂.extBut _ _ (N' p hp).2.1 (N' p hp).1
  refine ⟨hs''.extBut _ _ ?_ z, (N' p hp).2⟩
  rcases List.mem_cons.mp hp with rfl | hp
  · exact Ne.symm hCD
  · exact offC p hp
noncomputable def Wait (p : Prop) : Prop := p
theorem src_table {prog : Program} {w : World} {A : Around} {E : Value → Shared → Prop} {s : Shared} {h₀ : Heap} {L : Addr} {m : Str → Option Value} {news : List (Addr × Obj)} {ax : Addr} {zs : List Str} {Q : Value → Shared → Prop} (hh : A.handled = none) (F : Fr h₀ L s.heap m) (N : News h₀ L s.heap news)
    (ht : ∃ its, h₀.IsTuple ax its ∧ SmallOf its zs) (hz : zs.length ≤ 1000)
    (h : Wait (∀ it s₂, (∃ h, s₂ = { s with heap := h }) → SrcIt prog w A h₀ L m news zs.length (fun i v => ∃ (hi : i < zs.length) (y : Str) (u : Tok), v = .str y u ∧ lowerS y = zs[i] ∧ y.cps.size ≤ 1000 ∧ ∀ c ∈ y.cps, c < 1114000) (fun _ => True) it s₂ → Q it s₂)) : wpAny (model prog w) A (pyIter (.ref ax)) Q E s := by
  obtain ⟨its, ht, hs, hg⟩ := ht
  refine src_tuple hh F N ht (by rw [sizeLine_eq]; omega) (fun it s₂ hs2 S => h it s₂ hs2 ?_)
  obtain ⟨I, fp, St, e, W, a1, a2, a3, r⟩ := S
  rw [hs] at W a1
  refine ⟨I, fp, St, e, ?_, a1, a2, a3, r⟩
  exact walks_imp (fun i v hi hv => by
    obtain ⟨y, u, e1, e2⟩ := hg i hi
    rw [e1] at hv
    exact ⟨hi, y, u, (Option.some.inj hv).symm, e2⟩) W
theorem reg_42_names_2 : True := by
  k_with "L exec Assign cons ListComp" => ((k_here; k_dflt (refine assign_plain (by k_asm) (by rfl) (by with_unfolding_all rfl) (by with_unfolding_all rfl) (by decide) (by rfl) (by decide) (by rfl) (by rfl) (by rfl) ?_)))
  trivial
theorem c_month_number {w : World} (x : Str) (t : Tok) (hx : x.cps.size ≤ 1000) (hc : ∀ c ∈ x.cps, c < 1114000) (news) : Spec w 4 205 [.str x t] news (fun v n' => (∃ t', v = .int (monthN x) t') ∧ n' = news) := by
  unfold Spec
  intro mean mg mb dp un gd cn cs a ccd cl outer A₀ base h₀ L m s Q E B F X N T hk hd hu hret
  obtain ⟨sh, sg, sd, st, so⟩ := s
  dsimp only at F N hret
  refine wpAny_call ?_
  k_dflt cell_enter
  k_steps
  refine src_table rfl (by k_asm) (by k_asm) (ht143 (by k_asm)) (by decide) ?_
  refine fun it s₂ hs hsrc => ⟨_, _, _, _, hsrc, ?_⟩
  obtain ⟨g, rfl⟩ := hs
  dsimp only
  refine rest_plain (fun i y => ∃ (hi : i < monthsL.length) (t : Tok), y = .str monthsL[i] t) ?_ ?_
  · clear hsrc
    rintro i v I oI C oC D ys m₂ h tk E' hi ⟨hi', y, u, rfl, hlow, hz1, hz2⟩ hC hx' F' N' off ne
    k_steps
    all_goals exact LCg.CompEnd.intro (by assumption) (by assumption) news (fun p hp => hp) off trivial ⟨⟨hi', _, congrArg (fun z => Value.str z _) hlow⟩, rfl⟩
  · clear hsrc
    intro ys hl hys
    have hsa := strs_of_all hl hys
    have hz1 : ys.length ≤ 1000 := by rw [hl]; decide
    k_steps
    all_goals (refine hret _ _ _ _ (by assumption) (cb_drop (by assumption) fun p hp => .tail _ hp) ⟨⟨_, congrArg (fun z => Value.int z _) ?_⟩, rfl⟩)
    · unfold monthN; rw [if_pos (by assumption)]
    · unfold monthN; rw [if_neg (ne_true_of_eq_false (by assumption))]
theorem reg_42_names_3 : True := by
  k_with "L call ref" => ((k_here; (with_reducible show wpAny _ _ (call (Value.ref 205) _) _ _ _); k_dflt (refine' Spec.use (c_month_number _ _ ?h1 ?h2 _) ?k1 ?k2 ?k3 ?k4 ?k5 ?k6q ?k7q ?k8q ?_; (case k1 => k_asm); (case k2 => k_asm); (case k3 => k_asm); (case k4 => k_asm); (case k5 => k_asm); (case k6q => first | exact rfl | assumption); (case k7q => ktr_room); (case k8q => ktr_units); (case h1 => assumption); (case h2 => assumption); refine curry (elimA ?_); intro t9q h9q tk9q F9q N9q; (try dsimp only))))
  trivial
theorem c_is_day_name {w : World} (x : Str) (t : Tok) (hx : x.cps.size ≤ 1000) (hc : ∀ c ∈ x.cps, c < 1114000) (news) : Spec w 4 210 [.str x t] news (fun v n' => v = .bool (isDayN x) ∧ n' = news) := by
  unfold Spec
  intro mean mg mb dp un gd cn cs a ccd cl outer A₀ base h₀ L m s Q E B F X N T hk hd hu hret
  obtain ⟨sh, sg, sd, st, so⟩ := s
  dsimp only at F N hret
  refine wpAny_call ?_
  k_dflt cell_enter
  k_steps
  refine src_table rfl (by k_asm) (by k_asm) (ht144 (by k_asm)) (by decide) ?_
  refine fun it s₂ hs hsrc => ⟨_, _, _, _, hsrc, ?_⟩
  obtain ⟨g, rfl⟩ := hs
  dsimp only
  refine rest_plain (fun i y => ∃ (hi : i < daysL.length) (t : Tok), y = .str daysL[i] t) ?_ ?_
  · clear hsrc
    rintro i v I oI C oC D ys m₂ h tk E' hi ⟨hi', y, u, rfl, hlow, hz1, hz2⟩ hC hx' F' N' off ne
    k_steps
    all_goals exact LCg.CompEnd.intro (by assumption) (by assumption) news (fun p hp => hp) off trivial ⟨⟨hi', _, congrArg (fun z => Value.str z _) hlow⟩, rfl⟩
  · clear hsrc
    intro ys hl hys
    have hsa := strs_of_all hl hys
    k_steps
    all_goals (refine hret _ _ _ _ (by assumption) (cb_drop (by assumption) fun p hp => .tail _ hp) ⟨rfl, rfl⟩)

theorem reg_42_names_4 : True := by
  k_with "L call ref" => ((k_here; (with_reducible show wpAny _ _ (call (Value.ref 210) _) _ _ _); k_dflt (refine' Spec.use (c_is_day_name _ _ ?h1 ?h2 _) ?k1 ?k2 ?k3 ?k4 ?k5 ?k6q ?k7q ?k8q ?_; (case k1 => k_asm); (case k2 => k_asm); (case k3 => k_asm); (case k4 => k_asm); (case k5 => k_asm); (case k6q => first | exact rfl | assumption); (case k7q => ktr_room); (case k8q => ktr_units); (case h1 => assumption); (case h2 => assumption); refine curry (elimB ?_); intro h9q tk9q F9q N9q; (try dsimp only))))
  trivial
-- piece 42_octets
theorem walk_42_octets : twoK PySem.Challenge.rw_nz0311_01 MineH.hd.heap_1_39 := by k_fill; w_top off; trivial
theorem ints_of : ∀ {ys : List Value} {l : List Nat}, ys.length = l.length → (∀ (i : Nat) (y : Value), ys[i]? = some y → ∃ (c : Nat) (t : Tok), l[i]? = some c ∧ y = Value.int (c : Nat) t) → IntsAre ys (l.map fun c => ((c : Nat) : Int))
  | [], [], _, _ => .nil
  | y :: ys, c :: l, hl, h => by
    obtain ⟨c', t, hc, rfl⟩ := h 0 y rfl
    have e : c = c' := by simpa using hc
    subst e
    exact .cons _ _ (ints_of (by simpa using hl) fun i z hz => h (i + 1) z (by simpa using hz))
noncomputable def bytesOf (l : List Nat) : List UInt8 := l.map fun c => c.toUInt8
theorem bytesOf_ints (l : List Nat) : ((l.map fun c => ((c : Nat) : Int)).map fun n => n.toNat.toUInt8) = bytesOf l := by
  unfold bytesOf; rw [List.map_map]; rfl
theorem c_octets {w : World} (x : Str) (t : Tok) (news) (hx : x.cps.size ≤ 1000) (hb : ∀ c ∈ x.cps, c < 256) :
    Spec w 3 431 [.str x t] news (fun v n' => (∃ t', v = .bytes (bytesOf x.cps.toList).toArray t') ∧ n' = news) := by
  unfold Spec
  intro mean mg mb dp un gd cn cs a ccd cl outer A₀ base h₀ L m s Q E B F X N T hk hd hu hret
  obtain ⟨sh, sg, sd, st, so⟩ := s
  dsimp only at F N hret
  refine wpAny_call ?_
  k_dflt cell_enter
  k_steps
  refine src_str rfl (by assumption) (by assumption) (by rw [sizeLine_eq]; omega) (fun it s₂ hs hsrc => ⟨_, _, _, _, hsrc, ?_⟩)
  obtain ⟨g, rfl⟩ := hs
  dsimp only
  refine rest_plain (fun i y => ∃ (c : Nat) (t' : Tok), x.cps[i]? = some c ∧ y = .int (c : Nat) t') ?_ ?_
  · clear hsrc
    rintro i v I oI C oC D ys m₂ h tk E' hi ⟨c, u, hcu, rfl⟩ hC hx' F' N' off ne
    have hb : c < 256 := hb c (Array.mem_of_getElem? hcu)
    k_steps
    all_goals exact LCg.CompEnd.intro (by assumption) (by assumption) news (fun p hp => hp) off trivial ⟨⟨c, _, hcu, rfl⟩, rfl⟩
  · clear hsrc
    intro ys hl hys
    k_steps
    refine bytes_K (by assumption) (by assumption) ⟨_, (News.get (by assumption) (List.mem_cons_self ..)), rfl, _, rfl⟩ (ints_of (l := x.cps.toList) (by simpa using hl) (fun i y hy => by simpa using hys i y hy)) ?_ (by rw [hl, sizeLine_eq]; omega) rfl fun h' t' k F' N' _ => ?_
    · intro n hn
      obtain ⟨c, hc, rfl⟩ := List.mem_map.mp hn
      have := hb c (by simpa using hc)
      omega
    rw [bytesOf_ints]
    k_steps
    all_goals exact hret _ _ _ _ (by assumption) (cb_drop (by assumption) fun p hp => List.mem_cons_of_mem _ hp) ⟨⟨_, rfl⟩, rfl⟩

-- piece 43_zone
theorem walk_43_zone : twoK PySem.Challenge.rw_nz0311_01 MineH.hd.heap_1_39 := by k_fill; w_top off; trivial
noncomputable def strL (l : List Nat) : Str := ⟨l.toArray⟩
noncomputable def valN (l : List Nat) : Nat := l.foldl (fun acc c => acc * 10 + (c - 48)) 0
noncomputable def zoneInN (a : List Nat) : Bool := decide (a.length = 5) && (decide (a.getD 0 0 ∈ [43, 45]) && (figL (a.drop 1) && decide (valN (a.drop 3) ≤ 59)))
theorem reg_43_zone_0 : True := by
  k_with "L call type:int" => ((k_here; (with_reducible show wpAny _ _ (call (Value.type "int") [Value.str (Txt.slice _ _ _) _]) _ _ _); k_dflt (refine KIN.call_text (n := Int.ofNat _) ((by with_reducible assumption : figL _ = true → PySem.intText? (Txt.slice _ _ _) = some (Int.ofNat _)) (by with_reducible assumption)) (by assumption) ?_)))
  trivial
theorem c_zone_no {w : World} (x : Str) (t : Tok) (hx : x.length ≤ 1000) (hx5 : x.length ≠ 5) (news) : Spec w 4 222 [.str x t] news (fun v n' => v = .none ∧ n' = news) := by
  have hx6 : ((x.length : Nat) : Int) ≠ 5 := by omega
  unfold Spec
  intro mean mg mb dp un gd cn cs a ccd cl outer A₀ base h₀ L m s Q E B F X N T hk hd hu hret
  obtain ⟨sh, sg, sd, st, so⟩ := s
  dsimp only at F N hret
  refine wpAny_call ?_
  k_dflt cell_enter
  k_steps
  all_goals first | exact hret _ _ _ _ (by assumption) (by assumption) ⟨rfl, rfl⟩ | omega
theorem slice5 {a b c d e : Nat} {l u : Option Int} {ks : List Nat} {r : Str} (h : Builtin.Str.strSliceIndices l u 1 5 = ks) (hr : (if ((1 : Int) == 1 && ks.length == 5) = true then (⟨#[a, b, c, d, e]⟩ : Str) else ⟨(ks.filterMap fun i => #[a, b, c, d, e][i]?).toArray⟩) = r := by rfl) : Txt.slice ⟨#[a, b, c, d, e]⟩ l u = r := by
  subst h; exact hr
theorem sl1 (a b c d e : Nat) : Txt.slice ⟨#[a, b, c, d, e]⟩ (some 1) none = strL [b, c, d, e] := slice5 (show Builtin.Str.strSliceIndices (some 1) none 1 5 = [1, 2, 3, 4] by decide +kernel)
theorem sl3 (a b c d e : Nat) : Txt.slice ⟨#[a, b, c, d, e]⟩ (some 3) none = strL [d, e] := slice5 (show Builtin.Str.strSliceIndices (some 3) none 1 5 = [3, 4] by decide +kernel)
theorem sl13 (a b c d e : Nat) : Txt.slice ⟨#[a, b, c, d, e]⟩ (some 1) (some 3) = strL [b, c] := slice5 (show Builtin.Str.strSliceIndices (some 1) (some 3) 1 5 = [1, 2] by decide +kernel)
theorem it0 (a b c d e : Nat) : Txt.item ⟨#[a, b, c, d, e]⟩ 0 = ⟨#[a]⟩ := rfl
theorem figs_all {l : List Nat} (h : figL l = true) : NumText.AllDigits l ∧ l ≠ [] := by
  unfold figL at h
  rw [Bool.and_eq_true] at h
  refine ⟨fun c hc => ?_, fun e => by rw [e] at h; exact absurd h.1 (by decide)⟩
  have := List.all_eq_true.mp h.2 c hc
  unfold figC at this
  simpa using this
theorem int_two {l : List Nat} {x y : Nat} (h : figL l = true) (hx : x ∈ l) (hy : y ∈ l) : PySem.intText? (strL [x, y]) = some (Int.ofNat (valN [x, y])) := by
  have hd := (figs_all h).1
  exact PySem.intText_digits (x := strL [x, y]) (fun c hc => by
    rcases List.mem_cons.mp hc with rfl | hc
    · exact hd _ hx
    · rw [List.mem_singleton.mp hc]; exact hd _ hy) (by simp [strL]) (by show 2 ≤ 4300; decide)
theorem val_two (x y : Nat) (hx : x < 1114000) (hy : y < 1114000) : valN [x, y] ≤ 20000000 := by
  show (0 * 10 + (x - 48)) * 10 + (y - 48) ≤ _
  omega
theorem c_zone_five {w : World} (a b c d e : Nat) (t : Tok) (hc : a < 1114000 ∧ b < 1114000 ∧ c < 1114000 ∧ d < 1114000 ∧ e < 1114000) (news) : Spec w 4 222 [.str ⟨#[a, b, c, d, e]⟩ t] news (fun v n' => ((zoneInN [a, b, c, d, e] = true ∧ ∃ i t', v = .int i t') ∨ (zoneInN [a, b, c, d, e] = false ∧ v = .none)) ∧ n' = news) := by
  obtain ⟨h1, h2, h3, h4, h5⟩ := hc
  have hl : (⟨#[a, b, c, d, e]⟩ : Str).length = 5 := rfl
  have hz1 : (Txt.slice ⟨#[a, b, c, d, e]⟩ (some 1) none).cps.size ≤ 1000 := by rw [sl1]; show 4 ≤ 1000; decide
  have hz3 : (Txt.slice ⟨#[a, b, c, d, e]⟩ (some 3) none).length ≤ 640 := by rw [sl3]; show 2 ≤ 640; decide
  have hz13 : (Txt.slice ⟨#[a, b, c, d, e]⟩ (some 1) (some 3)).length ≤ 640 := by rw [sl13]; show 2 ≤ 640; decide
  have hc1 : ∀ z ∈ (Txt.slice ⟨#[a, b, c, d, e]⟩ (some 1) none).cps, z < 1114000 := by
    rw [sl1]; intro z hz; simp [strL] at hz; rcases hz with rfl | rfl | rfl | rfl <;> assumption
  have hi3 : figL (Txt.slice ⟨#[a, b, c, d, e]⟩ (some 1) none).cps.toList = true → PySem.intText? (Txt.slice ⟨#[a, b, c, d, e]⟩ (some 3) none) = some (Int.ofNat (valN [d, e])) := fun h => by
    rw [sl3]; exact int_two h (by rw [sl1]; simp [strL]) (by rw [sl1]; simp [strL])
  have hi13 : figL (Txt.slice ⟨#[a, b, c, d, e]⟩ (some 1) none).cps.toList = true → PySem.intText? (Txt.slice ⟨#[a, b, c, d, e]⟩ (some 1) (some 3)) = some (Int.ofNat (valN [b, c])) := fun h => by
    rw [sl13]; exact int_two h (by rw [sl1]; simp [strL]) (by rw [sl1]; simp [strL])
  have hv3 := val_two d e h4 h5
  have hv13 := val_two b c h2 h3
  have hzo : ∀ n, valN [d, e] = n → zoneInN [a, b, c, d, e] = (decide (a ∈ [43, 45]) && (figL (Txt.slice ⟨#[a, b, c, d, e]⟩ (some 1) none).cps.toList && decide (n ≤ 59))) := fun n hn => by rw [← hn, sl1]; rfl
  generalize hn3 : valN [d, e] = n3 at *
  generalize valN [b, c] = n13 at *
  have hzo2 := hzo n3 rfl
  have hocc := StrLaws.found_one (Str.ofString "+-") a
  rw [← it0 a b c d e, show (Str.ofString "+-").cps.toList = [43, 45] by decide +kernel] at hocc
  clear hzo hn3
  have hend : Wait ((!(Builtin.Str.occurrences (Str.ofString "+-") (Txt.item ⟨#[a, b, c, d, e]⟩ 0) 0 (Str.ofString "+-").length 1).isEmpty) = decide (a ∈ [43, 45]) ∧ zoneInN [a, b, c, d, e] = (decide (a ∈ [43, 45]) && (figL (Txt.slice ⟨#[a, b, c, d, e]⟩ (some 1) none).cps.toList && decide (n3 ≤ 59)))) := ⟨hocc, hzo2⟩
  clear hocc hzo2
  generalize (⟨#[a, b, c, d, e]⟩ : Str) = x at *
  clear h1 h2 h3 h4 h5
  unfold Spec
  intro mean mg mb dp un gd cn cs a ccd cl outer A₀ base h₀ L m s Q E B F X N T hk hd hu hret
  obtain ⟨sh, sg, sd, st, so⟩ := s
  dsimp only at F N hret
  refine wpAny_call ?_
  k_dflt cell_enter
  k_steps
  all_goals (obtain ⟨hocc, hzo⟩ := hend; simp only [Int.ofNat_eq_natCast] at *)
  all_goals first
    | (exfalso; omega)
    | (refine hret _ _ _ _ (by assumption) (by assumption) ⟨.inr ⟨?_, rfl⟩, rfl⟩; rw [hzo, ← hocc]; simp [*]; done)
    | (refine hret _ _ _ _ (by assumption) (by assumption) ⟨.inr ⟨?_, rfl⟩, rfl⟩; rw [hzo, decide_eq_false (show ¬ n3 ≤ 59 by omega), Bool.and_false, Bool.and_false])
    | (refine hret _ _ _ _ (by assumption) (by assumption) ⟨.inl ⟨?_, _, _, rfl⟩, rfl⟩; rw [hzo, ← hocc, decide_eq_true (show n3 ≤ 59 by omega)]; simp [*]; done)
theorem c_zone_in {w : World} (x : Str) (t : Tok) (hx : x.cps.size ≤ 1000) (hc : ∀ c ∈ x.cps, c < 1114000) (news) : Spec w 4 222 [.str x t] news (fun v n' => ((zoneInN x.cps.toList = true ∧ ∃ i t', v = .int i t') ∨ (zoneInN x.cps.toList = false ∧ v = .none)) ∧ n' = news) := by
  by_cases h5 : x.length = 5
  · obtain ⟨⟨l⟩⟩ := x
    match l, h5, hc with
    | [a, b, c, d, e], _, hc => exact c_zone_five a b c d e t ⟨hc a (by simp), hc b (by simp), hc c (by simp), hc d (by simp), hc e (by simp)⟩ news
  · have hz : zoneInN x.cps.toList = false := by
      unfold zoneInN
      rw [decide_eq_false (show ¬ x.cps.toList.length = 5 by rw [Array.length_toList]; exact h5), Bool.false_and]
    have C := c_zone_no (w := w) x t hx h5 news
    intro mean mg mb dp un gd cn cs a ccd cl outer A₀ base h₀ L m s Q E B F X N T hk hd hu hret
    exact C _ _ _ _ _ _ _ _ _ _ _ _ _ _ _ _ _ _ _ _ B F X N T hk hd hu fun v n' h' tk' F' N' r => hret v n' h' tk' F' N' ⟨.inr ⟨hz, r.1⟩, r.2⟩

theorem reg_43_zone_1 : True := by
  k_with "L call ref" => ((k_here; (with_reducible show wpAny _ _ (call (Value.ref 222) _) _ _ _); k_dflt (refine' Spec.use (c_zone_in _ _ ?h1 ?h2 _) ?k1 ?k2 ?k3 ?k4 ?k5 ?k6q ?k7q ?k8q ?_; (case k1 => k_asm); (case k2 => k_asm); (case k3 => k_asm); (case k4 => k_asm); (case k5 => k_asm); (case k6q => first | exact rfl | assumption); (case k7q => ktr_room); (case k8q => ktr_units); (case h1 => assumption); (case h2 => assumption); rintro v9q n9q h9q tk9q F9q N9q ⟨e9q, e8q⟩; subst n9q; rcases e9q with ⟨z9q, i9q, t9q, e9q⟩ | ⟨z9q, e9q⟩ <;> subst v9q; (try dsimp only))))
  trivial
-- piece 45_named
theorem walk_45_named : twoK PySem.Challenge.rw_nz0311_01 MineH.hd.heap_1_39 := by k_fill; w_top off; trivial
noncomputable def lowC (c : Nat) : Bool := decide (97 ≤ c ∧ c ≤ 122)
noncomputable def namedN (a : List Nat) : Bool := !a.isEmpty && (a.map lowerN).all lowC
theorem strA : (Str.ofString "a").cps.toList = [97] := by decide +kernel
theorem strZ : (Str.ofString "z").cps.toList = [122] := by decide +kernel
theorem str_eq_nil (x : Str) : (x == Str.ofString "") = x.cps.toList.isEmpty := by
  have := str_ne_nil x
  rw [bne] at this
  cases h : (x == Str.ofString "") <;> cases h2 : x.cps.toList.isEmpty <;> rw [h, h2] at this <;> first | rfl | cases this
theorem lookup_all {p : PyData → Bool} {k : PyData} : ∀ {D : List (PyData × PyData)}, D.all (fun q => p q.2) = true → ∀ d, Spec.lookup k D = some d → p d = true
  | [], _, _, h => by cases h
  | (a, b) :: r, hD, d, h => by
    rw [List.all_cons, Bool.and_eq_true] at hD
    unfold Spec.lookup at h
    split at h
    · cases h; exact hD.1
    · exact lookup_all hD.2 d h
noncomputable def smallI : PyData → Bool
  | .int i => decide (-100 ≤ i ∧ i ≤ 100)
  | _ => false
theorem hours_int {k : PyData} {D : List (PyData × PyData)} {v : Value} (hD : D.all (fun q => smallI q.2) = true) (h : PyProof.V.Flat v ((Spec.lookup k D).getD (.int 0))) : ∃ i t, v = .int i t ∧ -100 ≤ i ∧ i ≤ 100 := by
  have hs : smallI ((Spec.lookup k D).getD (.int 0)) = true := by
    cases hl : Spec.lookup k D with
    | none => rfl
    | some d => exact lookup_all hD d hl
  cases hd : (Spec.lookup k D).getD (.int 0) with
  | int i =>
    rw [hd] at h hs
    obtain ⟨t, e⟩ := PyProof.V.Flat.int_inv h
    unfold smallI at hs
    exact ⟨i, t, e, of_decide_eq_true hs⟩
  | _ => rw [hd] at hs; cases hs
theorem reg_45_named_0 : True := by
  k_with "L call builtin:dict.get" => ((k_here; (with_reducible show wpAny _ _ (call (Value.builtin "dict.get") [Value.ref _, Value.str (lowerS _) _, Value.int _ _]) _ _ _); k_dflt (refine' call_get2_strTab ?k1 ?k2 ?_; (case k1 => k_tabat); (case k2 => k_flat); k_whole; intro v7q hv7q; (obtain ⟨i7q, t7q, e7q, l7q, u7q⟩ := hours_int (by rfl) hv7q); clear hv7q; subst e7q)))
  trivial
/-- a mark: the walk splits its ifs at once -/
noncomputable def Fast : Prop := True
theorem reg_45_named_1 : True := by
  k_with "L ite" => ((k_here; (with_reducible rename Fast => hFast9); first | with_reducible refine ite_tt ?_ | with_reducible refine ite_ff ?_ | (with_reducible refine split_ine ?_ ?_ <;> intro _) | (with_reducible refine split_ieq ?_ ?_ <;> intro _) | with_reducible refine split_not ?_ | (with_reducible refine split_dec ?_ ?_ <;> intro _) | (with_reducible refine split_bool ?_ ?_ <;> intro _)))
  trivial
theorem c_named_zone {w : World} (x : Str) (t : Tok) (hx : x.cps.size ≤ 1000) (hc : ∀ c ∈ x.cps, c < 1114000) (news) : Spec w 4 227 [.str x t] news (fun v n' => ((namedN x.cps.toList = true ∧ ∃ i t', v = .int i t') ∨ (namedN x.cps.toList = false ∧ v = .none)) ∧ n' = news) := by
  have hfast : Fast := trivial
  unfold Spec
  intro mean mg mb dp un gd cn cs a ccd cl outer A₀ base h₀ L m s Q E B F X N T hk hd hu hret
  obtain ⟨sh, sg, sd, st, so⟩ := s
  dsimp only at F N hret
  refine wpAny_call ?_
  k_dflt cell_enter
  k_steps
  · refine hret _ _ _ _ (by assumption) (by assumption) ⟨.inr ⟨?_, rfl⟩, rfl⟩
    unfold namedN
    rw [← str_eq_nil, show (x == Str.ofString "") = true by assumption]; rfl
  · have hls : (lowerS x).cps.size = x.cps.size := Array.size_map ..
    refine src_str rfl (by assumption) (by assumption) (by rw [sizeLine_eq, hls]; omega) (fun it s₂ hs hsrc => ⟨_, _, _, _, hsrc, ?_⟩)
    obtain ⟨g, rfl⟩ := hs
    dsimp only
    refine rest_test (fun i => !(lowC ((lowerS x).cps.getD i 0))) (fun i y => True) ?_ ?_
    · clear hsrc
      rintro i v I oI C oC D ys m₂ h tk E' hi ⟨c, u, hcu, rfl⟩ hC hx' F' N' off ne
      have hcu' : (lowerS x).cps.getD i 0 = c := by rw [Array.getD_eq_getD_getElem?, hcu]; rfl
      k_steps
      all_goals first
        | exact LCg.CompEnd.intro (by assumption) (by assumption) news (fun p hp => hp) off trivial ⟨trivial, rfl⟩
        | exact LCg.CompEnd.intro (by assumption) (by assumption) news (fun p hp => hp) off trivial rfl
        | (rw [hcu']; unfold lowC; simp only [strA, strZ, lt_one] at *; rw [Bool.eq_iff_iff]; simp; omega)
    · clear hsrc
      intro ys hys
      have hnn : namedN x.cps.toList = ys.isEmpty := by
        rw [all2_len hys, filt_empty']
        unfold namedN
        rw [← str_eq_nil, show (x == Str.ofString "") = false by assumption]
        show _ = (x.cps.map lowerN).toList.all lowC
        rw [Array.toList_map]; rfl
      k_steps
      · exact hret _ _ _ _ (by assumption) (cb_drop (by assumption) fun p hp => .tail _ (.tail _ (.tail _ hp))) ⟨.inl ⟨hnn.trans (by assumption), _, _, rfl⟩, rfl⟩
      · exact hret _ _ _ _ (by assumption) (cb_drop (by assumption) fun p hp => .tail _ (.tail _ hp)) ⟨.inr ⟨hnn.trans (by assumption), rfl⟩, rfl⟩

theorem reg_45_named_2 : True := by
  k_with "L call ref" => ((k_here; (with_reducible show wpAny _ _ (call (Value.ref 227) _) _ _ _); k_dflt (refine' Spec.use (c_named_zone _ _ ?h1 ?h2 _) ?k1 ?k2 ?k3 ?k4 ?k5 ?k6q ?k7q ?k8q ?_; (case k1 => k_asm); (case k2 => k_asm); (case k3 => k_asm); (case k4 => k_asm); (case k5 => k_asm); (case k6q => first | exact rfl | assumption); (case k7q => ktr_room); (case k8q => ktr_units); (case h1 => assumption); (case h2 => assumption); rintro v9q n9q h9q tk9q F9q N9q ⟨e9q, e8q⟩; subst n9q; rcases e9q with ⟨z9q, i9q, t9q, e9q⟩ | ⟨z9q, e9q⟩ <;> subst v9q; (try dsimp only))))
  trivial
-- piece 46_plain
theorem walk_46_plain : twoK PySem.Challenge.rw_nz0311_01 MineH.hd.heap_1_39 := by k_fill; w_top off; trivial
noncomputable abbrev Tk := Nat × List Nat
noncomputable def atomS (toks : List Tk) (k : Nat) : List Nat := match toks[k]? with
  | some (0, wd) => wd
  | _ => []
noncomputable def skipN (toks : List Tk) (k c : Nat) : Bool := (toks[k]?).any fun tk => tk.1 == 1 && tk.2 == [c]
noncomputable def numOk (toks : List Tk) (k lo hi : Nat) : Bool := figL (atomS toks k) && (decide (lo ≤ (atomS toks k).length) && decide ((atomS toks k).length ≤ hi))
noncomputable def numN (toks : List Tk) (k lo hi : Nat) : Option (Nat × Nat) := if numOk toks k lo hi then some (valN (atomS toks k), (atomS toks k).length) else none
noncomputable def zoneOk (a : List Nat) : Bool := zoneInN a || namedN a
noncomputable def dayAt (toks : List Tk) : Nat := if isDayN (strL (atomS toks 0)) then (if skipN toks 1 44 then 2 else 1) else 0
noncomputable def clockAt (toks : List Tk) (k : Nat) : Option (Nat × Nat × Nat × Nat) :=
  (numN toks k 2 2).bind fun h => if skipN toks (k + 1) 58 then (numN toks (k + 2) 2 2).bind fun m => if skipN toks (k + 3) 58 then (numN toks (k + 4) 2 2).map fun s => (h.1, m.1, s.1, k + 5) else some (h.1, m.1, 0, k + 3) else none
noncomputable def dateAt (toks : List Tk) : Option (Int × Int × Int) :=
  (numN toks (dayAt toks) 1 2).bind fun d => if monthN (strL (atomS toks (dayAt toks + 1))) ≤ 0 then none else (numN toks (dayAt toks + 2) 2 4).bind fun y =>
    if isDayI (fullYear y.1 y.2) (monthN (strL (atomS toks (dayAt toks + 1)))) d.1 = false then none else
    (clockAt toks (dayAt toks + 3)).bind fun c => if isTimeI c.1 c.2.1 c.2.2.1 = false then none else if zoneOk (atomS toks c.2.2.2) = false then none else
      if c.2.2.2 + 1 < toks.length then none else some (fullYear y.1 y.2, monthN (strL (atomS toks (dayAt toks + 1))), (d.1 : Int))
noncomputable def noComm (toks : List Tk) : List Tk := toks.filter fun tk => !(tk.1 == 2)
noncomputable def bodyDate (l : List Nat) : Option (Int × Int × Int) := (lexN (stripN (32 :: l))).bind fun toks => dateAt (noComm toks)
noncomputable def rowsT : List (List Nat) := [[51, 49, 32, 68, 101, 99, 32, 49, 57, 57, 57], [50, 57, 32, 70, 101, 98, 32, 50, 48, 48, 48], [49, 32, 74, 117, 108, 32, 57, 54], [57, 32, 74, 65, 78, 32, 49, 48, 51], [49, 48, 32, 79, 99, 116, 32, 52, 57], [50, 56, 32, 70, 101, 98, 32, 50, 49, 48, 48]]
noncomputable def rowsD : List ((Int × Int × Int) × (Int × Int × Int) × (Int × Int × Int)) := [((1999, 12, 31), (1999, 12, 30), (2000, 1, 1)), ((2000, 2, 29), (2000, 2, 28), (2000, 3, 1)), ((1996, 7, 1), (1996, 6, 30), (1996, 7, 2)), ((2003, 1, 9), (2003, 1, 8), (2003, 1, 10)), ((2049, 10, 10), (2049, 10, 9), (2049, 10, 11)), ((2100, 2, 28), (2100, 2, 27), (2100, 3, 1))]
noncomputable def aheadT : List (List Nat) := [[], [77, 111, 110, 44, 32], [115, 117, 110, 44], [70, 114, 105, 32]]
noncomputable def clocksT : List (List Nat) := [[48, 48, 58, 48, 48], [50, 51, 58, 53, 57, 58, 53, 57], [49, 50, 58, 51, 48, 58, 48, 48], [48, 48, 58, 48, 48, 58, 48, 49], [50, 51, 58, 53, 57, 58, 54, 48]]
noncomputable def zonesT : List (List Nat) := [[43, 48, 48, 48, 48], [43, 49, 52, 48, 48], [45, 49, 50, 48, 48], [80, 83, 84], [45, 48, 48, 48, 49], [85, 84], [69, 68, 84], [90]]
noncomputable def behindT : List (List Nat) := [[], [32, 40, 97, 32, 40, 98, 41, 32, 99, 41]]
noncomputable def badT : List (List Nat) := [[51, 48, 32, 70, 101, 98, 32, 50, 48, 48, 48, 32, 49, 48, 58, 48, 48, 32, 43, 48, 48, 48, 48], [115, 111, 111, 110], [49, 32, 74, 117, 108, 32, 49, 57, 57, 54], [49, 32, 74, 117, 108, 32, 49, 57, 57, 54, 32, 50, 52, 58, 48, 48, 32, 43, 48, 48, 48, 48], [49, 32, 74, 117, 108, 32, 49, 57, 57, 54, 32, 49, 48, 58, 48, 48, 32, 43, 48, 48, 48, 48, 32, 120, 32, 121], []]
noncomputable def textN (i a b c z : Nat) : List Nat := aheadT.getD a [] ++ rowsT.getD i [] ++ [32] ++ clocksT.getD c [] ++ [32] ++ zonesT.getD z [] ++ behindT.getD b []

-- piece 47_nocomm
theorem walk_47_nocomm : twoK PySem.Challenge.rw_nz0311_01 MineH.hd.heap_1_39 := by k_fill; w_top off; trivial
theorem All2.get {α β : Type} {R : α → β → Prop} : ∀ {as : List α} {bs : List β}, All2 R as bs → ∀ (i : Nat) (h1 : i < as.length) (h2 : i < bs.length), R as[i] bs[i]
  | _, _, .nil, i, h, _ => absurd h (Nat.not_lt_zero _)
  | _, _, .cons x r, i, h1, h2 => by
    cases i with
    | zero => exact x
    | succ i => exact r.get i (Nat.lt_of_succ_lt_succ h1) (Nat.lt_of_succ_lt_succ h2)
section
variable {prog : Program} {w : World} {A : Around} {E : Value → Shared → Prop} {s : Shared} {h₀ : Heap} {L T : Addr} {m : Str → Option Value} {news : List (Addr × Obj)} {value slice : PySem.Expr} {Q : Value → Shared → Prop} {its : Array Value} {j : Int} {u : Tok} {v : Value} {n : Nat}
/-- an item of a tuple of the ledger -/
theorem tup_item (N : News h₀ L s.heap news) (hm : (T, ({ cls := .type "tuple", data := .seq its n } : Obj)) ∈ news) (h0 : 0 ≤ j) (hj : j < 1000) (hx : its[j.toNat]? = some v) (h : Q v s)
    (hs : subscripted slice false (.ref T) (.int j u) = operate [.ref T, .int j u] (getItem (.ref T) (.int j u)) := by with_unfolding_all rfl) :
    wpAny (model prog w) A (subscriptTail value slice (.ref T) (.int j u)) Q E s := by
  have ht : IsTup s.heap T its := ⟨_, (N _ hm).1, rfl, _, rfl⟩
  have hn : j < ((its.size : Nat) : Int) := by
    have := (Array.getElem?_eq_some_iff.mp hx).1; omega
  exact tail_any ht.typeIs PySem.F.slot_tuple_getitem.lookup (getItem_tuple ht (by omega) (by omega) (seqIndex_of h0 hn) hx h) hs
theorem tok_0 {a b c : Value} (N : News h₀ L s.heap news) (hm : (T, ({ cls := .type "tuple", data := .seq #[a, b, c] n } : Obj)) ∈ news) (h : Q a s)
    (hs : subscripted slice false (.ref T) (.int 0 u) = operate [.ref T, .int 0 u] (getItem (.ref T) (.int 0 u)) := by with_unfolding_all rfl) :
    wpAny (model prog w) A (subscriptTail value slice (.ref T) (.int 0 u)) Q E s := tup_item N hm (by decide) (by decide) rfl h hs
theorem tok_1 {a b c : Value} (N : News h₀ L s.heap news) (hm : (T, ({ cls := .type "tuple", data := .seq #[a, b, c] n } : Obj)) ∈ news) (h : Q b s)
    (hs : subscripted slice false (.ref T) (.int 1 u) = operate [.ref T, .int 1 u] (getItem (.ref T) (.int 1 u)) := by with_unfolding_all rfl) :
    wpAny (model prog w) A (subscriptTail value slice (.ref T) (.int 1 u)) Q E s := tup_item N hm (by decide) (by decide) rfl h hs
theorem tok_2 {a b c : Value} (N : News h₀ L s.heap news) (hm : (T, ({ cls := .type "tuple", data := .seq #[a, b, c] n } : Obj)) ∈ news) (h : Q c s)
    (hs : subscripted slice false (.ref T) (.int 2 u) = operate [.ref T, .int 2 u] (getItem (.ref T) (.int 2 u)) := by with_unfolding_all rfl) :
    wpAny (model prog w) A (subscriptTail value slice (.ref T) (.int 2 u)) Q E s := tup_item N hm (by decide) (by decide) rfl h hs
end
theorem reg_47_nocomm_0 : True := by
  k_with "L subscriptTail" => ((k_here; (with_reducible show wpAny _ _ (subscriptTail _ _ (Value.ref _) (Value.int 0 _)) _ _ _); k_dflt (refine' tok_0 ?N ?m ?_; (case N => k_asm); (case m => first | assumption | exact (.tail _ (by assumption)) | exact (.tail _ (.tail _ (by assumption))) | exact (.tail _ (.tail _ (.tail _ (by assumption)))) | exact (.tail _ (.tail _ (.tail _ (.tail _ (by assumption))))) | exact (.tail _ (.tail _ (.tail _ (.tail _ (.tail _ (by assumption)))))) | exact (.tail _ (.tail _ (.tail _ (.tail _ (.tail _ (.tail _ (by assumption)))))))))))
  k_with "L subscriptTail" => ((k_here; (with_reducible show wpAny _ _ (subscriptTail _ _ (Value.ref _) (Value.int 1 _)) _ _ _); k_dflt (refine' tok_1 ?N ?m ?_; (case N => k_asm); (case m => first | assumption | exact (.tail _ (by assumption)) | exact (.tail _ (.tail _ (by assumption))) | exact (.tail _ (.tail _ (.tail _ (by assumption)))) | exact (.tail _ (.tail _ (.tail _ (.tail _ (by assumption))))) | exact (.tail _ (.tail _ (.tail _ (.tail _ (.tail _ (by assumption)))))) | exact (.tail _ (.tail _ (.tail _ (.tail _ (.tail _ (.tail _ (by assumption)))))))))))
  k_with "L subscriptTail" => ((k_here; (with_reducible show wpAny _ _ (subscriptTail _ _ (Value.ref _) (Value.int 2 _)) _ _ _); k_dflt (refine' tok_2 ?N ?m ?_; (case N => k_asm); (case m => first | assumption | exact (.tail _ (by assumption)) | exact (.tail _ (.tail _ (by assumption))) | exact (.tail _ (.tail _ (.tail _ (by assumption)))) | exact (.tail _ (.tail _ (.tail _ (.tail _ (by assumption))))) | exact (.tail _ (.tail _ (.tail _ (.tail _ (.tail _ (by assumption)))))) | exact (.tail _ (.tail _ (.tail _ (.tail _ (.tail _ (.tail _ (by assumption)))))))))))
  trivial
theorem kind_comm {k : Nat} (h : k = 0 ∨ k = 1 ∨ k = 2) : (kindS k != Str.ofString "comment") = !(k == 2) := by
  rcases h with rfl | rfl | rfl <;> decide +kernel
/-- the kinds that lexN gives -/
theorem tokOne_kind {l : List Nat} {k n : Nat} {wd : List Nat} (h : tokOne l = some (k, wd, n)) : k = 0 ∨ k = 1 ∨ k = 2 := by
  unfold tokOne at h
  split at h
  · cases h
  · split at h
    · cases h
    · split at h
      · cases h
      · split at h
        · obtain ⟨e, _, he⟩ := Option.map_eq_some_iff.mp h
          cases he; exact .inr (.inr rfl)
        · split at h
          · cases h; exact .inr (.inl rfl)
          · split at h
            · cases h; exact .inl rfl
            · cases h
theorem lexG_kinds : ∀ (f : Nat) (l : List Nat) (ts : List Tk), lexG f l = some ts → ∀ t ∈ ts, t.1 = 0 ∨ t.1 = 1 ∨ t.1 = 2
  | 0, _, _, h => by cases h
  | f + 1, l, ts, h => by
    unfold lexG at h
    split at h
    · cases h; intro t ht; cases ht
    · split at h
      · cases h
      · rename_i k wd n ht
        obtain ⟨r, hr, rfl⟩ := Option.map_eq_some_iff.mp h
        intro t htm
        rcases List.mem_cons.mp htm with rfl | htm
        · exact tokOne_kind ht
        · exact lexG_kinds f _ _ hr t htm
noncomputable def Kinds (ts : List Tk) : Prop := ∀ t ∈ ts, t.1 = 0 ∨ t.1 = 1 ∨ t.1 = 2
theorem lexN_kinds {l : List Nat} {ts : List Tk} (h : lexN l = some ts) : Kinds ts := lexG_kinds _ _ _ h
theorem all2_filter {R : Nat → Value → Prop} {R' : Tk → Value → Prop} {p : Tk → Bool} : ∀ {toks : List Tk} {zs : List Value} {d : Tk}, All2 R ((List.range toks.length).filter fun i => p (toks.getD i d)) zs → (∀ i y, (h : i < toks.length) → R i y → R' toks[i] y) → All2 R' (toks.filter p) zs := by
  intro toks zs d h hr
  have key : ∀ (n : Nat), n ≤ toks.length → ∀ zs, All2 R ((List.range n).filter fun i => p (toks.getD i d)) zs → All2 R' ((toks.take n).filter p) zs := by
    intro n
    induction n with
    | zero => intro _ zs h; cases h; exact .nil
    | succ n ih =>
      intro hn zs h
      have hlt : n < toks.length := hn
      have hg : toks.getD n d = toks[n] := by rw [List.getD_eq_getElem?_getD, List.getElem?_eq_getElem hlt]; rfl
      rw [List.range_succ, List.filter_append] at h
      rw [List.take_succ_eq_append_getElem hlt, List.filter_append]
      have hs : ∀ {as bs : List Nat} {zs : List Value}, All2 R (as ++ bs) zs → ∃ u v, zs = u ++ v ∧ All2 R as u ∧ All2 R bs v := by
        intro as
        induction as with
        | nil => intro bs zs h; exact ⟨[], zs, rfl, .nil, h⟩
        | cons a r ih2 =>
          intro bs zs h
          cases h with
          | cons x h => obtain ⟨u, v, e, h1, h2⟩ := ih2 h; exact ⟨_ :: u, v, by rw [e]; rfl, .cons x h1, h2⟩
      obtain ⟨u, v, rfl, h1, h2⟩ := hs h
      have i1 := ih (by omega) u h1
      cases hp : p toks[n] with
      | true =>
        have e1 : List.filter (fun i => p (toks.getD i d)) [n] = [n] := by simp only [List.filter_cons, List.filter_nil, hg, hp, if_true]
        have e2 : List.filter p [toks[n]] = [toks[n]] := by simp only [List.filter_cons, List.filter_nil, hp, if_true]
        rw [e1] at h2; rw [e2]
        cases h2 with
        | cons x h2 =>
          cases h2
          exact i1.snoc (hr n _ hlt x)
      | false =>
        have e1 : List.filter (fun i => p (toks.getD i d)) [n] = [] := by simp only [List.filter_cons, List.filter_nil, hg, hp, Bool.false_eq_true, if_false]
        have e2 : List.filter p [toks[n]] = [] := by simp only [List.filter_cons, List.filter_nil, hp, Bool.false_eq_true, if_false]
        rw [e1] at h2; rw [e2]
        cases h2
        rw [List.append_nil, List.append_nil]; exact i1
  have := key toks.length (Nat.le_refl _) zs h
  rwa [List.take_length] at this
theorem off1_of {D : Addr} : ∀ {x : List (Addr × Obj)}, Off1 D x → ∀ p ∈ x, p.1 ≠ D
  | [], _, _, h => nomatch h
  | _ :: _, h, p, hp => by
    rcases List.mem_cons.mp hp with rfl | hp
    · exact h.1
    · exact off1_of h.2 p hp
theorem c_without {w : World} (l : Addr) (xs : Array Value) (cap : Nat) (toks : List Tk) (x tks : List (Addr × Obj)) (hsub : ∀ p ∈ tks, p ∈ x) (hz : xs.size ≤ 1000) (hks : Kinds toks) (hx : All2 (TokIn tks) toks xs.toList) : Spec w 2 142 [.ref l] ((l, W.listOf xs cap) :: x) (fun v n' => ∃ D ys, v = .ref D ∧ n' = (D, lst ys) :: (l, W.listOf xs cap) :: x ∧ All2 (TokIn tks) (noComm toks) ys ∧ (∀ p ∈ x, p.1 ≠ D)) := by
  have hlen : toks.length = xs.size := by rw [← Array.length_toList]; exact hx.length
  have hget : ∀ i (h : i < toks.length) v, xs[i]? = some v → TokIn tks toks[i] v := fun i h v hv => by
    have h2 : i < xs.toList.length := by rw [Array.length_toList]; omega
    have hv2 : xs.toList[i]? = some v := by rw [Array.getElem?_toList]; exact hv
    rw [List.getElem?_eq_getElem h2] at hv2
    rw [← Option.some.inj hv2]
    exact hx.get i h h2
  unfold Spec
  intro mean mg mb dp un gd cn cs a ccd cl outer A₀ base h₀ L m s Q E B F X N T hk hd hu hret
  obtain ⟨sh, sg, sd, st, so⟩ := s
  dsimp only at F N hret
  refine wpAny_call ?_
  k_dflt cell_enter
  k_steps
  refine src_list rfl (by k_asm) (by k_asm) (.inr ⟨_, .head _, rfl, _, rfl⟩) (by rw [sizeLine_eq]; omega) (fun it s₂ hs hsrc => ⟨_, _, _, _, hsrc, ?_⟩)
  obtain ⟨g, rfl⟩ := hs
  dsimp only
  refine rest_test (fun i => !((toks.getD i (0, [])).1 == 2)) (fun i y => ∃ h : i < toks.length, TokIn tks toks[i] y) ?_ ?_
  · clear hsrc
    rintro i v I oI C oC D ys m₂ h tk E' hi hv hC hx' F' N' off ne
    have hit : i < toks.length := by omega
    have hti := hget i hit v hv
    have hkk := hks toks[i] (List.getElem_mem hit)
    have hgd : toks.getD i (0, []) = toks[i] := by rw [List.getD_eq_getElem?_getD, List.getElem?_eq_getElem hit]; rfl
    rw [hgd]
    generalize ht7 : toks[i] = tok at *
    obtain ⟨T7, b7, p7, t1, t2, t3, rfl, hm7, hb7⟩ := id hti
    unfold tokObj at hm7
    replace hm7 := hsub _ hm7
    k_steps
    all_goals first
      | exact kind_comm hkk
      | exact LCg.CompEnd.intro (by assumption) (by assumption) ((l, W.listOf xs cap) :: x) (fun p hp => hp) off (.inr ⟨_, .head _, rfl, _, rfl⟩) ⟨⟨hit, ht7 ▸ hti⟩, rfl⟩
      | exact LCg.CompEnd.intro (by assumption) (by assumption) ((l, W.listOf xs cap) :: x) (fun p hp => hp) off (.inr ⟨_, .head _, rfl, _, rfl⟩) rfl
  · clear hsrc
    intro ys hys
    rw [← hlen] at hys
    have hall : All2 (TokIn tks) (noComm toks) ys := all2_filter (p := fun tk => !(tk.1 == 2)) hys fun i y h r => r.2
    k_steps
    all_goals exact hret _ _ _ _ (by assumption) (by assumption) ⟨_, _, rfl, rfl, hall, off1_of (And.right (a := l ≠ _) (by assumption))⟩


-- piece 48_reader
theorem walk_48_reader : twoK PySem.Challenge.rw_nz0311_01 MineH.hd.heap_1_39 := by k_fill; w_top off; trivial
local macro_rules | `(tactic| ktr_units) => `(tactic| (have hcL9 := cLine_is; ((try simp only [units_under_make, units_in1, units_deeper, Around.mark_units, units_caller] at *); (try dsimp only [ktrTop] at *); omega)))
theorem reader_ready {h₀ h : Heap} {L l8 l9 x' d' : Addr} {o8 o9 io dob : Obj} {x9 tks news : List (Addr × Obj)} (N : News h₀ L h ((l8, o8) :: (l9, o9) :: x9)) (e : x9 = tks ++ (x', io) :: (d', dob) :: news) (lt : Held (∀ q ∈ (x', io) :: (d', dob) :: news, ∀ p ∈ tks, q.1 < p.1))
    (l1 : ∀ p ∈ news, p.1 < d') (l2 : d' < x') (off8 : ∀ p ∈ x9, p.1 ≠ l8) : ∃ rest, News h₀ L h ((x', io) :: (d', dob) :: (l8, o8) :: rest) ∧ (∀ p ∈ rest, p.1 ≠ d') ∧ (∀ p ∈ rest, p.1 ≠ x') ∧ (∀ p ∈ rest, p.1 ≠ l8) ∧ (∀ p ∈ tks, p ∈ rest) ∧ Held (∀ p ∈ news, p ∈ rest) ∧ (@Ne Nat d' l8) ∧ (@Ne Nat x' l8) := by
  subst e
  refine ⟨tks ++ news, cb_drop N fun p hp => ?_, fun p hp => ?_, fun p hp => ?_, fun p hp => ?_, fun p hp => List.mem_append_left _ hp, fun p hp => List.mem_append_right _ hp, ?_, ?_⟩
  · rcases List.mem_cons.mp hp with rfl | hp
    · exact .tail _ (.tail _ (List.mem_append_right _ (.head _)))
    rcases List.mem_cons.mp hp with rfl | hp
    · exact .tail _ (.tail _ (List.mem_append_right _ (.tail _ (.head _))))
    rcases List.mem_cons.mp hp with rfl | hp
    · exact .head _
    rcases List.mem_append.mp hp with hp | hp
    · exact .tail _ (.tail _ (List.mem_append_left _ hp))
    · exact .tail _ (.tail _ (List.mem_append_right _ (.tail _ (.tail _ hp))))
  · rcases List.mem_append.mp hp with hp | hp
    · exact Nat.ne_of_gt (lt (d', dob) (.tail _ (.head _)) p hp)
    · exact Nat.ne_of_lt (l1 p hp)
  · rcases List.mem_append.mp hp with hp | hp
    · exact Nat.ne_of_gt (lt (x', io) (.head _) p hp)
    · exact Nat.ne_of_lt (Nat.lt_trans (l1 p hp) l2)
  · rcases List.mem_append.mp hp with hp | hp
    · exact off8 p (List.mem_append_left _ hp)
    · exact off8 p (List.mem_append_right _ (.tail _ (.tail _ hp)))
  · exact off8 (d', dob) (List.mem_append_right _ (.tail _ (.head _)))
  · exact off8 (x', io) (List.mem_append_right _ (.head _))
theorem reader_facts {tks rest : List (Addr × Obj)} {toks : List Tk} {xs : Array Value} {ys : List Value} (all9 : All2 (TokIn tks) toks xs.toList) (sz : xs.size ≤ 1000) (all8 : All2 (TokIn tks) (noComm toks) ys) (r4 : ∀ p ∈ tks, p ∈ rest) : All2 (TokIn rest) (noComm toks) ys ∧ ys.length ≤ 1000 := by
  refine ⟨all8.imp fun a b h => h.mono r4, ?_⟩
  have h1 := all8.length
  have h2 := all9.length
  have h4 : xs.toList.length = xs.size := Array.length_toList
  have h3 : (noComm toks).length ≤ toks.length := List.length_filter_le _ _
  omega
noncomputable def Apart (R D l : Addr) (rest : List (Addr × Obj)) : Prop := (@Ne Nat R D) ∧ (@Ne Nat l D) ∧ (@Ne Nat R l) ∧ ∀ p ∈ rest, p.1 ≠ D
theorem apart_of {R D l : Addr} {rest : List (Addr × Obj)} (h1 : D < R) (h2 : @Ne Nat D l) (h3 : @Ne Nat R l) (h4 : ∀ p ∈ rest, p.1 ≠ D) : Apart R D l rest := ⟨Nat.ne_of_gt h1, Ne.symm h2, h3, h4⟩
theorem sub_left {tks x r : List (Addr × Obj)} (e : x = tks ++ r) : ∀ p ∈ tks, p ∈ x := fun p hp => by rw [e]; exact List.mem_append_left _ hp

theorem reg_48_reader_0 : True := by
  k_with "L call ref" => ((k_here; (with_reducible show wpAny _ _ (call (Value.ref 142) _) _ _ _); k_dflt (refine' Spec.use (c_without _ _ _ _ _ _ ?h1 ?h2 ?h3 ?h4) ?k1 ?k2 ?k3 ?k4 ?k5 ?k6q ?k7q ?k8q ?_; (case k1 => k_asm); (case k2 => k_asm); (case k3 => k_asm); (case k4 => k_asm); (case k5 => k_asm); (case k6q => first | exact rfl | assumption); (case k7q => ktr_room); (case k8q => ktr_units); (case h1 => exact sub_left (by assumption)); (case h2 => first | assumption | omega); (case h3 => assumption); (case h4 => assumption); rintro v9q n9q h9q tk9q F9q N9q ⟨l8q, ys8q, e8q, e7q, all8q, off8q⟩; subst n9q; subst v9q; (obtain ⟨rest7q, N7q, r1q, r2q, r3q, r4q, r5q, r6q, r7q⟩ := reader_ready N9q (by assumption) (by assumption) (by assumption) (by assumption) off8q); (obtain ⟨hall7q, hz7q⟩ := reader_facts (by assumption) (by omega) all8q r4q); (have ap7q := apart_of (by assumption) r6q r7q r1q); clear N9q; (try dsimp only))))
  trivial
-- piece 49_atom
theorem walk_49_atom : twoK PySem.Challenge.rw_nz0311_01 MineH.hd.heap_1_39 := by k_fill; w_top off; trivial
/-- the reader in the ledger: its tokens, where it stands, the length of what it reads -/
noncomputable abbrev rdD (w : World) (l : Addr) (k n : Int) (ta tb tc td te : Tok) : Obj := dictOf [⟨PyData.keyHash w.params (Str.ofString "tokens"), .str (Str.ofString "tokens") ta, .ref l⟩, ⟨PyData.keyHash w.params (Str.ofString "at"), .str (Str.ofString "at") tb, .int k tc⟩, ⟨PyData.keyHash w.params (Str.ofString "length"), .str (Str.ofString "length") td, .int n te⟩] 3
noncomputable abbrev LR (w : World) (R D l : Addr) (ys : List Value) (k n : Int) (ta tb tc td te : Tok) (rest : List (Addr × Obj)) : List (Addr × Obj) := (R, instObj 277 D) :: (D, rdD w l k n ta tb tc td te) :: (l, lst ys) :: rest
noncomputable def Small (toks : List Tk) : Prop := ∀ t ∈ toks, t.2.length ≤ 1000 ∧ ∀ c ∈ t.2, c < 256
theorem atom_at {toks : List Tk} {k : Nat} {tok : Tk} (h : toks[k]? = some tok) : atomS toks k = if tok.1 = 0 then tok.2 else [] := by
  unfold atomS
  rw [h]
  obtain ⟨kk, wd⟩ := tok
  cases kk <;> rfl
theorem atom_small {toks : List Tk} (hs : Small toks) (k : Nat) : (strL (atomS toks k)).cps.size ≤ 1000 ∧ ∀ c ∈ (strL (atomS toks k)).cps, c < 1114000 := by
  unfold strL
  cases h : toks[k]? with
  | none =>
    have e : atomS toks k = [] := by unfold atomS; rw [h]
    rw [e]; exact ⟨Nat.zero_le _, fun c hc => by simp at hc⟩
  | some tok =>
    rw [atom_at h]
    have := hs tok (List.mem_of_getElem? h)
    split
    · exact ⟨by simpa using this.1, fun c hc => by have := this.2 c (by simpa using hc); omega⟩
    · exact ⟨Nat.zero_le _, fun c hc => by simp at hc⟩
section
variable {prog : Program} {w : World} {A : Around} {E : Value → Shared → Prop} {s : Shared} {h₀ : Heap} {L l : Addr} {m : Str → Option Value} {news : List (Addr × Obj)} {value slice : PySem.Expr} {Q : Value → Shared → Prop} {ys : List Value} {k : Nat} {u : Tok} {v : Value}
theorem len_lst (N : News h₀ L s.heap news) (hm : (l, lst ys) ∈ news) (hz : ys.length ≤ 1000) (h : Q (.int (ys.length : Nat) (s.toks + 1)) { s with toks := s.toks + 1 + 1 }) : wpAny (model prog w) A (call (.builtin "len") [.ref l]) Q E s :=
  len_list (items := ys.toArray) ⟨_, (N _ hm).1, rfl, _, rfl⟩ (by rw [List.size_toArray]; omega) (by rw [List.size_toArray]; exact h)
theorem item_lst (N : News h₀ L s.heap news) (hm : (l, lst ys) ∈ news) (hk : k < 1000) (hx : ys[k]? = some v) (h : Q v s)
    (hs : subscripted slice false (.ref l) (.int (k : Int) u) = operate [.ref l, .int (k : Int) u] (getItem (.ref l) (.int (k : Int) u)) := by with_unfolding_all rfl) : wpAny (model prog w) A (subscriptTail value slice (.ref l) (.int (k : Int) u)) Q E s := by
  have hl : s.heap.IsList l ys.toArray := ⟨_, (N _ hm).1, rfl, _, rfl⟩
  exact tail_any hl.typeIs PySem.F.slot_list_getitem.lookup (wpAny_getItem_list hl (by omega) (by omega) (x := v) (by rw [Int.toNat_natCast]; simpa using hx) h) hs
end
theorem reg_49_atom_0 : True := by
  k_with "L call builtin:len" => ((k_here; (with_reducible show wpAny _ _ (call (Value.builtin "len") [Value.ref _]) _ _ _); k_dflt (refine' len_lst ?N ?m ?z ?_; (case N => k_asm); (case m => k_mem); (case z => with_reducible assumption))))
  k_with "L subscriptTail" => ((k_here; (with_reducible show wpAny _ _ (subscriptTail _ _ (Value.ref _) (Value.int (Nat.cast _) _)) _ _ _); k_dflt (refine' item_lst ?N ?m ?z ?x ?_; (case N => k_asm); (case m => k_mem); (case x => with_reducible assumption); (case z => omega))))
  trivial
theorem all2_get {R : Tk → Value → Prop} {toks : List Tk} {ys : List Value} (h : All2 R toks ys) {k : Nat} (hk : k < toks.length) : ∃ tok v, toks[k]? = some tok ∧ ys[k]? = some v ∧ R tok v := by
  have h2 : k < ys.length := by rw [← h.length]; exact hk
  exact ⟨toks[k], ys[k], List.getElem?_eq_getElem hk, List.getElem?_eq_getElem h2, h.get k hk h2⟩
theorem c_atom_out {w : World} (R D l : Addr) (ys : List Value) (k : Nat) (n : Int) (ta tb tc td te : Tok) (rest : List (Addr × Obj)) (hz : ys.length ≤ 1000) (hk3 : ys.length ≤ k) :
    Spec w 2 253 [.ref R] (LR w R D l ys k n ta tb tc td te rest) (fun v n' => (∃ t', v = .str (strL []) t') ∧ n' = LR w R D l ys k n ta tb tc td te rest) := by
  unfold Spec
  intro mean mg mb dp un gd cn cs a ccd cl outer A₀ base h₀ L m s Q E B F X N T hk hd hu hret
  obtain ⟨sh, sg, sd, st, so⟩ := s
  dsimp only at F N hret
  refine wpAny_call ?_
  k_dflt cell_enter
  k_steps
  all_goals exact hret _ _ _ _ (by assumption) (by assumption) ⟨⟨_, congrArg (fun z => Value.str z _) (by decide +kernel)⟩, rfl⟩
theorem c_atom_sign {w : World} (R D l : Addr) (ys : List Value) (k : Nat) (n : Int) (ta tb tc td te : Tok) (rest : List (Addr × Obj)) (T7 : Addr) (b7 : List UInt8) (p7 : Int) (t1 t2 t3 : Tok) (hz : ys.length ≤ 1000) (hk3 : k < ys.length) (hv : ys[k]? = some (.ref T7))
    (hm7 : (T7, ({ cls := .type "tuple", data := .seq #[.str (Str.ofString "sign") t1, .bytes b7.toArray t2, .int p7 t3] } : Obj)) ∈ rest) :
    Spec w 2 253 [.ref R] (LR w R D l ys k n ta tb tc td te rest) (fun v n' => (∃ t', v = .str (strL []) t') ∧ n' = LR w R D l ys k n ta tb tc td te rest) := by
  unfold Spec
  intro mean mg mb dp un gd cn cs a ccd cl outer A₀ base h₀ L m s Q E B F X N T hk hd hu hret
  obtain ⟨sh, sg, sd, st, so⟩ := s
  dsimp only at F N hret
  refine wpAny_call ?_
  k_dflt cell_enter
  k_steps
  all_goals exact hret _ _ _ _ (by assumption) (by assumption) ⟨⟨_, congrArg (fun z => Value.str z _) (by decide +kernel)⟩, rfl⟩
theorem src_bytes_wait {prog : Program} {w : World} {A : Around} {E : Value → Shared → Prop} {h₀ : Heap} {L : Addr} {m : Str → Option Value} {news : List (Addr × Obj)} {b : Array UInt8} {t : Tok} {s₁ : Shared} {Q : Value → Shared → Prop} (hh : A.handled = none) (F : Fr h₀ L s₁.heap m) (N : News h₀ L s₁.heap news) (hsz : b.size ≤ 1000)
    (h : Wait (∀ it s₂, (∃ h, s₂ = { s₁ with heap := h }) → SrcIt prog w A h₀ L m news b.size (fun i v => ∃ c u, b[i]? = some c ∧ v = .int (c.toNat : Int) u) (fun _ => True) it s₂ → Q it s₂)) : wpAny (model prog w) A (pyIter (.bytes b t)) Q E s₁ :=
  src_bytes hh F N (by rw [sizeLine_eq]; omega) h
theorem reg_49_atom_1 : True := by
  k_with "L pyIter bytes" => ((k_here; k_dflt (refine' src_bytes_wait rfl ?F ?N ?z ?_; (case F => k_asm); (case N => k_asm); (case z => assumption))))
  trivial
theorem c_atom_atom {w : World} (R D l : Addr) (ys : List Value) (k : Nat) (n : Int) (ta tb tc td te : Tok) (rest : List (Addr × Obj)) (T7 : Addr) (b7 : List UInt8) (p7 : Int) (t1 t2 t3 : Tok) (hz : ys.length ≤ 1000) (hb9 : b7.length ≤ 1000) (hk3 : k < ys.length) (hv : ys[k]? = some (.ref T7))
    (hm7 : (T7, ({ cls := .type "tuple", data := .seq #[.str (Str.ofString "atom") t1, .bytes b7.toArray t2, .int p7 t3] } : Obj)) ∈ rest) :
    Spec w 2 253 [.ref R] (LR w R D l ys k n ta tb tc td te rest) (fun v n' => (∃ t', v = .str (strL (nat b7)) t') ∧ n' = LR w R D l ys k n ta tb tc td te rest) := by
  have hb10 : b7.toArray.size ≤ 1000 := hb9
  unfold Spec
  intro mean mg mb dp un gd cn cs a ccd cl outer A₀ base h₀ L m s Q E B F X N T hk hd hu hret
  obtain ⟨sh, sg, sd, st, so⟩ := s
  dsimp only at F N hret
  refine wpAny_call ?_
  k_dflt cell_enter
  k_steps
  refine fun it s₂ hs hsrc => ⟨_, _, _, _, hsrc, ?_⟩
  obtain ⟨g, rfl⟩ := hs
  dsimp only
  refine rest_plain (fun i y => ∃ c t', (nat b7)[i]? = some c ∧ y = .str ⟨#[c]⟩ t') ?_ ?_
  · clear hsrc
    rintro i v I oI C oC DD zs m₂ h tk E' hi ⟨cc, u, hcu, rfl⟩ hC hx' F' N' off ne
    have hcn : (nat b7)[i]? = some cc.toNat := by
      unfold nat
      rw [List.getElem?_map, ← List.getElem?_toArray, hcu]; rfl
    have hlt : cc.toNat < 256 := UInt8.toNat_lt cc
    generalize cc.toNat = cn at *
    k_steps
    all_goals exact LCg.CompEnd.intro (by assumption) (by assumption) (LR w R D l ys k n ta tb tc td te rest) (fun p hp => hp) off trivial ⟨⟨cn, _, hcn, by rw [Int.toNat_natCast]⟩, rfl⟩
  · clear hsrc
    intro zs hl hys
    k_steps
    refine join_codes (l := nat b7) (News.get (by assumption) (List.mem_cons_self ..)) (by rw [hl, nat_length]; rfl) (fun i y hy => hys i y hy) (by rw [nat_length]; omega) (fun t' k => ?_)
    k_steps
    all_goals exact hret _ _ _ _ (by assumption) (cb_drop (by assumption) fun p hp => List.mem_cons_of_mem _ hp) ⟨⟨_, rfl⟩, rfl⟩
theorem c_atom {w : World} (R D l : Addr) (ys : List Value) (k : Nat) (n : Int) (ta tb tc td te : Tok) (rest : List (Addr × Obj)) (toks : List Tk) (hall : All2 (TokIn rest) toks ys) (hz : ys.length ≤ 1000) (hs : Small toks) (hk2 : ∀ t ∈ toks, t.1 = 0 ∨ t.1 = 1) :
    Spec w 2 253 [.ref R] (LR w R D l ys k n ta tb tc td te rest) (fun v n' => (∃ t', v = .str (strL (atomS toks k)) t') ∧ n' = LR w R D l ys k n ta tb tc td te rest) := by
  have hlen := hall.length
  rcases Nat.lt_or_ge k toks.length with hk | hk
  · obtain ⟨⟨kk, wd⟩, v, ht, hv, T7, b7, p7, t1, t2, t3, rfl, hm7, hb7⟩ := all2_get hall hk
    have hkind := hk2 _ (List.mem_of_getElem? ht)
    have hsm := hs _ (List.mem_of_getElem? ht)
    rw [atom_at ht]
    rcases hkind with h | h
    · dsimp only at h; subst h
      have hb8 : nat b7 = wd := hb7.resolve_left (fun h => by cases h)
      rw [if_pos rfl, ← hb8]
      exact c_atom_atom R D l ys k n ta tb tc td te rest T7 b7 p7 t1 t2 t3 hz (by rw [← nat_length, hb8]; exact hsm.1) (by omega) hv hm7
    · dsimp only at h; subst h
      rw [if_neg (fun h => by cases h)]
      exact c_atom_sign R D l ys k n ta tb tc td te rest T7 b7 p7 t1 t2 t3 hz (by omega) hv hm7
  · have ha : atomS toks k = [] := by unfold atomS; rw [List.getElem?_eq_none hk]
    rw [ha]
    exact c_atom_out R D l ys k n ta tb tc td te rest hz (by omega)

-- piece 50_skip
theorem walk_50_skip : twoK PySem.Challenge.rw_nz0311_01 MineH.hd.heap_1_39 := by k_fill; w_top off; trivial
section
variable {prog : Program} {w : World} {A : Around} {E : Value → Shared → Prop} {s : Shared} {h₀ : Heap} {L T : Addr} {m : Str → Option Value} {news : List (Addr × Obj)} {a b c : Value} {n : Nat} {u : Tok}
/-- the first two of a tuple of three -/
theorem two_places {sl : Addr} {Q : Int × Int × Nat → Shared → Prop} (hs : s.heap.IsSliceOf sl .none (.int 2 u) .none) (h : Q (0, 1, 2) s) : wpAny (model prog w) A (Builtin.Slice.sliceApplied (.ref sl) (pure (3 : Int))) Q E s := by
  obtain ⟨os, hos, hcs, hds⟩ := id hs
  unfold Builtin.Slice.sliceApplied Builtin.Slice.sliceFields
  refine wpAny_bind (wpAny_bind (wpAny_field hos hds (x := .none) rfl (wpAny_bind (wpAny_field hos hds (x := .int 2 u) rfl (wpAny_bind (wpAny_field hos hds (x := .none) rfl (wpAny_pure ?_)))))))
  refine wpAny_bind (slicePart_none ?_)
  show wpAny _ _ (if ((1 : Int) == 0) = true then _ else _) _ _ s
  rw [if_neg (by decide)]
  refine wpAny_bind (slicePart_none (wpAny_bind (slicePart_int (wpAny_bind (wpAny_pure ?_)))))
  show wpAny _ _ (match Builtin.Slice.sliceAdjust none (some 2) 1 3 with | (lo, hi) => pure (lo, (1 : Int), Builtin.Slice.slicePlaces lo hi 1)) _ _ s
  rw [show Builtin.Slice.sliceAdjust none (some 2) 1 3 = (0, 2) from by decide +kernel]
  show wpAny _ _ (pure ((0 : Int), (1 : Int), Builtin.Slice.slicePlaces 0 2 1)) _ _ s
  rw [show Builtin.Slice.slicePlaces 0 2 1 = 2 from by decide +kernel]
  exact wpAny_pure h
theorem two_item {sl : Addr} {Q : Value → Shared → Prop} (ht : IsTup s.heap T #[a, b, c]) (hs : s.heap.IsSliceOf sl .none (.int 2 u) .none)
    (h : Q (.ref s.heap.objs.size) { s with heap := s.heap.push { cls := .type "tuple", data := .seq #[a, b] } }) : wpAny (model prog w) A (getItem (.ref T) (.ref sl)) Q E s := by
  have hdrop : sizeOk (.seq #[a, b]) := by show 2 ≤ sizeLine; rw [sizeLine_eq]; decide
  obtain ⟨os, hos, hcs, hds⟩ := id hs
  have hTs : s.TypeIs (.ref sl) "slice" := ⟨os, hos, hcs⟩
  unfold getItem
  try with_reducible refine wpAny_holding ?_
  first | refine wpAny_bind (wpAny_pure ?_) | skip
  refine wpAny_bind (wpAny_sequenceKey ht.typeIs (by decide) ?_)
  refine wpAny_bind (wpAny_callSpecial?_slot (name := Str.ofString "__getitem__") ht.typeIs PySem.F.slot_tuple_getitem
    (wpAny_call_entry PySem.F.slot_tuple_getitem ht.typeIs PySem.F.entry_tuple_getitem ?_ (PySem.F.args_tuple_getitem_2 _ _)))
  show wpAny _ _ (Builtin.Tuple.tupleItemsOf (.ref T) >>= _) _ _ s
  refine wpAny_bind (tupleItemsOf_ ht ?_)
  refine wpAny_bind (wpAny_typeOf hTs ?_)
  rw [if_pos (by decide)]
  refine wpAny_bind (two_places hs ?_)
  show wpAny _ _ (if ((0 : Int) == 0 && (1 : Int) == 1 && 2 == 3) = true then _ else _) _ _ s
  rw [if_neg (by decide)]
  first
    | exact wpAny_bind (m := Builtin.Tuple.tupleExact _) (wpAny_newObj_type (wpAny_pure ⟨_, rfl, wpAny_pure h⟩) hdrop)
    | exact wpAny_bind (m := Builtin.Tuple.tupleExact _) (wpAny_newObj_type (wpAny_bind (wpAny_pure (wpAny_pure ⟨_, rfl, wpAny_pure h⟩))) hdrop)
    | exact wpAny_bind (wpAny_bind (m := Builtin.Tuple.tupleExact _) (wpAny_newObj_type (wpAny_pure (wpAny_pure ⟨_, rfl, wpAny_pure h⟩)) hdrop))
    | exact wpAny_bind (wpAny_bind (m := Builtin.Tuple.tupleExact _) (wpAny_newObj_type (wpAny_pure ⟨_, rfl, wpAny_pure h⟩) hdrop))
theorem two_slice {value slice : PySem.Expr} {Q : Value → Shared → Prop} (F : Fr h₀ L s.heap m) (N : News h₀ L s.heap news) (hm : (T, ({ cls := .type "tuple", data := .seq #[a, b, c] n } : Obj)) ∈ news)
    (h : ∀ T' h', Fr h₀ L h' m → News h₀ L h' ((T', { cls := .type "tuple", data := .seq #[a, b] }) :: news) → (∀ p ∈ news, p.1 < T') → Q (.ref T') { s with heap := h' })
    (hs : subscripted slice false (.ref T) (.ref s.heap.objs.size) = operate [.ref s.heap.objs.size, .ref T] (getItem (.ref T) (.ref s.heap.objs.size)) := by with_unfolding_all rfl)
    (hg : ∀ r, letTemporaryGo value (.ref T) r = pure () := by intro _; with_unfolding_all rfl) :
    wpAny (model prog w) A (subscriptTail value slice (.ref T) (.ref s.heap.objs.size)) Q E { s with heap := s.heap.push { cls := .type "slice", data := .fields #[.none, .int 2 u, .none] } } := by
  have ht : IsTup s.heap T #[a, b, c] := ⟨_, (N _ hm).1, rfl, _, rfl⟩
  have ht' : IsTup (s.heap.push { cls := .type "slice", data := .fields #[.none, .int 2 u, .none] }) T #[a, b, c] := ht.keeps fun _ _ e => Heap.get?_push_of_some _ e
  refine subscriptTail_ops (s := { s with heap := s.heap.push { cls := .type "slice", data := .fields #[.none, .int 2 u, .none] } }) ht'.typeIs PySem.F.slot_tuple_getitem.lookup
    (two_item ht' (Heap.IsSliceOf.new ..) ?_) hs hg
  have N1 := News.push (F.push { cls := .type "slice", data := .fields #[.none, .int 2 u, .none] }) (N.grown fun _ _ e => Heap.get?_push_of_some _ e) { cls := .type "tuple", data := .seq #[a, b] }
  rw [Heap.size_push] at N1
  show Q (.ref (s.heap.push _).objs.size) _
  rw [Heap.size_push]
  exact h _ _ ((F.push _).push _) N1 (fun p hp => Nat.lt_succ_of_lt (Heap.lt_size (N p hp).1))
theorem beq_dec (a b : List UInt8) : (a == b) = decide (a = b) := by rw [Bool.eq_iff_iff, beq_iff_eq, decide_eq_true_eq]
theorem ne_pair {l r : Addr} {x y : Str} {p q : Array UInt8} {t1 t2 t3 t4 : Tok} {n1 n2 : Nat} {Q : Value → Shared → Prop} (N : News h₀ L s.heap news) (h1 : (l, ({ cls := .type "tuple", data := .seq #[.str x t1, .bytes p t2] n1 } : Obj)) ∈ news) (h2 : (r, ({ cls := .type "tuple", data := .seq #[.str y t3, .bytes q t4] n2 } : Obj)) ∈ news)
    (hu : A.units < cLine) (h : Q (.bool (!(x == y && p.toList == q.toList))) s) : wpAny (model prog w) A (compareOp .NotEq (.ref l) (.ref r)) Q E s := by
  have i1 : s.heap.IsTuple l #[.str x t1, .bytes p t2] := ⟨_, (N _ h1).1, rfl, _, rfl⟩
  have i2 : s.heap.IsTuple r #[.str y t3, .bytes q t4] := ⟨_, (N _ h2).1, rfl, _, rfl⟩
  refine SeqAt.RcNeAt.tuples (e := fun j => if j = 0 then x == y else p.toList == q.toList) i1 i2 hu (fun j h1 h2 => ?_) _ _ _ _ ?_
  · match j, h1 with
    | 0, _ => exact (eqGives_str x y t1 t3).at _ _
    | 1, _ => exact fun prog w E Q hq => eqBool_bytes (beq_dec p.toList q.toList ▸ hq)
  · have e : (!((List.range (min 2 2)).all (fun j => if j = 0 then x == y else p.toList == q.toList) && (2 : Nat) == 2)) = !(x == y && p.toList == q.toList) := by
      simp [List.range_succ, List.all_append]
    show Q (.bool (!((List.range (min 2 2)).all (fun j => if j = 0 then x == y else p.toList == q.toList) && (2 : Nat) == 2))) s
    rw [e]; exact h
end
theorem reg_50_skip_0 : True := by
  k_with "L subscriptTail" => ((k_here; (with_reducible show wpAny _ _ (subscriptTail _ (Expr.Slice none _ none _) (Value.ref _) (Value.ref _)) _ _ _); k_dflt (refine' two_slice (s := ⟨_, _, _, _, _⟩) ?F ?N ?m ?_; (case F => k_asm); (case N => k_asm); (case m => first | assumption | exact (.tail _ (by assumption)) | exact (.tail _ (.tail _ (by assumption))) | exact (.tail _ (.tail _ (.tail _ (by assumption)))) | exact (.tail _ (.tail _ (.tail _ (.tail _ (by assumption)))))); intro T8q h8q F8q N8q l8q; (try k_lt l8q))))
  k_with "L compareOp NotEq ref ref" => ((k_here; (with_reducible show wpAny _ _ (compareOp CmpOp.NotEq (Value.ref _) (Value.ref _)) _ _ _); k_dflt (refine' ne_pair ?N ?h1 ?h2 ?hu ?_; (case N => k_asm); (case h1 => k_mem); (case h2 => k_mem); (case hu => ktr_units))))
  trivial
theorem c_skip_tok {w : World} (R D l : Addr) (ys : List Value) (k : Nat) (n : Int) (ta tb tc td te : Tok) (rest : List (Addr × Obj)) (T7 : Addr) (kd : Str) (b7 : List UInt8) (p7 : Int) (t1 t2 t3 t : Tok) (cc : UInt8) (hz : ys.length ≤ 1000) (hk3 : k < ys.length) (hv : ys[k]? = some (.ref T7))
    (hm7 : (T7, ({ cls := .type "tuple", data := .seq #[.str kd t1, .bytes b7.toArray t2, .int p7 t3] } : Obj)) ∈ rest) (a1 : @Ne Nat R D) (a2 : @Ne Nat l D) (a3 : @Ne Nat R l) (a4 : ∀ p ∈ rest, p.1 ≠ D) :
    Spec w 2 260 [.ref R, .bytes #[cc] t] (LR w R D l ys k n ta tb tc td te rest) (fun v n' => ((kd == Str.ofString "sign" && b7 == [cc]) = true ∧ v = .bool true ∧ ∃ tc', n' = LR w R D l ys ((k + 1 : Nat) : Int) n ta tb tc' td te rest) ∨ ((kd == Str.ofString "sign" && b7 == [cc]) = false ∧ v = .bool false ∧ n' = LR w R D l ys k n ta tb tc td te rest)) := by
  unfold Spec
  intro mean mg mb dp un gd cn cs a ccd cl outer A₀ base h₀ L m s Q E B F X N T hk hd hu hret
  obtain ⟨sh, sg, sd, st, so⟩ := s
  dsimp only at F N hret
  refine wpAny_call ?_
  k_dflt cell_enter
  k_steps
  · exact hret _ _ _ _ (by assumption) (cb_drop (by assumption) fun p hp => .tail _ (.tail _ hp)) (.inl ⟨by assumption, rfl, _, rfl⟩)
  · exact hret _ _ _ _ (by assumption) (cb_drop (by assumption) fun p hp => .tail _ (.tail _ hp)) (.inr ⟨by assumption, rfl, rfl⟩)
theorem c_skip_out {w : World} (R D l : Addr) (ys : List Value) (k : Nat) (n : Int) (ta tb tc td te : Tok) (rest : List (Addr × Obj)) (t : Tok) (b : Array UInt8) (hz : ys.length ≤ 1000) (hk3 : ys.length ≤ k) :
    Spec w 2 260 [.ref R, .bytes b t] (LR w R D l ys k n ta tb tc td te rest) (fun v n' => v = .bool false ∧ n' = LR w R D l ys k n ta tb tc td te rest) := by
  unfold Spec
  intro mean mg mb dp un gd cn cs a ccd cl outer A₀ base h₀ L m s Q E B F X N T hk hd hu hret
  obtain ⟨sh, sg, sd, st, so⟩ := s
  dsimp only at F N hret
  refine wpAny_call ?_
  k_dflt cell_enter
  k_steps
  all_goals exact hret _ _ _ _ (by assumption) (by assumption) ⟨rfl, rfl⟩
theorem c_skip {w : World} (R D l : Addr) (ys : List Value) (k : Nat) (n : Int) (ta tb tc td te : Tok) (rest : List (Addr × Obj)) (toks : List Tk) (t : Tok) (cc : UInt8) (hz : ys.length ≤ 1000) (hall : All2 (TokIn rest) toks ys) (hk2 : ∀ t ∈ toks, t.1 = 0 ∨ t.1 = 1) (ap : Apart R D l rest) :
    Spec w 2 260 [.ref R, .bytes #[cc] t] (LR w R D l ys k n ta tb tc td te rest) (fun v n' => (skipN toks k cc.toNat = true ∧ v = .bool true ∧ ∃ tc', n' = LR w R D l ys ((k + 1 : Nat) : Int) n ta tb tc' td te rest) ∨ (skipN toks k cc.toNat = false ∧ v = .bool false ∧ n' = LR w R D l ys k n ta tb tc td te rest)) := by
  have hlen := hall.length
  obtain ⟨a1, a2, a3, a4⟩ := ap
  rcases Nat.lt_or_ge k toks.length with hk | hk
  · obtain ⟨⟨kk, wd⟩, v, ht, hv, T7, b7, p7, t1, t2, t3, rfl, hm7, hb7⟩ := all2_get hall hk
    have hkind := hk2 _ (List.mem_of_getElem? ht)
    have hb8 : nat b7 = wd := hb7.resolve_left (fun h => by rcases hkind with q | q <;> (dsimp only at h q; omega))
    have C := c_skip_tok (w := w) R D l ys k n ta tb tc td te rest T7 (kindS kk) b7 p7 t1 t2 t3 t cc hz (by omega) hv hm7 a1 a2 a3 a4
    have e : skipN toks k cc.toNat = (kindS kk == Str.ofString "sign" && b7 == [cc]) := by
      unfold skipN
      rw [ht]
      show (kk == 1 && wd == [cc.toNat]) = _
      rw [nat_beq, hb8]
      rcases hkind with h | h <;> (dsimp only at h; subst h)
      · rw [show (kindS 0 == Str.ofString "sign") = false by decide +kernel]; rfl
      · rw [show (kindS 1 == Str.ofString "sign") = true by decide +kernel]; rfl
    rw [e]; exact C
  · have e : skipN toks k cc.toNat = false := by unfold skipN; rw [List.getElem?_eq_none hk]; rfl
    have C := c_skip_out (w := w) R D l ys k n ta tb tc td te rest t #[cc] hz (by omega)
    intro mean mg mb dp un gd cn cs a ccd cl outer A₀ base h₀ L m s Q E B F X N T hk hd hu hret
    exact C _ _ _ _ _ _ _ _ _ _ _ _ _ _ _ _ _ _ _ _ B F X N T hk hd hu fun v n' h' tk' F' N' r => hret v n' h' tk' F' N' (.inr ⟨e, r.1, r.2⟩)

-- piece 51_number
theorem walk_51_number : twoK PySem.Challenge.rw_nz0311_01 MineH.hd.heap_1_39 := by k_fill; w_top off; trivial
theorem c_place_in {w : World} (R D l : Addr) (ys : List Value) (k : Nat) (n : Int) (ta tb tc td te : Tok) (rest : List (Addr × Obj)) (T7 : Addr) (kd : Str) (b7 : List UInt8) (p7 : Int) (t1 t2 t3 : Tok) (hz : ys.length ≤ 1000) (hk3 : k < ys.length) (hv : ys[k]? = some (.ref T7))
    (hm7 : (T7, ({ cls := .type "tuple", data := .seq #[.str kd t1, .bytes b7.toArray t2, .int p7 t3] } : Obj)) ∈ rest) :
    Spec w 2 248 [.ref R] (LR w R D l ys k n ta tb tc td te rest) (fun v n' => (∃ i t', v = .int i t') ∧ n' = LR w R D l ys k n ta tb tc td te rest) := by
  unfold Spec
  intro mean mg mb dp un gd cn cs a ccd cl outer A₀ base h₀ L m s Q E B F X N T hk hd hu hret
  obtain ⟨sh, sg, sd, st, so⟩ := s
  dsimp only at F N hret
  refine wpAny_call ?_
  k_dflt cell_enter
  k_steps
  all_goals exact hret _ _ _ _ (by assumption) (by assumption) ⟨⟨_, _, rfl⟩, rfl⟩
theorem c_place_out {w : World} (R D l : Addr) (ys : List Value) (k : Nat) (n : Int) (ta tb tc td te : Tok) (rest : List (Addr × Obj)) (hz : ys.length ≤ 1000) (hk3 : ys.length ≤ k) :
    Spec w 2 248 [.ref R] (LR w R D l ys k n ta tb tc td te rest) (fun v n' => (∃ i t', v = .int i t') ∧ n' = LR w R D l ys k n ta tb tc td te rest) := by
  unfold Spec
  intro mean mg mb dp un gd cn cs a ccd cl outer A₀ base h₀ L m s Q E B F X N T hk hd hu hret
  obtain ⟨sh, sg, sd, st, so⟩ := s
  dsimp only at F N hret
  refine wpAny_call ?_
  k_dflt cell_enter
  k_steps
  all_goals exact hret _ _ _ _ (by assumption) (by assumption) ⟨⟨_, _, rfl⟩, rfl⟩
theorem c_place {w : World} (R D l : Addr) (ys : List Value) (k : Nat) (n : Int) (ta tb tc td te : Tok) (rest : List (Addr × Obj)) (toks : List Tk) (hz : ys.length ≤ 1000) (hall : All2 (TokIn rest) toks ys) :
    Spec w 2 248 [.ref R] (LR w R D l ys k n ta tb tc td te rest) (fun v n' => (∃ i t', v = .int i t') ∧ n' = LR w R D l ys k n ta tb tc td te rest) := by
  have hlen := hall.length
  rcases Nat.lt_or_ge k toks.length with hk | hk
  · obtain ⟨⟨kk, wd⟩, v, ht, hv, T7, b7, p7, t1, t2, t3, rfl, hm7, hb7⟩ := all2_get hall hk
    exact c_place_in R D l ys k n ta tb tc td te rest T7 (kindS kk) b7 p7 t1 t2 t3 hz (by omega) hv hm7
  · exact c_place_out R D l ys k n ta tb tc td te rest hz (by omega)
theorem reg_51_number_0 : True := by
  k_with "L call ref" => ((k_here; (with_reducible show wpAny _ _ (call (Value.ref 253) _) _ _ _); k_dflt (refine' Spec.use (c_atom _ _ _ _ _ _ _ _ _ _ _ _ _ ?h1 ?h2 ?h3 ?h4) ?k1 ?k2 ?k3 ?k4 ?k5 ?k6q ?k7q ?k8q ?_; (case k1 => k_asm); (case k2 => k_asm); (case k3 => k_asm); (case k4 => k_asm); (case k5 => k_asm); (case k6q => first | exact rfl | assumption); (case k7q => ktr_room); (case k8q => ktr_units); (case h1 => assumption); (case h2 => assumption); (case h3 => assumption); (case h4 => assumption); refine curry (elimA ?_); intro t9q h9q tk9q F9q N9q; (try dsimp only))))
  k_with "L call ref" => ((k_here; (with_reducible show wpAny _ _ (call (Value.ref 248) _) _ _ _); k_dflt (refine' Spec.use (c_place _ _ _ _ _ _ _ _ _ _ _ _ _ ?h2 ?h1) ?k1 ?k2 ?k3 ?k4 ?k5 ?k6q ?k7q ?k8q ?_; (case k1 => k_asm); (case k2 => k_asm); (case k3 => k_asm); (case k4 => k_asm); (case k5 => k_asm); (case k6q => first | exact rfl | assumption); (case k7q => ktr_room); (case k8q => ktr_units); (case h1 => assumption); (case h2 => assumption); refine curry (elimI ?_); intro i9q t9q h9q tk9q F9q N9q; (try dsimp only))))
  k_with "L call type:int" => ((k_here; (with_reducible show wpAny _ _ (call (Value.type "int") [Value.str (strL _) _]) _ _ _); k_dflt (refine KIN.call_text (n := Int.ofNat _) ((by assumption : figL _ = true → PySem.intText? (strL _) = some (Int.ofNat _)) (by assumption)) (by omega) ?_)))
  trivial
theorem int_figs {l : List Nat} (h : figL l = true) (hz : l.length ≤ 4300) : PySem.intText? (strL l) = some (Int.ofNat (valN l)) := by
  obtain ⟨h1, h2⟩ := figs_all h
  exact PySem.intText_digits (x := strL l) h1 h2 (by show l.toArray.size ≤ 4300; simpa using hz)
theorem raised_sub {base G : Heap} {ls : List Env} {e : Addr} {cls : Value} {news kp : List (Addr × Obj)} {h : Heap} (R : RaisedSN base G ls e cls news h) (hs : ∀ p ∈ kp, p ∈ news) : RaisedSN base G ls e cls kp h := by
  obtain ⟨B, a0, h1, h2, h3, h4⟩ := R
  exact ⟨B, a0, h1, h2, fun q hq => h3 q (hs q hq), h4⟩
theorem c_number {w : World} (R D l : Addr) (ys : List Value) (k : Nat) (n : Int) (ta tb tc td te : Tok) (rest : List (Addr × Obj)) (toks : List Tk) (lo hi : Nat) (t1 t2 : Tok) (hlo : lo ≤ 100) (hhi : hi ≤ 100) (hz : ys.length ≤ 1000) (hall : All2 (TokIn rest) toks ys) (hs : Small toks) (hk2 : ∀ t ∈ toks, t.1 = 0 ∨ t.1 = 1) (ap : Apart R D l rest) :
    SpecX w 6 267 [.ref R, .int (lo : Int) t1, .int (hi : Int) t2] (LR w R D l ys k n ta tb tc td te rest) rest (numOk toks k lo hi = false) (fun v n' => ∃ T t3 t4 tc', v = .ref T ∧ n' = (T, { cls := .type "tuple", data := .seq #[.int (Int.ofNat (valN (atomS toks k))) t3, .int ((atomS toks k).length : Nat) t4] }) :: LR w R D l ys ((k + 1 : Nat) : Int) n ta tb tc' td te rest) := by
  obtain ⟨a1, a2, a3, a4⟩ := ap
  have hsm := atom_small hs k
  obtain ⟨hsz, hsc⟩ := hsm
  have hsl : (strL (atomS toks k)).length = (atomS toks k).length := by unfold strL; rfl
  have hz2 : (strL (atomS toks k)).length ≤ 1000 := hsz
  have hin : figL (atomS toks k) = true → PySem.intText? (strL (atomS toks k)) = some (Int.ofNat (valN (atomS toks k))) := fun h => int_figs h (by
    have : (atomS toks k).length ≤ 1000 := hsz
    omega)
  have hno : Wait (numOk toks k lo hi = (figL (atomS toks k) && (decide (lo ≤ (strL (atomS toks k)).length) && decide ((strL (atomS toks k)).length ≤ hi)))) := rfl
  unfold SpecX
  intro mean mg mb dp un gd cn cs a ccd outer A₀ base h₀ L m s Q E B F X N T hk hd hu hret hraise
  refine wpAny_call ?_
  k_dflt cell_enter
  k_steps
  all_goals have hno : numOk toks k lo hi = (figL (atomS toks k) && (decide (lo ≤ (strL (atomS toks k)).length) && decide ((strL (atomS toks k)).length ≤ hi))) := hno
  all_goals first
    | (refine hret ?_ _ _ _ _ (by assumption) (by assumption) ⟨_, _, _, _, rfl, rfl⟩; rw [hno, show figL (atomS toks k) = true by assumption, decide_eq_true (show lo ≤ (strL (atomS toks k)).length by omega), decide_eq_true (show (strL (atomS toks k)).length ≤ hi by omega)]; decide)
    | (refine hraise ?_ _ _ _ _ (raised_sub (by assumption) (fun p hp => .tail _ (.tail _ (.tail _ hp)))) (by assumption) (by assumption); rw [hno, show figL (atomS toks k) = false by assumption]; rfl)
    | (refine hraise ?_ _ _ _ _ (raised_sub (by assumption) (fun p hp => .tail _ (.tail _ (.tail _ hp)))) (by assumption) (by assumption); rw [hno, decide_eq_false (show ¬ lo ≤ (strL (atomS toks k)).length by omega), Bool.false_and, Bool.and_false])
    | (refine hraise ?_ _ _ _ _ (raised_sub (by assumption) (fun p hp => .tail _ (.tail _ (.tail _ hp)))) (by assumption) (by assumption); rw [hno, decide_eq_false (show ¬ (strL (atomS toks k)).length ≤ hi by omega), Bool.and_false, Bool.and_false])
theorem c_need {w : World} (R D l : Addr) (ys : List Value) (k : Nat) (n : Int) (ta tb tc td te : Tok) (rest : List (Addr × Obj)) (toks : List Tk) (b : Bool) (x : Str) (t2 : Tok) (hz : ys.length ≤ 1000) (hall : All2 (TokIn rest) toks ys) (ap : Apart R D l rest) :
    SpecX w 6 274 [.ref R, .bool b, .str x t2] (LR w R D l ys k n ta tb tc td te rest) rest (b = false) (fun v n' => v = .none ∧ ∃ tc', n' = LR w R D l ys ((k + 1 : Nat) : Int) n ta tb tc' td te rest) := by
  obtain ⟨a1, a2, a3, a4⟩ := ap
  unfold SpecX
  intro mean mg mb dp un gd cn cs a ccd outer A₀ base h₀ L m s Q E B F X N T hk hd hu hret hraise
  refine wpAny_call ?_
  k_dflt cell_enter
  k_steps
  all_goals first
    | exact hret (by simp [*]) _ _ _ _ (by assumption) (by assumption) ⟨rfl, _, rfl⟩
    | exact hraise (by first | rfl | assumption | simp_all) _ _ _ _ (raised_sub (by assumption) (fun p hp => .tail _ (.tail _ (.tail _ hp)))) (by assumption) (by assumption)

-- piece 52_clock
theorem walk_52_clock : twoK PySem.Challenge.rw_nz0311_01 MineH.hd.heap_1_39 := by k_fill; w_top off; trivial
theorem c_number22 {w : World} (R D l : Addr) (ys : List Value) (k : Nat) (n : Int) (ta tb tc td te : Tok) (rest : List (Addr × Obj)) (toks : List Tk) (t1 t2 : Tok) (hz : ys.length ≤ 1000) (hall : All2 (TokIn rest) toks ys) (hs : Small toks) (hk2 : ∀ t ∈ toks, t.1 = 0 ∨ t.1 = 1) (ap : Apart R D l rest) :
    SpecX w 6 267 [.ref R, .int 2 t1, .int 2 t2] (LR w R D l ys k n ta tb tc td te rest) rest (numOk toks k 2 2 = false) (fun v n' => ∃ T t3 t4 tc', v = .ref T ∧ n' = (T, { cls := .type "tuple", data := .seq #[.int ((valN (atomS toks k) : Nat) : Int) t3, .int ((atomS toks k).length : Nat) t4] }) :: LR w R D l ys ((k + 1 : Nat) : Int) n ta tb tc' td te rest) :=
  c_number R D l ys k n ta tb tc td te rest toks 2 2 t1 t2 (by decide) (by decide) hz hall hs hk2 ap
theorem c_number12 {w : World} (R D l : Addr) (ys : List Value) (k : Nat) (n : Int) (ta tb tc td te : Tok) (rest : List (Addr × Obj)) (toks : List Tk) (t1 t2 : Tok) (hz : ys.length ≤ 1000) (hall : All2 (TokIn rest) toks ys) (hs : Small toks) (hk2 : ∀ t ∈ toks, t.1 = 0 ∨ t.1 = 1) (ap : Apart R D l rest) :
    SpecX w 6 267 [.ref R, .int 1 t1, .int 2 t2] (LR w R D l ys k n ta tb tc td te rest) rest (numOk toks k 1 2 = false) (fun v n' => ∃ T t3 t4 tc', v = .ref T ∧ n' = (T, { cls := .type "tuple", data := .seq #[.int ((valN (atomS toks k) : Nat) : Int) t3, .int ((atomS toks k).length : Nat) t4] }) :: LR w R D l ys ((k + 1 : Nat) : Int) n ta tb tc' td te rest) :=
  c_number R D l ys k n ta tb tc td te rest toks 1 2 t1 t2 (by decide) (by decide) hz hall hs hk2 ap
theorem c_number24 {w : World} (R D l : Addr) (ys : List Value) (k : Nat) (n : Int) (ta tb tc td te : Tok) (rest : List (Addr × Obj)) (toks : List Tk) (t1 t2 : Tok) (hz : ys.length ≤ 1000) (hall : All2 (TokIn rest) toks ys) (hs : Small toks) (hk2 : ∀ t ∈ toks, t.1 = 0 ∨ t.1 = 1) (ap : Apart R D l rest) :
    SpecX w 6 267 [.ref R, .int 2 t1, .int 4 t2] (LR w R D l ys k n ta tb tc td te rest) rest (numOk toks k 2 4 = false) (fun v n' => ∃ T t3 t4 tc', v = .ref T ∧ n' = (T, { cls := .type "tuple", data := .seq #[.int ((valN (atomS toks k) : Nat) : Int) t3, .int ((atomS toks k).length : Nat) t4] }) :: LR w R D l ys ((k + 1 : Nat) : Int) n ta tb tc' td te rest) :=
  c_number R D l ys k n ta tb tc td te rest toks 2 4 t1 t2 (by decide) (by decide) hz hall hs hk2 ap
theorem reg_52_clock_0 : True := by
  k_with "L call ref" => ((k_here; (with_reducible show wpAny _ _ (call (Value.ref 267) [_, Value.int 2 _, Value.int 2 _]) _ _ _); k_dflt (refine' SpecX.use (c_number22 _ _ _ _ _ _ _ _ _ _ _ _ _ _ _ ?h1 ?h2 ?h3 ?h4 ?h5) ?k1 ?k2 ?k3 ?k4 ?k5 ?k6q ?k7q ?k8q ?_ ?_; (case k1 => k_asm); (case k2 => k_asm); (case k3 => k_asm); (case k4 => first | k_asm | exact cb_drop (by k_asm) fun p hp => .tail _ hp | exact cb_drop (by k_asm) fun p hp => .tail _ (.tail _ hp) | exact cb_drop (by k_asm) fun p hp => .tail _ (.tail _ (.tail _ hp))); (case k5 => k_asm); (case k6q => first | exact rfl | assumption); (case k7q => ktr_room); (case k8q => ktr_units); (case h1 => assumption); (case h2 => assumption); (case h3 => assumption); (case h4 => assumption); (case h5 => assumption); rotate_left; rintro hP9q e9q h9q tk9q g9q R9q F9q U9q; (try dsimp only); rotate_left; intro hP9q; refine curry (elim4 ?_); intro T9q t8q t7q t6q h9q tk9q F9q N9q; (try dsimp only))))
  k_with "L call ref" => ((k_here; (with_reducible show wpAny _ _ (call (Value.ref 267) [_, Value.int 1 _, Value.int 2 _]) _ _ _); k_dflt (refine' SpecX.use (c_number12 _ _ _ _ _ _ _ _ _ _ _ _ _ _ _ ?h1 ?h2 ?h3 ?h4 ?h5) ?k1 ?k2 ?k3 ?k4 ?k5 ?k6q ?k7q ?k8q ?_ ?_; (case k1 => k_asm); (case k2 => k_asm); (case k3 => k_asm); (case k4 => first | k_asm | exact cb_drop (by k_asm) fun p hp => .tail _ hp | exact cb_drop (by k_asm) fun p hp => .tail _ (.tail _ hp) | exact cb_drop (by k_asm) fun p hp => .tail _ (.tail _ (.tail _ hp))); (case k5 => k_asm); (case k6q => first | exact rfl | assumption); (case k7q => ktr_room); (case k8q => ktr_units); (case h1 => assumption); (case h2 => assumption); (case h3 => assumption); (case h4 => assumption); (case h5 => assumption); rotate_left; rintro hP9q e9q h9q tk9q g9q R9q F9q U9q; (try dsimp only); rotate_left; intro hP9q; refine curry (elim4 ?_); intro T9q t8q t7q t6q h9q tk9q F9q N9q; (try dsimp only))))
  k_with "L call ref" => ((k_here; (with_reducible show wpAny _ _ (call (Value.ref 267) [_, Value.int 2 _, Value.int 4 _]) _ _ _); k_dflt (refine' SpecX.use (c_number24 _ _ _ _ _ _ _ _ _ _ _ _ _ _ _ ?h1 ?h2 ?h3 ?h4 ?h5) ?k1 ?k2 ?k3 ?k4 ?k5 ?k6q ?k7q ?k8q ?_ ?_; (case k1 => k_asm); (case k2 => k_asm); (case k3 => k_asm); (case k4 => first | k_asm | exact cb_drop (by k_asm) fun p hp => .tail _ hp | exact cb_drop (by k_asm) fun p hp => .tail _ (.tail _ hp) | exact cb_drop (by k_asm) fun p hp => .tail _ (.tail _ (.tail _ hp))); (case k5 => k_asm); (case k6q => first | exact rfl | assumption); (case k7q => ktr_room); (case k8q => ktr_units); (case h1 => assumption); (case h2 => assumption); (case h3 => assumption); (case h4 => assumption); (case h5 => assumption); rotate_left; rintro hP9q e9q h9q tk9q g9q R9q F9q U9q; (try dsimp only); rotate_left; intro hP9q; refine curry (elim4 ?_); intro T9q t8q t7q t6q h9q tk9q F9q N9q; (try dsimp only))))
  k_with "L call ref" => ((k_here; (with_reducible show wpAny _ _ (call (Value.ref 274) _) _ _ _); k_dflt (refine' SpecX.use (c_need _ _ _ _ _ _ _ _ _ _ _ _ _ _ _ _ ?h1 ?h2 ?h3) ?k1 ?k2 ?k3 ?k4 ?k5 ?k6q ?k7q ?k8q ?_ ?_; (case k1 => k_asm); (case k2 => k_asm); (case k3 => k_asm); (case k4 => first | k_asm | exact cb_drop (by k_asm) fun p hp => .tail _ hp | exact cb_drop (by k_asm) fun p hp => .tail _ (.tail _ hp) | exact cb_drop (by k_asm) fun p hp => .tail _ (.tail _ (.tail _ hp))); (case k5 => k_asm); (case k6q => first | exact rfl | assumption); (case k7q => ktr_room); (case k8q => ktr_units); (case h1 => assumption); (case h2 => assumption); (case h3 => assumption); rotate_left; rintro hP9q e9q h9q tk9q g9q R9q F9q U9q; (try dsimp only); rotate_left; intro hP9q; refine curry (elimN ?_); intro t6q h9q tk9q F9q N9q; (try dsimp only))))
  k_with "L call ref" => ((k_here; (with_reducible show wpAny _ _ (call (Value.ref 260) _) _ _ _); k_dflt (refine' Spec.use (c_skip _ _ _ _ _ _ _ _ _ _ _ _ _ _ _ ?h1 ?h2 ?h3 ?h4) ?k1 ?k2 ?k3 ?k4 ?k5 ?k6q ?k7q ?k8q ?_; (case k1 => k_asm); (case k2 => k_asm); (case k3 => k_asm); (case k4 => first | k_asm | exact cb_drop (by k_asm) fun p hp => .tail _ hp | exact cb_drop (by k_asm) fun p hp => .tail _ (.tail _ hp) | exact cb_drop (by k_asm) fun p hp => .tail _ (.tail _ (.tail _ hp))); (case k5 => k_asm); (case k6q => first | exact rfl | assumption); (case k7q => ktr_room); (case k8q => ktr_units); (case h1 => assumption); (case h2 => assumption); (case h3 => assumption); (case h4 => assumption); (refine curry (elimS ?_ ?_) <;> (intro s9q; first | (intro (t6q : Tokq) h9q tk9q F9q N9q) | (intro h9q tk9q F9q N9q))); (try dsimp only))))
  k_with "L call ref" => ((k_here; (with_reducible show wpAny _ _ (call (Value.ref 253) _) _ _ _); k_dflt (refine' Spec.use (c_atom _ _ _ _ _ _ _ _ _ _ _ _ _ ?h1 ?h2 ?h3 ?h4) ?k1 ?k2 ?k3 ?k4 ?k5 ?k6q ?k7q ?k8q ?_; (case k1 => k_asm); (case k2 => k_asm); (case k3 => k_asm); (case k4 => first | k_asm | exact cb_drop (by k_asm) fun p hp => .tail _ hp | exact cb_drop (by k_asm) fun p hp => .tail _ (.tail _ hp) | exact cb_drop (by k_asm) fun p hp => .tail _ (.tail _ (.tail _ hp))); (case k5 => k_asm); (case k6q => first | exact rfl | assumption); (case k7q => ktr_room); (case k8q => ktr_units); (case h1 => assumption); (case h2 => assumption); (case h3 => assumption); (case h4 => assumption); refine curry (elimA ?_); intro t9q h9q tk9q F9q N9q; (try dsimp only))))
  k_with "L call ref" => ((k_here; (with_reducible show wpAny _ _ (call (Value.ref 248) _) _ _ _); k_dflt (refine' Spec.use (c_place _ _ _ _ _ _ _ _ _ _ _ _ _ ?h2 ?h1) ?k1 ?k2 ?k3 ?k4 ?k5 ?k6q ?k7q ?k8q ?_; (case k1 => k_asm); (case k2 => k_asm); (case k3 => k_asm); (case k4 => first | k_asm | exact cb_drop (by k_asm) fun p hp => .tail _ hp | exact cb_drop (by k_asm) fun p hp => .tail _ (.tail _ hp) | exact cb_drop (by k_asm) fun p hp => .tail _ (.tail _ (.tail _ hp))); (case k5 => k_asm); (case k6q => first | exact rfl | assumption); (case k7q => ktr_room); (case k8q => ktr_units); (case h1 => assumption); (case h2 => assumption); refine curry (elimI ?_); intro i9q t9q h9q tk9q F9q N9q; (try dsimp only))))
  trivial
section
variable {toks : List Tk} {k : Nat}
theorem num_yes {k lo hi : Nat} (h : ¬ numOk toks k lo hi = false) : numN toks k lo hi = some (valN (atomS toks k), (atomS toks k).length) := by unfold numN; rw [if_pos (Bool.not_eq_false _ ▸ h)]
theorem num_no {k lo hi : Nat} (h : numOk toks k lo hi = false) : numN toks k lo hi = none := by unfold numN; rw [h]; rfl
theorem clock_n1 (h : numOk toks k 2 2 = false) : clockAt toks k = none := by unfold clockAt; rw [num_no h]; rfl
theorem clock_n2 (h : ¬ numOk toks k 2 2 = false) (s : skipN toks (k + 1) 58 = false) : clockAt toks k = none := by unfold clockAt; rw [num_yes h, Option.bind_some, s]; rfl
theorem clock_n3 (h : ¬ numOk toks k 2 2 = false) (s : skipN toks (k + 1) 58 = true) (h2 : numOk toks (k + 1 + 1) 2 2 = false) : clockAt toks k = none := by unfold clockAt; rw [num_yes h, Option.bind_some, s, if_pos rfl, num_no h2]; rfl
theorem clock_n4 (h : ¬ numOk toks k 2 2 = false) (s : skipN toks (k + 1) 58 = true) (h2 : ¬ numOk toks (k + 1 + 1) 2 2 = false) (s2 : skipN toks (k + 1 + 1 + 1) 58 = true) (h3 : numOk toks (k + 1 + 1 + 1 + 1) 2 2 = false) : clockAt toks k = none := by
  unfold clockAt; rw [num_yes h, Option.bind_some, s, if_pos rfl, num_yes h2, Option.bind_some, s2, if_pos rfl, num_no h3]; rfl
theorem clock_s1 (h : ¬ numOk toks k 2 2 = false) (s : skipN toks (k + 1) 58 = true) (h2 : ¬ numOk toks (k + 1 + 1) 2 2 = false) (s2 : skipN toks (k + 1 + 1 + 1) 58 = false) : clockAt toks k = some (valN (atomS toks k), valN (atomS toks (k + 1 + 1)), 0, k + 1 + 1 + 1) := by
  unfold clockAt; rw [num_yes h, Option.bind_some, s, if_pos rfl, num_yes h2, Option.bind_some, s2]; rfl
theorem clock_s2 (h : ¬ numOk toks k 2 2 = false) (s : skipN toks (k + 1) 58 = true) (h2 : ¬ numOk toks (k + 1 + 1) 2 2 = false) (s2 : skipN toks (k + 1 + 1 + 1) 58 = true) (h3 : ¬ numOk toks (k + 1 + 1 + 1 + 1) 2 2 = false) : clockAt toks k = some (valN (atomS toks k), valN (atomS toks (k + 1 + 1)), valN (atomS toks (k + 1 + 1 + 1 + 1)), k + 1 + 1 + 1 + 1 + 1) := by
  unfold clockAt; rw [num_yes h, Option.bind_some, s, if_pos rfl, num_yes h2, Option.bind_some, s2, if_pos rfl, num_yes h3]; rfl
end
theorem mem_skip1 {α : Type} {a b : α} {x : List α} : ∀ p ∈ a :: x, p ∈ a :: b :: x := fun p hp => by
  rcases List.mem_cons.mp hp with rfl | hp
  · exact .head _
  · exact .tail _ (.tail _ hp)
theorem c_clock {w : World} (R D l : Addr) (ys : List Value) (k : Nat) (n : Int) (ta tb tc td te : Tok) (rest : List (Addr × Obj)) (toks : List Tk) (hz : ys.length ≤ 1000) (hall : All2 (TokIn rest) toks ys) (hs : Small toks) (hk2 : ∀ t ∈ toks, t.1 = 0 ∨ t.1 = 1) (ap : Apart R D l rest) :
    SpecX w 8 295 [.ref R] (LR w R D l ys k n ta tb tc td te rest) rest (clockAt toks k = none) (fun v n' => ∃ (h mi sc k' : Nat) (T : Addr) (t3 t4 t5 tc' : Tok), clockAt toks k = some (h, mi, sc, k') ∧ v = .ref T ∧ n' = (T, { cls := .type "tuple", data := .seq #[.int (h : Int) t3, .int (mi : Int) t4, .int (sc : Int) t5] }) :: LR w R D l ys (k' : Int) n ta tb tc' td te rest) := by
  unfold SpecX
  intro mean mg mb dp un gd cn cs a ccd outer A₀ base h₀ L m s Q E B F X N T hk hd hu hret hraise
  refine wpAny_call ?_
  k_dflt cell_enter
  k_steps
  all_goals first
    | exact hret (by rw [clock_s1 (by assumption) (by assumption) (by assumption) (by assumption)]; exact fun h => nomatch h) _ _ _ _ (by assumption) (by assumption) ⟨_, _, _, _, _, _, _, _, _, clock_s1 (by assumption) (by assumption) (by assumption) (by assumption), rfl, rfl⟩
    | exact hret (by rw [clock_s2 (by assumption) (by assumption) (by assumption) (by assumption) (by assumption)]; exact fun h => nomatch h) _ _ _ _ (by assumption) (cb_drop (by assumption) mem_skip1) ⟨_, _, _, _, _, _, _, _, _, clock_s2 (by assumption) (by assumption) (by assumption) (by assumption) (by assumption), rfl, rfl⟩
    | (refine hraise ?_ _ _ _ _ (by assumption) (by assumption) (by assumption); first | exact clock_n1 (by assumption) | exact clock_n2 (by assumption) (by assumption) | exact clock_n3 (by assumption) (by assumption) (by assumption) | exact clock_n4 (by assumption) (by assumption) (by assumption) (by assumption) (by assumption))
    | (refine hraise ?_ _ _ _ _ (raised_sub (by assumption) (fun p hp => .tail _ (.tail _ (.tail _ hp)))) (by assumption) (by assumption); exact clock_n2 (by assumption) (by assumption))

-- piece 53_readzone
theorem walk_53_readzone : twoK PySem.Challenge.rw_nz0311_01 MineH.hd.heap_1_39 := by k_fill; w_top off; trivial
theorem reg_53_readzone_0 : True := by
  k_with "L call ref" => ((k_here; (with_reducible show wpAny _ _ (call (Value.ref 295) _) _ _ _); k_dflt (refine' SpecX.use (c_clock _ _ _ _ _ _ _ _ _ _ _ _ _ ?h1 ?h2 ?h3 ?h4 ?h5) ?k1 ?k2 ?k3 ?k4 ?k5 ?k6q ?k7q ?k8q ?_ ?_; (case k1 => k_asm); (case k2 => k_asm); (case k3 => k_asm); (case k4 => first | k_asm | exact cb_drop (by k_asm) fun p hp => .tail _ hp | exact cb_drop (by k_asm) fun p hp => .tail _ (.tail _ hp) | exact cb_drop (by k_asm) fun p hp => .tail _ (.tail _ (.tail _ hp))); (case k5 => k_asm); (case k6q => first | exact rfl | assumption); (case k7q => ktr_room); (case k8q => ktr_units); (case h1 => assumption); (case h2 => assumption); (case h3 => assumption); (case h4 => assumption); (case h5 => assumption); rotate_left; rintro hP9q e9q h9q tk9q g9q R9q F9q U9q; (try dsimp only); rotate_left; intro hP9q; refine curry (elimC ?_); intro ch9q cm9q cs9q ck9q T9q t8q t7q t6q t5q ce9q h9q tk9q F9q N9q; (try dsimp only))))
  trivial
theorem c_read_zone {w : World} (R D l : Addr) (ys : List Value) (k : Nat) (n : Int) (ta tb tc td te : Tok) (rest : List (Addr × Obj)) (toks : List Tk) (hz : ys.length ≤ 1000) (hall : All2 (TokIn rest) toks ys) (hs : Small toks) (hk2 : ∀ t ∈ toks, t.1 = 0 ∨ t.1 = 1) (ap : Apart R D l rest) :
    SpecX w 8 302 [.ref R] (LR w R D l ys k n ta tb tc td te rest) rest (zoneOk (atomS toks k) = false) (fun v n' => (∃ i t', v = .int i t') ∧ ∃ tc', n' = LR w R D l ys ((k + 1 : Nat) : Int) n ta tb tc' td te rest) := by
  obtain ⟨hsz, hsc⟩ := atom_small hs k
  have hzo : Wait (zoneOk (atomS toks k) = (zoneInN (strL (atomS toks k)).cps.toList || namedN (strL (atomS toks k)).cps.toList)) := rfl
  unfold SpecX
  intro mean mg mb dp un gd cn cs a ccd outer A₀ base h₀ L m s Q E B F X N T hk hd hu hret hraise
  refine wpAny_call ?_
  k_dflt cell_enter
  k_steps
  all_goals have hzo : zoneOk (atomS toks k) = (zoneInN (strL (atomS toks k)).cps.toList || namedN (strL (atomS toks k)).cps.toList) := hzo
  all_goals first
    | exact hret (by rw [hzo, show zoneInN (strL (atomS toks k)).cps.toList = true by assumption]; exact fun h => nomatch h) _ _ _ _ (by assumption) (by assumption) ⟨⟨_, _, rfl⟩, _, rfl⟩
    | exact hret (by rw [hzo, show namedN (strL (atomS toks k)).cps.toList = true by assumption, Bool.or_true]; exact fun h => nomatch h) _ _ _ _ (by assumption) (by assumption) ⟨⟨_, _, rfl⟩, _, rfl⟩
    | exact hraise (by rw [hzo, show zoneInN (strL (atomS toks k)).cps.toList = false by assumption, show namedN (strL (atomS toks k)).cps.toList = false by assumption]; rfl) _ _ _ _ (by assumption) (by assumption) (by assumption)
    | exact Bool.noConfusion (by assumption : true = false)
    | exact absurd rfl (by assumption : ¬ false = false)

theorem reg_53_readzone_1 : True := by
  k_with "L call ref" => ((k_here; (with_reducible show wpAny _ _ (call (Value.ref 302) _) _ _ _); k_dflt (refine' SpecX.use (c_read_zone _ _ _ _ _ _ _ _ _ _ _ _ _ ?h1 ?h2 ?h3 ?h4 ?h5) ?k1 ?k2 ?k3 ?k4 ?k5 ?k6q ?k7q ?k8q ?_ ?_; (case k1 => k_asm); (case k2 => k_asm); (case k3 => k_asm); (case k4 => first | k_asm | exact cb_drop (by k_asm) fun p hp => .tail _ hp | exact cb_drop (by k_asm) fun p hp => .tail _ (.tail _ hp) | exact cb_drop (by k_asm) fun p hp => .tail _ (.tail _ (.tail _ hp))); (case k5 => k_asm); (case k6q => first | exact rfl | assumption); (case k7q => ktr_room); (case k8q => ktr_units); (case h1 => assumption); (case h2 => assumption); (case h3 => assumption); (case h4 => assumption); (case h5 => assumption); rotate_left; rintro hP9q e9q h9q tk9q g9q R9q F9q U9q; (try dsimp only); rotate_left; intro hP9q; refine curry (elimZ ?_); intro i9q t8q t6q h9q tk9q F9q N9q; (try dsimp only))))
  trivial
-- piece 53_zreader
theorem walk_53_zreader : twoK PySem.Challenge.rw_nz0311_01 MineH.hd.heap_1_39 := by k_fill; w_top off; trivial
theorem tokOne_small {l : List Nat} {k n : Nat} {wd : List Nat} (h : tokOne l = some (k, wd, n)) : wd.length ≤ l.length ∧ ∀ c ∈ wd, c ∈ l := by
  unfold tokOne at h
  split at h
  · cases h
  · rename_i c r
    split at h
    · cases h
    · split at h
      · cases h
      · split at h
        · obtain ⟨e, _, he⟩ := Option.map_eq_some_iff.mp h
          cases he; exact ⟨Nat.zero_le _, fun c hc => nomatch hc⟩
        · split at h
          · cases h; exact ⟨by simp, fun c hc => by rw [List.mem_singleton.mp hc]; exact .head _⟩
          · split at h
            · cases h; exact ⟨(List.takeWhile_prefix _).length_le, fun c hc => (List.takeWhile_prefix _).subset hc⟩
            · cases h
theorem lexG_small : ∀ (f : Nat) (l : List Nat) (ts : List Tk), lexG f l = some ts → ∀ t ∈ ts, t.2.length ≤ l.length ∧ ∀ c ∈ t.2, c ∈ l
  | 0, _, _, h => by cases h
  | f + 1, l, ts, h => by
    unfold lexG at h
    split at h
    · cases h; intro t ht; cases ht
    · split at h
      · cases h
      · rename_i k wd n ht
        obtain ⟨r, hr, rfl⟩ := Option.map_eq_some_iff.mp h
        intro t htm
        rcases List.mem_cons.mp htm with rfl | htm
        · exact tokOne_small ht
        · have ih := lexG_small f _ _ hr t htm
          have hsub : ∀ c ∈ (l.drop n).dropWhile isWhite, c ∈ l := fun c hc => List.mem_of_mem_drop ((List.dropWhile_sublist _).subset hc)
          have hlen : ((l.drop n).dropWhile isWhite).length ≤ l.length := Nat.le_trans (dropWhile_le _ _) (by rw [List.length_drop]; omega)
          exact ⟨Nat.le_trans ih.1 hlen, fun c hc => hsub c (ih.2 c hc)⟩
theorem lexN_small {l : List Nat} {ts : List Tk} (hz : l.length ≤ 1000) (hb : ∀ c ∈ l, c < 256) (h : lexN l = some ts) : Small ts := fun t ht => by
  have := lexG_small _ _ _ h t ht
  exact ⟨Nat.le_trans this.1 (Nat.le_trans (dropWhile_le _ _) hz), fun c hc => hb c ((List.dropWhile_sublist _).subset (this.2 c hc))⟩
theorem noComm_small {ts : List Tk} (h : Small ts) : Small (noComm ts) := fun t ht => h t (List.mem_filter.mp ht).1
theorem noComm_kinds {ts : List Tk} (h : Kinds ts) : ∀ t ∈ noComm ts, t.1 = 0 ∨ t.1 = 1 := fun t ht => by
  obtain ⟨h1, h2⟩ := List.mem_filter.mp ht
  rcases h t h1 with e | e | e
  · exact .inl e
  · exact .inr e
  · rw [e] at h2; cases h2
theorem nat_byte {d : List UInt8} : ∀ c ∈ nat d, c < 256 := fun c hc => by
  unfold nat at hc
  obtain ⟨b, _, rfl⟩ := List.mem_map.mp hc
  exact UInt8.toNat_lt b
/-- the reader as made, by the statement that makes it -/
noncomputable def JoinN (w : World) (h₀ : Heap) (L : Addr) (m : Str → Option Value) (s : Shared) (toks : List Tk) (news : List (Addr × Obj)) (fl : Flow) (s' : Shared) : Prop :=
  fl = .next ∧ ∃ (hh : Heap) (tk : Nat) (R D l : Addr) (ys : List Value) (n : Int) (ta tb tc td te : Tok) (rest : List (Addr × Obj)), s' = { s with heap := hh, toks := tk } ∧ Fr h₀ L hh (fun y => if y = Str.ofString "reader" then some (.ref R) else m y) ∧ News h₀ L hh (LR w R D l ys (0 : Nat) n ta tb tc td te rest) ∧
    All2 (TokIn rest) (noComm toks) ys ∧ ys.length ≤ 1000 ∧ Apart R D l rest ∧ Held (∀ p ∈ news, p ∈ rest)
theorem new_join {prog : Program} {w w' : World} {A : Around} {E : Value → Shared → Prop} {s : Shared} {st : Stmt} {env : Env} {Q : Flow → Shared → Prop} {h₀ : Heap} {L : Addr} {m : Str → Option Value} {news : List (Addr × Obj)} (_F : Fr h₀ L s.heap m) (_N : News h₀ L s.heap news) (toks : List Tk)
    (h1 : wpAny (model prog w') A (exec st env) (JoinN w h₀ L m s toks news) E s)
    (h2 : ∀ (hh : Heap) (tk : Nat) (R D l : Addr) (ys : List Value) (n : Int) (ta tb tc td te : Tok) (rest : List (Addr × Obj)), Fr h₀ L hh (fun y => if y = Str.ofString "reader" then some (.ref R) else m y) → News h₀ L hh (LR w R D l ys (0 : Nat) n ta tb tc td te rest) → All2 (TokIn rest) (noComm toks) ys → ys.length ≤ 1000 → Apart R D l rest → Held (∀ p ∈ news, p ∈ rest) → Q .next { s with heap := hh, toks := tk }) : wpAny (model prog w') A (exec st env) Q E s :=
  wpAny_mono h1 (fun fl s' h => by obtain ⟨rfl, hh, tk, R, D, l, ys, n, ta, tb, tc, td, te, rest, rfl, F, N, a1, a2, a3, a4⟩ := h; exact h2 hh tk R D l ys n ta tb tc td te rest F N a1 a2 a3 a4) fun _ _ e => e

-- piece 54_date
theorem walk_54_date : twoK PySem.Challenge.rw_nz0311_01 MineH.hd.heap_1_39 := by k_fill; w_top off; trivial
theorem reg_54_date_0 : True := by
  k_with "L call ref" => ((k_here; (with_reducible show wpAny _ _ (call (Value.ref 210) [Value.str (strL (atomS _ _)) _]) _ _ _); k_dflt (refine' Spec.use (c_is_day_name _ _ ((by assumption : ∀ k, (strL (atomS _ k)).cps.size ≤ 1000) _) ((by assumption : ∀ k, ∀ c ∈ (strL (atomS _ k)).cps, c < 1114000) _) _) ?k1 ?k2 ?k3 ?k4 ?k5 ?k6q ?k7q ?k8q ?_; (case k1 => k_asm); (case k2 => k_asm); (case k3 => k_asm); (case k4 => k_asm); (case k5 => k_asm); (case k6q => first | exact rfl | assumption); (case k7q => ktr_room); (case k8q => ktr_units); refine curry (elimB ?_); intro h9q tk9q F9q N9q; (try dsimp only))))
  k_with "L call ref" => ((k_here; (with_reducible show wpAny _ _ (call (Value.ref 205) [Value.str (strL (atomS _ _)) _]) _ _ _); k_dflt (refine' Spec.use (c_month_number _ _ ((by assumption : ∀ k, (strL (atomS _ k)).cps.size ≤ 1000) _) ((by assumption : ∀ k, ∀ c ∈ (strL (atomS _ k)).cps, c < 1114000) _) _) ?k1 ?k2 ?k3 ?k4 ?k5 ?k6q ?k7q ?k8q ?_; (case k1 => k_asm); (case k2 => k_asm); (case k3 => k_asm); (case k4 => k_asm); (case k5 => k_asm); (case k6q => first | exact rfl | assumption); (case k7q => ktr_room); (case k8q => ktr_units); refine curry (elimA ?_); intro t9q h9q tk9q F9q N9q; (try dsimp only))))
  trivial
theorem c_atom0 {w : World} (R D l : Addr) (ys : List Value) (n : Int) (ta tb tc td te : Tok) (rest : List (Addr × Obj)) (toks : List Tk) (hall : All2 (TokIn rest) toks ys) (hz : ys.length ≤ 1000) (hs : Small toks) (hk2 : ∀ t ∈ toks, t.1 = 0 ∨ t.1 = 1) :
    Spec w 2 253 [.ref R] (LR w R D l ys 0 n ta tb tc td te rest) (fun v n' => (∃ t', v = .str (strL (atomS toks 0)) t') ∧ n' = LR w R D l ys ((0 : Nat) : Int) n ta tb tc td te rest) := c_atom R D l ys 0 n ta tb tc td te rest toks hall hz hs hk2
theorem c_skip_s {w : World} (R D l : Addr) (ys : List Value) (k : Nat) (n : Int) (ta tb tc td te : Tok) (rest : List (Addr × Obj)) (toks : List Tk) (t : Tok) (cc : UInt8) (hz : ys.length ≤ 1000) (hall : All2 (TokIn rest) toks ys) (hk2 : ∀ t ∈ toks, t.1 = 0 ∨ t.1 = 1) (ap : Apart R D l rest) :
    Spec w 2 260 [.ref R, .bytes #[cc] t] (LR w R D l ys ((k : Int) + 1) n ta tb tc td te rest) (fun v n' => (skipN toks (k + 1) cc.toNat = true ∧ v = .bool true ∧ ∃ tc', n' = LR w R D l ys ((k + 1 + 1 : Nat) : Int) n ta tb tc' td te rest) ∨ (skipN toks (k + 1) cc.toNat = false ∧ v = .bool false ∧ n' = LR w R D l ys ((k + 1 : Nat) : Int) n ta tb tc td te rest)) := c_skip R D l ys (k + 1) n ta tb tc td te rest toks t cc hz hall hk2 ap
theorem reg_54_date_1 : True := by
  k_with "L call ref" => ((k_here; (with_reducible show wpAny _ _ (call (Value.ref 253) _) _ _ _); k_dflt (refine' Spec.use (c_atom0 _ _ _ _ _ _ _ _ _ _ _ _ ?h1 ?h2 ?h3 ?h4) ?k1 ?k2 ?k3 ?k4 ?k5 ?k6q ?k7q ?k8q ?_; (case k1 => k_asm); (case k2 => k_asm); (case k3 => k_asm); (case k4 => first | k_asm | exact cb_drop (by k_asm) fun p hp => .tail _ hp | exact cb_drop (by k_asm) fun p hp => .tail _ (.tail _ hp) | exact cb_drop (by k_asm) fun p hp => .tail _ (.tail _ (.tail _ hp))); (case k5 => k_asm); (case k6q => first | exact rfl | assumption); (case k7q => ktr_room); (case k8q => ktr_units); (case h1 => assumption); (case h2 => assumption); (case h3 => assumption); (case h4 => assumption); refine curry (elimA ?_); intro t9q h9q tk9q F9q N9q; (try dsimp only))))
  k_with "L call ref" => ((k_here; (with_reducible show wpAny _ _ (call (Value.ref 260) _) _ _ _); k_dflt (refine' Spec.use (c_skip_s _ _ _ _ _ _ _ _ _ _ _ _ _ _ _ ?h1 ?h2 ?h3 ?h4) ?k1 ?k2 ?k3 ?k4 ?k5 ?k6q ?k7q ?k8q ?_; (case k1 => k_asm); (case k2 => k_asm); (case k3 => k_asm); (case k4 => first | k_asm | exact cb_drop (by k_asm) fun p hp => .tail _ hp | exact cb_drop (by k_asm) fun p hp => .tail _ (.tail _ hp) | exact cb_drop (by k_asm) fun p hp => .tail _ (.tail _ (.tail _ hp))); (case k5 => k_asm); (case k6q => first | exact rfl | assumption); (case k7q => ktr_room); (case k8q => ktr_units); (case h1 => assumption); (case h2 => assumption); (case h3 => assumption); (case h4 => assumption); (refine curry (elimS ?_ ?_) <;> (intro s9q; first | (intro (t6q : Tokq) h9q tk9q F9q N9q) | (intro h9q tk9q F9q N9q))); (try dsimp only))))
  trivial
theorem val_le : ∀ (l : List Nat) (a : Nat), (∀ c ∈ l, c ≤ 57) → l.foldl (fun acc c => acc * 10 + (c - 48)) a ≤ (a + 1) * 10 ^ l.length
  | [], a, _ => by simp
  | c :: r, a, h => by
    rw [List.foldl_cons]
    refine Nat.le_trans (val_le r _ fun x hx => h x (.tail _ hx)) ?_
    have hc := h c (.head _)
    rw [List.length_cons, Nat.pow_succ, Nat.mul_comm (10 ^ r.length) 10, ← Nat.mul_assoc]
    exact Nat.mul_le_mul_right _ (by omega)
theorem num_small {toks : List Tk} {k : Nat} (h : ¬ numOk toks k 2 4 = false) : valN (atomS toks k) < 100000 := by
  have h : numOk toks k 2 4 = true := Bool.not_eq_false _ ▸ h
  unfold numOk at h
  rw [Bool.and_eq_true, Bool.and_eq_true, decide_eq_true_eq, decide_eq_true_eq] at h
  obtain ⟨h1, -, h3⟩ := h
  have hd := (figs_all h1).1
  have := val_le (atomS toks k) 0 fun c hc => (hd c hc).2
  have hp : 10 ^ (atomS toks k).length ≤ 10 ^ 4 := Nat.pow_le_pow_right (by decide) h3
  unfold valN
  omega
theorem reg_54_date_2 : True := by
  k_with "L call ref" => ((k_here; (with_reducible show wpAny _ _ (call (Value.ref 288) [Value.int (Nat.cast (valN (atomS _ _))) _, Value.int _ _]) _ _ _); k_dflt (refine' Spec.use (c_full_year _ _ _ _ (Int.natCast_nonneg _) (Int.ofNat_lt.mpr (num_small (by assumption))) _) ?k1 ?k2 ?k3 ?k4 ?k5 ?k6q ?k7q ?k8q ?_; (case k1 => k_asm); (case k2 => k_asm); (case k3 => k_asm); (case k4 => k_asm); (case k5 => k_asm); (case k6q => first | exact rfl | assumption); (case k7q => ktr_room); (case k8q => ktr_units); refine curry (elimA ?_); intro t9q h9q tk9q F9q N9q; (try dsimp only))))
  trivial
/-- the end of a statement that moves the reader alone -/
noncomputable def JoinR (w : World) (h₀ : Heap) (L : Addr) (m : Str → Option Value) (s : Shared) (R D l : Addr) (ys : List Value) (kk : Nat) (n : Int) (ta tb td te : Tok) (rest : List (Addr × Obj)) (fl : Flow) (s' : Shared) : Prop :=
  fl = .next ∧ ∃ hh tk tc', s' = { s with heap := hh, toks := tk } ∧ Fr h₀ L hh m ∧ News h₀ L hh (LR w R D l ys (kk : Nat) n ta tb tc' td te rest)
theorem joinR_of {w : World} {h₀ hh : Heap} {L : Addr} {m : Str → Option Value} {s : Shared} {R D l : Addr} {ys : List Value} {kk k : Nat} {n : Int} {ta tb tc' td te : Tok} {rest : List (Addr × Obj)} {tk : Nat} (e : kk = k) (F : Fr h₀ L hh m) (N : News h₀ L hh (LR w R D l ys (k : Nat) n ta tb tc' td te rest)) : JoinR w h₀ L m s R D l ys kk n ta tb td te rest .next { s with heap := hh, toks := tk } := by
  subst e; exact ⟨rfl, hh, tk, tc', rfl, F, N⟩
section
variable {toks : List Tk}
theorem day_0 (h1 : isDayN (strL (atomS toks 0)) = false) : dayAt toks = 0 := by unfold dayAt; rw [h1]; rfl
theorem day_1 (h1 : isDayN (strL (atomS toks 0)) = true) (h2 : skipN toks (0 + 1) (UInt8.toNat 44) = false) : dayAt toks = 0 + 1 := by
  have h2 : skipN toks 1 44 = false := h2
  unfold dayAt; rw [h1, h2]; rfl
theorem day_2 (h1 : isDayN (strL (atomS toks 0)) = true) (h2 : skipN toks (0 + 1) (UInt8.toNat 44) = true) : dayAt toks = 0 + 1 + 1 := by
  have h2 : skipN toks 1 44 = true := h2
  unfold dayAt; rw [h1, h2]; rfl
theorem mon_yes {x : Int} (h : ¬ decide (0 < x) = false) : ¬ x ≤ 0 := by simpa using h
theorem mon_no {x : Int} (h : decide (0 < x) = false) : x ≤ 0 := by simpa using h
variable {ch cm cs ck : Nat}
theorem date_n1 (h1 : numOk toks (dayAt toks) 1 2 = false) : dateAt toks = none := by unfold dateAt; rw [num_no h1]; rfl
theorem date_n2 (h1 : ¬ numOk toks (dayAt toks) 1 2 = false) (h2 : decide (0 < monthN (strL (atomS toks (dayAt toks + 1)))) = false) : dateAt toks = none := by
  unfold dateAt; rw [num_yes h1, Option.bind_some, if_pos (mon_no h2)]
theorem date_n3 (h1 : ¬ numOk toks (dayAt toks) 1 2 = false) (h2 : ¬ decide (0 < monthN (strL (atomS toks (dayAt toks + 1)))) = false) (h3 : numOk toks (dayAt toks + 1 + 1) 2 4 = false) : dateAt toks = none := by
  have h3 : numOk toks (dayAt toks + 2) 2 4 = false := h3
  unfold dateAt; rw [num_yes h1, Option.bind_some, if_neg (mon_yes h2), num_no h3]; rfl
theorem date_3 (h1 : ¬ numOk toks (dayAt toks) 1 2 = false) (h2 : ¬ decide (0 < monthN (strL (atomS toks (dayAt toks + 1)))) = false) (h3 : ¬ numOk toks (dayAt toks + 1 + 1) 2 4 = false) :
    dateAt toks = (if isDayI (fullYear (valN (atomS toks (dayAt toks + 1 + 1)) : Nat) ((atomS toks (dayAt toks + 1 + 1)).length : Nat)) (monthN (strL (atomS toks (dayAt toks + 1)))) (valN (atomS toks (dayAt toks)) : Nat) = false then none else
    (clockAt toks (dayAt toks + 1 + 1 + 1)).bind fun c => if isTimeI c.1 c.2.1 c.2.2.1 = false then none else if zoneOk (atomS toks c.2.2.2) = false then none else
      if c.2.2.2 + 1 < toks.length then none else some (fullYear (valN (atomS toks (dayAt toks + 1 + 1)) : Nat) ((atomS toks (dayAt toks + 1 + 1)).length : Nat), monthN (strL (atomS toks (dayAt toks + 1))), ((valN (atomS toks (dayAt toks)) : Nat) : Int))) := by
  have h3 : ¬ numOk toks (dayAt toks + 2) 2 4 = false := h3
  unfold dateAt; rw [num_yes h1, Option.bind_some, if_neg (mon_yes h2), num_yes h3]; rfl
theorem date_n4 (h1 : ¬ numOk toks (dayAt toks) 1 2 = false) (h2 : ¬ decide (0 < monthN (strL (atomS toks (dayAt toks + 1)))) = false) (h3 : ¬ numOk toks (dayAt toks + 1 + 1) 2 4 = false)
    (h4 : isDayI (fullYear (valN (atomS toks (dayAt toks + 1 + 1)) : Nat) ((atomS toks (dayAt toks + 1 + 1)).length : Nat)) (monthN (strL (atomS toks (dayAt toks + 1)))) (valN (atomS toks (dayAt toks)) : Nat) = false) : dateAt toks = none := by
  rw [date_3 h1 h2 h3, if_pos h4]
theorem date_n5 (h1 : ¬ numOk toks (dayAt toks) 1 2 = false) (h2 : ¬ decide (0 < monthN (strL (atomS toks (dayAt toks + 1)))) = false) (h3 : ¬ numOk toks (dayAt toks + 1 + 1) 2 4 = false) (h5 : clockAt toks (dayAt toks + 1 + 1 + 1) = none) : dateAt toks = none := by
  rw [date_3 h1 h2 h3, h5]; split <;> rfl
theorem date_n6 (h1 : ¬ numOk toks (dayAt toks) 1 2 = false) (h2 : ¬ decide (0 < monthN (strL (atomS toks (dayAt toks + 1)))) = false) (h3 : ¬ numOk toks (dayAt toks + 1 + 1) 2 4 = false) (h5 : clockAt toks (dayAt toks + 1 + 1 + 1) = some (ch, cm, cs, ck)) (h6 : isTimeI (ch : Nat) (cm : Nat) (cs : Nat) = false) : dateAt toks = none := by
  rw [date_3 h1 h2 h3, h5, Option.bind_some, if_pos h6]; split <;> rfl
theorem date_n7 (h1 : ¬ numOk toks (dayAt toks) 1 2 = false) (h2 : ¬ decide (0 < monthN (strL (atomS toks (dayAt toks + 1)))) = false) (h3 : ¬ numOk toks (dayAt toks + 1 + 1) 2 4 = false) (h5 : clockAt toks (dayAt toks + 1 + 1 + 1) = some (ch, cm, cs, ck)) (h7 : zoneOk (atomS toks ck) = false) : dateAt toks = none := by
  rw [date_3 h1 h2 h3, h5, Option.bind_some]; dsimp only; rw [if_pos h7]; split <;> first | rfl | (split <;> rfl)
theorem date_n8 {ys : List Value} (h1 : ¬ numOk toks (dayAt toks) 1 2 = false) (h2 : ¬ decide (0 < monthN (strL (atomS toks (dayAt toks + 1)))) = false) (h3 : ¬ numOk toks (dayAt toks + 1 + 1) 2 4 = false) (h5 : clockAt toks (dayAt toks + 1 + 1 + 1) = some (ch, cm, cs, ck)) (hl : toks.length = ys.length) (h8 : ((ck + 1 : Nat) : Int) < (ys.length : Nat)) : dateAt toks = none := by
  rw [date_3 h1 h2 h3, h5, Option.bind_some]; dsimp only; rw [if_pos (show ck + 1 < toks.length by omega)]; split <;> first | rfl | (split <;> first | rfl | (split <;> rfl))
theorem date_y {ys : List Value} (h1 : ¬ numOk toks (dayAt toks) 1 2 = false) (h2 : ¬ decide (0 < monthN (strL (atomS toks (dayAt toks + 1)))) = false) (h3 : ¬ numOk toks (dayAt toks + 1 + 1) 2 4 = false) (h5 : clockAt toks (dayAt toks + 1 + 1 + 1) = some (ch, cm, cs, ck))
    (h4 : isDayI (fullYear (valN (atomS toks (dayAt toks + 1 + 1)) : Nat) ((atomS toks (dayAt toks + 1 + 1)).length : Nat)) (monthN (strL (atomS toks (dayAt toks + 1)))) (valN (atomS toks (dayAt toks)) : Nat) = true) (h6 : isTimeI (ch : Nat) (cm : Nat) (cs : Nat) = true) (h7 : ¬ zoneOk (atomS toks ck) = false) (hl : toks.length = ys.length) (h8 : ¬ ((ck + 1 : Nat) : Int) < (ys.length : Nat)) :
    dateAt toks = some (fullYear (valN (atomS toks (dayAt toks + 1 + 1)) : Nat) ((atomS toks (dayAt toks + 1 + 1)).length : Nat), monthN (strL (atomS toks (dayAt toks + 1))), ((valN (atomS toks (dayAt toks)) : Nat) : Int)) := by
  rw [date_3 h1 h2 h3, h5, Option.bind_some]; dsimp only; rw [h4, h6, if_neg (fun h => nomatch h), if_neg (fun h => nomatch h), if_neg h7, if_neg (show ¬ ck + 1 < toks.length by omega)]
end
/-- a Moment's dict -/
noncomputable abbrev moD (w : World) (y mo da ho mi se zo : Int) (k1 k2 k3 k4 k5 k6 k7 t1 t2 t3 t4 t5 t6 t7 : Tok) : Obj := dictOf [⟨PyData.keyHash w.params (Str.ofString "year"), .str (Str.ofString "year") k1, .int y t1⟩, ⟨PyData.keyHash w.params (Str.ofString "month"), .str (Str.ofString "month") k2, .int mo t2⟩, ⟨PyData.keyHash w.params (Str.ofString "day"), .str (Str.ofString "day") k3, .int da t3⟩, ⟨PyData.keyHash w.params (Str.ofString "hour"), .str (Str.ofString "hour") k4, .int ho t4⟩, ⟨PyData.keyHash w.params (Str.ofString "minute"), .str (Str.ofString "minute") k5, .int mi t5⟩, ⟨PyData.keyHash w.params (Str.ofString "second"), .str (Str.ofString "second") k6, .int se t6⟩, ⟨PyData.keyHash w.params (Str.ofString "zone"), .str (Str.ofString "zone") k7, .int zo t7⟩] 7
theorem mem_two {α : Type} {a b c d e : α} {r news : List α} (h : ∀ p ∈ news, p ∈ r) : ∀ p ∈ a :: b :: news, p ∈ a :: b :: c :: d :: e :: r := fun p hp => by
  rcases List.mem_cons.mp hp with rfl | hp
  · exact .head _
  rcases List.mem_cons.mp hp with rfl | hp
  · exact .tail _ (.head _)
  · exact .tail _ (.tail _ (.tail _ (.tail _ (.tail _ (h p hp)))))
theorem if_join {prog : Program} {w w' : World} {A : Around} {E : Value → Shared → Prop} {s : Shared} {st : Stmt} {env : Env} {Q : Flow → Shared → Prop} {h₀ : Heap} {L : Addr} {m : Str → Option Value} {R D l : Addr} {ys : List Value} {k0 n : Int} {ta tb tc td te : Tok} {rest : List (Addr × Obj)} (_F : Fr h₀ L s.heap m) (_N : News h₀ L s.heap (LR w R D l ys k0 n ta tb tc td te rest)) (kk : Nat)
    (h1 : wpAny (model prog w') A (exec st env) (JoinR w h₀ L m s R D l ys kk n ta tb td te rest) E s)
    (h2 : ∀ hh tk tc', Fr h₀ L hh m → News h₀ L hh (LR w R D l ys (kk : Nat) n ta tb tc' td te rest) → Q .next { s with heap := hh, toks := tk }) : wpAny (model prog w') A (exec st env) Q E s :=
  wpAny_mono h1 (fun fl s' h => by obtain ⟨rfl, hh, tk, tc', rfl, F, N⟩ := h; exact h2 hh tk tc' F N) fun _ _ e => e
theorem reg_54_date_3 : True := by
  k_with "L eval Call" => ((k_here; (with_reducible show wpAny _ _ (eval (Expr.Call (Expr.Name (Str.ofString "is_time") _) _ _ _) _) _ _ _); k_dflt (refine Call_ ?_)))
  k_with "L eval Call" => ((k_here; (with_reducible show wpAny _ _ (eval (Expr.Call (Expr.Name (Str.ofString "full_year") _) _ _ _) _) _ _ _); k_dflt (refine Call_ ?_)))
  k_with "L exec Assign" => ((k_here; (with_reducible show wpAny _ _ (exec (Stmt.Assign _ (Expr.Call (Expr.Name (Str.ofString "DateReader") _) _ _ _) _) _) _ _ _); k_extra "my assign"))
  trivial
set_option maxHeartbeats 8000000 in
theorem c_read_date {w : World} (d : List UInt8) (t : Tok) (toks : List Tk) (hp : Plain (nat d)) (hz : d.length ≤ 1000) (hl : lexN (nat d) = some toks) (news) :
    SpecX w 12 309 [.bytes d.toArray t] news news (dateAt (noComm toks) = none) (fun v n' => ∃ (M DD : Addr) (y mo da ho mi se zo : Int) (k1 k2 k3 k4 k5 k6 k7 t1 t2 t3 t4 t5 t6 t7 : Tok), dateAt (noComm toks) = some (y, mo, da) ∧ v = .ref M ∧ n' = (M, instObj 168 DD) :: (DD, moD w y mo da ho mi se zo k1 k2 k3 k4 k5 k6 k7 t1 t2 t3 t4 t5 t6 t7) :: news) := by
  have hks := lexN_kinds hl
  have hs := noComm_small (lexN_small (by rw [nat_length]; exact hz) nat_byte hl)
  have hk2 := noComm_kinds hks
  have hsz : ∀ k, (strL (atomS (noComm toks) k)).cps.size ≤ 1000 := fun k => (atom_small hs k).1
  have hsc : ∀ k, ∀ c ∈ (strL (atomS (noComm toks) k)).cps, c < 1114000 := fun k => (atom_small hs k).2
  unfold SpecX
  intro mean mg mb dp un gd cn cs a ccd outer A₀ base h₀ L m s Q E B F X N T hk hd hu hret hraise
  refine wpAny_call ?_
  k_dflt cell_enter
  k_with "my assign" => (k_here; (with_reducible show wpAny _ _ (exec (Stmt.Assign _ (Expr.Call (Expr.Name (Str.ofString "DateReader") _) _ _ _) _) _) _ _ _); (fail_if_success (with_reducible show wpAny _ _ _ (JoinN _ _ _ _ _ _ _) _ _)); k_dflt ((refine' new_join (w := w) (by k_asm) (by k_asm) toks ?_ ?_; rotate_left; intro hh7 tk7 R7 D7 l7 ys7 n7 ta7 tb7 tc7 td7 te7 rest7 F7 N7 b1 b2 b3 b4; (have b5 := b3); (obtain ⟨c1, c2, c3, c4⟩ := b5); (try dsimp only); rotate_left)))
  k_with "exec If" => (k_here; (with_reducible show wpAny _ _ (exec (Stmt.If (Expr.Call (Expr.Name (Str.ofString "is_day_name") _) _ _ _) _ _ _) _) _ _ _); (fail_if_success (with_reducible show wpAny _ _ _ (JoinR _ _ _ _ _ _ _ _ _ _ _ _ _ _ _ _) _ _)); k_dflt ((refine' if_join (by k_asm) (by k_asm) (dayAt (noComm toks)) ?_ ?_; rotate_left; intro hh7 tk7 tc7 F7 N7; (try dsimp only); rotate_left)))
  k_steps
  all_goals first
    | ((with_reducible show JoinN _ _ _ _ _ _ _ _ _); exact ⟨rfl, _, _, _, _, _, _, _, _, _, _, _, _, _, rfl, (by assumption), (by assumption), (by assumption), (by assumption), (by assumption), (by assumption)⟩)
    | ((with_reducible show JoinR _ _ _ _ _ _ _ _ _ _ _ _ _ _ _ _ _ _); exact joinR_of (day_0 (by assumption)) (by assumption) (by assumption))
    | ((with_reducible show JoinR _ _ _ _ _ _ _ _ _ _ _ _ _ _ _ _ _ _); exact joinR_of (day_1 (by assumption) (by assumption)) (by assumption) (by assumption))
    | ((with_reducible show JoinR _ _ _ _ _ _ _ _ _ _ _ _ _ _ _ _ _ _); exact joinR_of (day_2 (by assumption) (by assumption)) (by assumption) (by assumption))
    | exact hret (by rw [date_y (by assumption) (by assumption) (by assumption) (by assumption) (by assumption) (by assumption) (by assumption) b1.length (by assumption)]; exact fun h => nomatch h) _ _ _ _ (by assumption) (cb_drop (by assumption) (mem_two b4)) ⟨_, _, _, _, _, _, _, _, _, _, _, _, _, _, _, _, _, _, _, _, _, _, _, date_y (by assumption) (by assumption) (by assumption) (by assumption) (by assumption) (by assumption) (by assumption) b1.length (by assumption), rfl, rfl⟩
    | (refine hraise ?_ _ _ _ _ (by first | exact raised_sub (by assumption) b4 | exact raised_sub (by assumption) (fun p hp => .tail _ (.tail _ (.tail _ (b4 p hp)))) | exact raised_sub (by assumption) (fun p hp => .tail _ (.tail _ (.tail _ (.tail _ (b4 p hp)))))) (by assumption) (by assumption); first | exact date_n1 (by assumption) | exact date_n2 (by assumption) (by assumption) | exact date_n3 (by assumption) (by assumption) (by assumption) | exact date_n4 (by assumption) (by assumption) (by assumption) (by assumption) | exact date_n5 (by assumption) (by assumption) (by assumption) (by assumption) | exact date_n6 (by assumption) (by assumption) (by assumption) (by assumption) (by assumption) | exact date_n7 (by assumption) (by assumption) (by assumption) (by assumption) (by assumption) | exact date_n8 (by assumption) (by assumption) (by assumption) (by assumption) b1.length (by assumption))

-- piece 60_field
theorem walk_60_field : twoK PySem.Challenge.rw_nz0311_01 MineH.hd.heap_1_39 := by k_fill; w_top off; trivial
/-- a Field in the ledger -/
noncomputable abbrev fdD (w : World) (nm rw : List UInt8) (ta tb tc td : Tok) : Obj := dictOf [⟨PyData.keyHash w.params (Str.ofString "name"), .str (Str.ofString "name") ta, .bytes nm.toArray tb⟩, ⟨PyData.keyHash w.params (Str.ofString "raw"), .str (Str.ofString "raw") tc, .bytes rw.toArray td⟩] 2
noncomputable abbrev FL (w : World) (I D : Addr) (nm rw : List UInt8) (ta tb tc td : Tok) (rest : List (Addr × Obj)) : List (Addr × Obj) := (I, instObj 338 D) :: (D, fdD w nm rw ta tb tc td) :: rest
theorem c_word {w : World} (I D : Addr) (nm rw : List UInt8) (ta tb tc td : Tok) (rest : List (Addr × Obj)) (hz : nm.length ≤ 1000) :
    Spec w 5 328 [.ref I] (FL w I D nm rw ta tb tc td rest) (fun v n' => (∃ t', v = .str (lowerS (strL (nat nm))) t') ∧ n' = FL w I D nm rw ta tb tc td rest) := by
  have hz2 : nm.toArray.size ≤ 1000 := hz
  have hs1 : (strL (nat nm)).cps.size ≤ 1000 := by show (nat nm).toArray.size ≤ 1000; rw [List.size_toArray, nat_length]; exact hz
  have hs2 : ∀ c ∈ (strL (nat nm)).cps, c < 1114000 := fun c hc => by
    have hc : c ∈ nat nm := by simpa [strL] using hc
    unfold nat at hc
    obtain ⟨b, _, rfl⟩ := List.mem_map.mp hc
    have := UInt8.toNat_lt b; omega
  unfold Spec
  intro mean mg mb dp un gd cn cs a ccd cl outer A₀ base h₀ L m s Q E B F X N T hk hd hu hret
  obtain ⟨sh, sg, sd, st, so⟩ := s
  dsimp only at F N hret
  refine wpAny_call ?_
  k_dflt cell_enter
  k_steps
  refine fun it s₂ hs hsrc => ⟨_, _, _, _, hsrc, ?_⟩
  obtain ⟨g, rfl⟩ := hs
  dsimp only
  refine rest_plain (fun i y => ∃ c t', (nat nm)[i]? = some c ∧ y = .str ⟨#[c]⟩ t') ?_ ?_
  · clear hsrc
    rintro i v I oI C oC DD zs m₂ h tk E' hi ⟨cc, u, hcu, rfl⟩ hC hx' F' N' off ne
    have hcn : (nat nm)[i]? = some cc.toNat := by
      unfold nat
      rw [List.getElem?_map, ← List.getElem?_toArray, hcu]; rfl
    have hlt : cc.toNat < 256 := UInt8.toNat_lt cc
    generalize cc.toNat = cn at *
    k_steps
    all_goals exact LCg.CompEnd.intro (by assumption) (by assumption) _ (fun p hp => hp) off trivial ⟨⟨cn, _, hcn, by rw [Int.toNat_natCast]⟩, rfl⟩
  · clear hsrc
    intro zs hl hys
    k_steps
    refine join_codes (l := nat nm) (News.get (by assumption) (List.mem_cons_self ..)) (by rw [hl, nat_length]; rfl) (fun i y hy => hys i y hy) (by rw [nat_length]; omega) (fun t' k => ?_)
    k_steps
    all_goals exact hret _ _ _ _ (by assumption) (cb_drop (by assumption) fun p hp => List.mem_cons_of_mem _ hp) ⟨⟨_, rfl⟩, rfl⟩
noncomputable def NoNl (l : List Nat) : Prop := l.contains 10 = false
theorem reg_60_field_0 : True := by
  k_with "L call builtin:bytes.find" => ((k_here; (with_reducible show wpAny _ _ (call (Value.builtin "bytes.find") [Value.bytes (List.toArray _) _, Value.bytes _ _, Value.int 0 _, Value.int _ _]) _ _ _); k_dflt (refine find_call (c := 10) (by assumption) ?_)))
  trivial
theorem c_line_at {w : World} (d : List UInt8) (t : Tok) (t1 t2 : Tok) (hn : (nat d).contains 10 = false) (hz : d.length ≤ 1000) (news) :
    Spec w 2 349 [.bytes d.toArray t, .int 0 t1, .int (d.length : Int) t2] news (fun v n' => ∃ T t3 t4, v = .ref T ∧ n' = (T, { cls := .type "tuple", data := .seq #[.int (d.length : Int) t3, .int (d.length : Int) t4] }) :: news ∧ ∀ p ∈ news, p.1 < T) := by
  unfold Spec
  intro mean mg mb dp un gd cn cs a ccd cl outer A₀ base h₀ L m s Q E B F X N T hk hd hu hret
  obtain ⟨sh, sg, sd, st, so⟩ := s
  dsimp only at F N hret
  refine wpAny_call ?_
  k_dflt cell_enter
  k_steps
  all_goals exact hret _ _ _ _ (by assumption) (by assumption) ⟨_, _, _, rfl, rfl, by assumption⟩
theorem reg_60_field_1 : True := by
  k_with "L call ref" => ((k_here; (with_reducible show wpAny _ _ (call (Value.ref 349) _) _ _ _); k_dflt (refine' Spec.use (c_line_at _ _ _ _ ?h1 ?h2 _) ?k1 ?k2 ?k3 ?k4 ?k5 ?k6q ?k7q ?k8q ?_; (case k1 => k_asm); (case k2 => k_asm); (case k3 => k_asm); (case k4 => first | k_asm | exact cb_drop (by k_asm) fun p hp => .tail _ hp | exact cb_drop (by k_asm) fun p hp => .tail _ (.tail _ hp) | exact cb_drop (by k_asm) fun p hp => .tail _ (.tail _ (.tail _ hp))); (case k5 => k_asm); (case k6q => first | exact rfl | assumption); (case k7q => ktr_room); (case k8q => ktr_units); (case h1 => assumption); (case h2 => assumption); refine curry (elim3L ?_); intro T9q t8q t7q lt8q h9q tk9q F9q N9q; (try k_lt lt8q); (try dsimp only))))
  trivial
section
variable {prog : Program} {w : World} {A : Around} {E : Value → Shared → Prop} {s : Shared} {value slice : PySem.Expr} {d : List UInt8} {t : Tok} {h₀ : Heap} {L : Addr} {m : PySem.Str → Option Value} {news : List (Addr × Obj)} {Q : Value → Shared → Prop}
theorem slice_all {tl tu : Tok} (F : Fr h₀ L s.heap m) (N : News h₀ L s.heap news) (hz : d.length ≤ 1000)
    (h : ∀ h' t' tk, Fr h₀ L h' m → News h₀ L h' news → Q (.bytes d.toArray t') { s with heap := h', toks := tk })
    (hs : subscripted slice false (.bytes d.toArray t) (.ref s.heap.objs.size) = operate [.ref s.heap.objs.size, .bytes d.toArray t] (getItem (.bytes d.toArray t) (.ref s.heap.objs.size)) := by with_unfolding_all rfl)
    (ht : ∀ r, letTemporaryGo value (.bytes d.toArray t) r = pure () := by intro _; with_unfolding_all rfl) :
    wpAny (model prog w) A (subscriptTail value slice (.bytes d.toArray t) (.ref s.heap.objs.size)) Q E { s with heap := s.heap.push { cls := .type "slice", data := .fields #[.int 0 tl, .int (d.length : Int) tu, .none] } } :=
  slice_NN (lo := 0) (hi := d.length) F N (Nat.zero_le _) (by omega) (fun h' t' tk F' N' => by
    have e : (d.drop 0).take (d.length - 0) = d := by rw [List.drop_zero, Nat.sub_zero, List.take_length]
    rw [e]; exact h h' t' tk F' N') hs ht
end
theorem reg_60_field_2 : True := by
  k_with "L subscriptTail" => ((k_here; (with_reducible show wpAny _ _ (subscriptTail _ (Expr.Slice (some (Expr.Name _ _)) (some (Expr.Name _ _)) none _) (Value.bytes (List.toArray _) _) (Value.ref _)) _ _ _); k_dflt (refine' slice_all (s := ⟨_, _, _, _, _⟩) ?F ?N ?z ?_; (case F => k_asm); (case N => k_asm); (case z => assumption); intro _ _ _ _ _)))
  trivial
/-- the turn of the loop -/
noncomputable abbrev RowsK (d : List UInt8) (t : Tok) (news : List (Addr × Obj)) : Nat → (Str → Option Value) → List (Addr × Obj) → Prop := fun r m₁ nx => ∃ (l : Addr) (u1 : Tok), r = 0 ∧ nx = (l, W.listOf #[] 0) :: news ∧ (∀ p ∈ news, p.1 < l) ∧ m₁ "raw" = some (.bytes d.toArray t) ∧ m₁ "rows" = some (.ref l) ∧ m₁ "at" = some (.int 0 u1)
theorem c_rows {w : World} (d : List UInt8) (t : Tok) (hn : (nat d).contains 10 = false) (hz : d.length ≤ 1000) (news) :
    Spec w 4 356 [.bytes d.toArray t] news (fun v n' => ∃ l t' c, v = .ref l ∧ n' = (l, W.listOf #[.bytes d.toArray t'] c) :: news) := by
  have hzz : d.toArray.size = d.length := rfl
  unfold Spec
  intro mean mg mb dp un gd cn cs a ccd cl outer A₀ base h₀ L m s Q E B F X N T hk hd hu hret
  obtain ⟨sh, sg, sd, st, so⟩ := s
  dsimp only at F N hret
  refine wpAny_call ?_
  k_dflt cell_enter
  k_with "my while" => (k_here; ((with_reducible rename News _ _ _ ((_, _) :: _) => N0); refine While_inv2 (n₀ := 0) (RowsK d t news) (by assumption) N0 ⟨_, _, rfl, rfl, by assumption, by first | (with_reducible assumption) | exact if_pos rfl | (refine Eq.trans (if_neg (by decide +kernel)) ?_; first | (with_reducible assumption) | exact if_pos rfl | (refine Eq.trans (if_neg (by decide +kernel)) ?_; first | (with_reducible assumption) | exact if_pos rfl | (refine Eq.trans (if_neg (by decide +kernel)) ?_; first | (with_reducible assumption) | exact if_pos rfl | (refine Eq.trans (if_neg (by decide +kernel)) ?_; first | (with_reducible assumption) | exact if_pos rfl | (refine Eq.trans (if_neg (by decide +kernel)) ?_; first | (with_reducible assumption) | exact if_pos rfl | (refine Eq.trans (if_neg (by decide +kernel)) ?_; first | assumption | exact if_pos rfl | with_unfolding_all rfl) | with_unfolding_all rfl) | with_unfolding_all rfl) | with_unfolding_all rfl) | with_unfolding_all rfl) | with_unfolding_all rfl) | with_unfolding_all rfl, by first | (with_reducible assumption) | exact if_pos rfl | (refine Eq.trans (if_neg (by decide +kernel)) ?_; first | (with_reducible assumption) | exact if_pos rfl | (refine Eq.trans (if_neg (by decide +kernel)) ?_; first | (with_reducible assumption) | exact if_pos rfl | (refine Eq.trans (if_neg (by decide +kernel)) ?_; first | (with_reducible assumption) | exact if_pos rfl | (refine Eq.trans (if_neg (by decide +kernel)) ?_; first | (with_reducible assumption) | exact if_pos rfl | (refine Eq.trans (if_neg (by decide +kernel)) ?_; first | (with_reducible assumption) | exact if_pos rfl | (refine Eq.trans (if_neg (by decide +kernel)) ?_; first | assumption | exact if_pos rfl | with_unfolding_all rfl) | with_unfolding_all rfl) | with_unfolding_all rfl) | with_unfolding_all rfl) | with_unfolding_all rfl) | with_unfolding_all rfl) | with_unfolding_all rfl, by first | (with_reducible assumption) | exact if_pos rfl | (refine Eq.trans (if_neg (by decide +kernel)) ?_; first | (with_reducible assumption) | exact if_pos rfl | (refine Eq.trans (if_neg (by decide +kernel)) ?_; first | (with_reducible assumption) | exact if_pos rfl | (refine Eq.trans (if_neg (by decide +kernel)) ?_; first | (with_reducible assumption) | exact if_pos rfl | (refine Eq.trans (if_neg (by decide +kernel)) ?_; first | (with_reducible assumption) | exact if_pos rfl | (refine Eq.trans (if_neg (by decide +kernel)) ?_; first | (with_reducible assumption) | exact if_pos rfl | (refine Eq.trans (if_neg (by decide +kernel)) ?_; first | assumption | exact if_pos rfl | with_unfolding_all rfl) | with_unfolding_all rfl) | with_unfolding_all rfl) | with_unfolding_all rfl) | with_unfolding_all rfl) | with_unfolding_all rfl) | with_unfolding_all rfl⟩ ?_; clear N0; rintro r m₁ nx h₁ tk₁ F' N' ⟨l, u1, rfl, rfl, hlt, hdt, hrw, hat⟩))
  k_steps
  · exact hret _ _ _ _ (by assumption) (cb_drop (by assumption) fun p hp => .tail _ hp) ⟨_, _, _, rfl, rfl⟩
  · exfalso; omega
theorem reg_60_field_3 : True := by
  k_with "L call ref" => ((k_here; (with_reducible show wpAny _ _ (call (Value.ref 356) _) _ _ _); k_dflt (refine' Spec.use (c_rows _ _ ?h1 ?h2 _) ?k1 ?k2 ?k3 ?k4 ?k5 ?k6q ?k7q ?k8q ?_; (case k1 => k_asm); (case k2 => k_asm); (case k3 => k_asm); (case k4 => first | k_asm | exact cb_drop (by k_asm) fun p hp => .tail _ hp | exact cb_drop (by k_asm) fun p hp => .tail _ (.tail _ hp) | exact cb_drop (by k_asm) fun p hp => .tail _ (.tail _ (.tail _ hp))); (case k5 => k_asm); (case k6q => first | exact rfl | assumption); (case k7q => ktr_room); (case k8q => ktr_units); (case h1 => assumption); (case h2 => assumption); rintro v9q n9q h9q tk9q F9q N9q ⟨l9q, t8q, c9q, e9q, e8q⟩; subst n9q; subst v9q; (try dsimp only))))
  k_with "L call builtin:bytes.join" => ((k_here; (with_reducible show wpAny _ _ (call (Value.builtin "bytes.join") [Value.bytes _ _, Value.ref _]) _ _ _); k_dflt (refine' join_one ?h ?_; (case h => exact ⟨_, (News.get (by k_asm) (by k_mem)), rfl, _, rfl⟩))))
  k_with "L call builtin:bytes.strip" => ((k_here; (with_reducible show wpAny _ _ (call (Value.builtin "bytes.strip") [Value.bytes (List.toArray _) _, Value.bytes _ _]) _ _ _); k_dflt (refine' strip_call ?z ?_; (case z => omega); intro t8q k8q)))
  trivial
theorem c_unfolded {w : World} (d : List UInt8) (t : Tok) (hn : (nat d).contains 10 = false) (hz : d.length ≤ 1000) (news) :
    Spec w 6 363 [.bytes d.toArray t] news (fun v n' => (∃ t', v = .bytes (stripB d).toArray t') ∧ n' = news) := by
  unfold Spec
  intro mean mg mb dp un gd cn cs a ccd cl outer A₀ base h₀ L m s Q E B F X N T hk hd hu hret
  obtain ⟨sh, sg, sd, st, so⟩ := s
  dsimp only at F N hret
  refine wpAny_call ?_
  k_dflt cell_enter
  k_steps
  all_goals exact hret _ _ _ _ (by assumption) (cb_drop (by assumption) fun p hp => .tail _ hp) ⟨⟨_, rfl⟩, rfl⟩

-- piece 61_first
theorem walk_61_first : twoK PySem.Challenge.rw_nz0311_01 MineH.hd.heap_1_39 := by k_fill; w_top off; trivial
/-- a Field, by its place in the ledger -/
noncomputable def Fld (w : World) (rest : List (Addr × Obj)) (f : List UInt8 × List UInt8) (v : Value) : Prop := ∃ (I D : Addr) (ta tb tc td : Tok), v = .ref I ∧ (I, instObj 338 D) ∈ rest ∧ (D, fdD w f.1 f.2 ta tb tc td) ∈ rest
theorem c_word_at {w : World} (I D : Addr) (nm rw : List UInt8) (ta tb tc td : Tok) (news : List (Addr × Obj)) (hI : (I, instObj 338 D) ∈ news) (hD : (D, fdD w nm rw ta tb tc td) ∈ news) (hz : nm.length ≤ 1000) :
    Spec w 5 328 [.ref I] news (fun v n' => (∃ t', v = .str (lowerS (strL (nat nm))) t') ∧ n' = news) := by
  intro mean mg mb dp un gd cn cs a ccd cl outer A₀ base h₀ L m s Q E B F X N T hk hd hu hret
  refine c_word (w := w) I D nm rw ta tb tc td news hz _ _ _ _ _ _ _ _ _ _ _ _ _ _ _ _ _ _ _ _ B F X (cb_drop N fun p hp => ?_) T hk hd hu fun v n' h' tk' F' N' r => ?_
  · rcases List.mem_cons.mp hp with rfl | hp
    · exact hI
    rcases List.mem_cons.mp hp with rfl | hp
    · exact hD
    · exact hp
  · obtain ⟨r1, rfl⟩ := r
    exact hret v _ h' tk' F' (cb_drop N' fun p hp => .tail _ (.tail _ hp)) ⟨r1, rfl⟩
theorem reg_61_first_0 : True := by
  k_with "L call ref" => ((k_here; (with_reducible show wpAny _ _ (call (Value.ref 328) _) _ _ _); k_dflt (refine' Spec.use (c_word_at _ _ _ _ _ _ _ _ _ ?h1 ?h2 ?h3) ?k1 ?k2 ?k3 ?k4 ?k5 ?k6q ?k7q ?k8q ?_; (case k1 => k_asm); (case k2 => k_asm); (case k3 => k_asm); (case k4 => first | k_asm | exact cb_drop (by k_asm) fun p hp => .tail _ hp | exact cb_drop (by k_asm) fun p hp => .tail _ (.tail _ hp) | exact cb_drop (by k_asm) fun p hp => .tail _ (.tail _ (.tail _ hp))); (case k5 => k_asm); (case k6q => first | exact rfl | assumption); (case k7q => ktr_room); (case k8q => ktr_units); (case h1 => assumption); (case h2 => assumption); (case h3 => assumption); refine curry (elimA ?_); intro t8q h9q tk9q F9q N9q; (try dsimp only))))
  k_with "L call ref" => ((k_here; (with_reducible show wpAny _ _ (call (Value.ref 363) _) _ _ _); k_dflt (refine' Spec.use (c_unfolded _ _ ?h1 ?h2 _) ?k1 ?k2 ?k3 ?k4 ?k5 ?k6q ?k7q ?k8q ?_; (case k1 => k_asm); (case k2 => k_asm); (case k3 => k_asm); (case k4 => first | k_asm | exact cb_drop (by k_asm) fun p hp => .tail _ hp | exact cb_drop (by k_asm) fun p hp => .tail _ (.tail _ hp) | exact cb_drop (by k_asm) fun p hp => .tail _ (.tail _ (.tail _ hp))); (case k5 => k_asm); (case k6q => first | exact rfl | assumption); (case k7q => ktr_room); (case k8q => ktr_units); (case h1 => assumption); (case h2 => assumption); refine curry (elimA ?_); intro t8q h9q tk9q F9q N9q; (try dsimp only))))
  trivial
theorem c_lower_date {w : World} (t : Tok) (news) : Spec w 2 73 [.str (Str.ofString "date") t] news (fun v n' => (∃ t', v = .str (Str.ofString "date") t') ∧ n' = news) := by
  have h := c_lower_text (w := w) (Str.ofString "date") t (by decide +kernel) (by decide +kernel) news
  rwa [show lowerS (Str.ofString "date") = Str.ofString "date" by decide +kernel] at h
theorem reg_61_first_1 : True := by
  k_with "L call ref" => ((k_here; (with_reducible show wpAny _ _ (call (Value.ref 73) [Value.str (Str.ofString "date") _]) _ _ _); k_dflt (refine' Spec.use (c_lower_date _ _) ?k1 ?k2 ?k3 ?k4 ?k5 ?k6q ?k7q ?k8q ?_; (case k1 => k_asm); (case k2 => k_asm); (case k3 => k_asm); (case k4 => first | k_asm | exact cb_drop (by k_asm) fun p hp => .tail _ hp | exact cb_drop (by k_asm) fun p hp => .tail _ (.tail _ hp) | exact cb_drop (by k_asm) fun p hp => .tail _ (.tail _ (.tail _ hp))); (case k5 => k_asm); (case k6q => first | exact rfl | assumption); (case k7q => ktr_room); (case k8q => ktr_units);  refine curry (elimA ?_); intro t8q h9q tk9q F9q N9q; (try dsimp only))))
  trivial
section
variable {prog : Program} {w : World} {A : Around} {E : Value → Shared → Prop} {s : Shared} {env : Env} {h₀ : Heap} {target : PySem.Expr} {body : List Stmt} {Q : Flow → Shared → Prop}
/-- a for loop over a list of the ledger, which stays as it is: an invariant of the frame alone -/
theorem for_list {ax : Addr} {xs : Array Value} {n0 : Nat} {m₀ : Str → Option Value} {news : List (Addr × Obj)} (K : Nat → (Str → Option Value) → Prop)
    (hh : A.handled = none) (F : Fr h₀ env.locals s.heap m₀) (N : News h₀ env.locals s.heap news) (hm : (ax, W.listOf xs n0) ∈ news) (k0 : K 0 m₀)
    (step : ∀ i v m₁ h₁ tk₁ own wr, i < xs.size → xs[i]? = some v → K i m₁ → (∀ p ∈ news, p.1 ∉ wr) → Fr h₀ env.locals h₁ m₁ → News h₀ env.locals h₁ (own ++ news) →
      wpAny (model prog w) A (assign target env v) (fun _ s₃ => wpAny (model prog w) A (execs body env)
        (LoopStepV h₀ env.locals wr own (fun m₂ nx => nx = news ∧ K (i + 1) m₂) { s with heap := h₁, toks := tk₁ } (fun v s' => Q (.ret v) s') fun s' => Q .next s') E s₃) E { s with heap := h₁, toks := tk₁ })
    (fin : ∀ h' tk m', Fr h₀ env.locals h' m' → News h₀ env.locals h' news → K xs.size m' → Q .next { s with heap := h', toks := tk }) :
    wpAny (model prog w) A (pyIter (.ref ax)) (fun it s₂ => TurnsAt prog w A h₀ env target body Q E it s₂) E s := by
  have hax := N _ hm
  have hl : s.heap.IsList ax xs := ⟨_, hax.1, rfl, n0, rfl⟩
  have hlt := Heap.lt_size hax.1
  have hne : ax ≠ s.heap.objs.size := Nat.ne_of_lt hlt
  have hw : ∀ p ∈ news, p.1 ∉ [s.heap.objs.size] := fun p hp hI => absurd (Heap.lt_size (N p hp).1) ((List.mem_singleton.mp hI) ▸ Nat.lt_irrefl _)
  refine wpAny_pyIter_list hl ?_
  refine ⟨s.heap.objs.size, _, _, _, _, _, _, m₀, news, fun i m₁ nx => nx = news ∧ K i m₁, rfl, KTurns.ofWalks (Walks.list hh s.heap.objs.size ax hne xs) fun i v s Q E st q => letGo_listiter st.1 q, ?_, ?_, hw, ⟨⟨_, Heap.get?_push_size _ rfl, rfl, rfl⟩, hl.at fun o e => Heap.get?_push_of_some _ e⟩, F.push _, fun p hp => ⟨Heap.get?_push_of_some _ (N p hp).1, (N p hp).2⟩, ⟨rfl, k0⟩, ?_, ?_⟩
  · intro hI
    rcases List.mem_cons.mp hI with e | hI
    · exact absurd F.ns.lt (e ▸ Nat.lt_irrefl _)
    · exact hax.2.1 (List.mem_singleton.mp hI).symm
  · intro b hb
    rw [List.mem_singleton.mp hb]
    exact next_is_new F
  · rintro i v m₁ news₁ h₁ tk₁ own hi hv ⟨rfl, hK⟩ hx - - - - F₁ N₁
    exact step i v m₁ h₁ tk₁ own _ hi hv hK hx F₁ N₁
  · rintro h' tk m' news' F' N' - ⟨rfl, hK⟩
    exact fin h' tk m' F' N' hK
end
noncomputable def isDateF (f : List UInt8 × List UInt8) : Bool := decide (lowerS (strL (nat f.1)) = Str.ofString "date")
noncomputable def firstB (fs : List (List UInt8 × List UInt8)) : Option (List UInt8) := (fs.find? isDateF).map fun f => stripB f.2
noncomputable def FOk (f : List UInt8 × List UInt8) : Prop := f.1.length ≤ 1000 ∧ f.2.length ≤ 1000 ∧ (nat f.2).contains 10 = false
theorem all2_at {α β : Type} {R : α → β → Prop} : ∀ {as : List α} {bs : List β} {k : Nat} {b : β}, All2 R as bs → bs[k]? = some b → ∃ a, as[k]? = some a ∧ R a b
  | _, _, k, _, .nil, h => by simp at h
  | _, _, 0, _, .cons (a := a) x _, h => ⟨a, rfl, by simp at h; exact h ▸ x⟩
  | _, _, k + 1, _, .cons _ r, h => by simpa using all2_at r (by simpa using h)
theorem first_take {α : Type} {p : α → Bool} {fs : List α} {i : Nat} {f : α} (h : ∀ g ∈ fs.take i, p g = false) (hf : fs[i]? = some f) (hp : p f = false) : ∀ g ∈ fs.take (i + 1), p g = false := by
  intro g hg
  rw [List.take_add_one, hf] at hg
  rcases List.mem_append.mp hg with hg | hg
  · exact h g hg
  · have e : g = f := by simpa using hg
    rw [e]; exact hp
theorem firstB_none {fs : List (List UInt8 × List UInt8)} {n : Nat} (h : ∀ g ∈ fs.take n, isDateF g = false) (hn : fs.length ≤ n) : firstB fs = none := by
  rw [List.take_of_length_le hn] at h
  unfold firstB
  rw [List.find?_eq_none.mpr fun x hx => by rw [h x hx]; exact Bool.false_ne_true]; rfl
theorem firstB_some {fs : List (List UInt8 × List UInt8)} {i : Nat} {f : List UInt8 × List UInt8} (h : ∀ g ∈ fs.take i, isDateF g = false) (hf : fs[i]? = some f) (hp : isDateF f = true) : firstB fs = some (stripB f.2) := by
  obtain ⟨hi, e⟩ := List.getElem?_eq_some_iff.mp hf
  have hs : fs = fs.take i ++ f :: fs.drop (i + 1) := (List.take_append_drop i fs).symm.trans (by rw [List.drop_eq_getElem_cons hi, e])
  unfold firstB
  rw [congrArg (List.find? isDateF) hs, List.find?_append, List.find?_eq_none.mpr fun x hx => by rw [h x hx]; exact Bool.false_ne_true, Option.none_or, List.find?_cons_of_pos hp]; rfl
theorem isDate_no {nm rw : List UInt8} (h : (lowerS (strL (nat nm)) == Str.ofString "date") = false) : isDateF (nm, rw) = false := decide_eq_false fun e => by rw [show lowerS (strL (nat nm)) = Str.ofString "date" from e] at h; exact absurd h (by decide +kernel)
theorem isDate_yes {nm rw : List UInt8} (h : (lowerS (strL (nat nm)) == Str.ofString "date") = true) : isDateF (nm, rw) = true := decide_eq_true (eq_of_beq h)
theorem reg_61_first_2 : True := by
  k_with "L LoopStepV" => (((with_reducible show LoopStepV _ _ _ _ _ _ _ _ (Flow.ret _) _); (dsimp only [LoopStepV])))
  k_with "L exec For Name Name cons nil" => ((k_here; (with_reducible show wpAny _ _ (exec (Stmt.For _ (Expr.Name (Str.ofString "fields") _) _ _ _) _) _ _ _); (rename Fr _ _ _ _ => lF'q); (with_unfolding_all refine' For_turns lF'q ?_); k_whole))
  k_with "L pyIter ref" => ((k_here; (with_reducible show wpAny _ _ (pyIter (Value.ref _)) (fun it s₂ => TurnsAt _ _ _ _ _ _ _ _ _ it s₂) _ _); k_extra "my iter"))
  trivial
set_option maxHeartbeats 4000000 in
theorem c_first {w : World} (l : Addr) (fs : List (List UInt8 × List UInt8)) (ys : List Value) (n0 : Nat) (t : Tok) (news : List (Addr × Obj)) (hl : (l, W.listOf ys.toArray n0) ∈ news) (hall : All2 (Fld w news) fs ys) (hok : ∀ f ∈ fs, FOk f) :
    Spec w 8 370 [.ref l, .str (Str.ofString "date") t] news (fun v n' => n' = news ∧ ((firstB fs = none ∧ v = .none) ∨ ∃ d t', firstB fs = some d ∧ v = .bytes d.toArray t')) := by
  have hlen7 : fs.length = ys.toArray.size := hall.length
  unfold Spec
  intro mean mg mb dp un gd cn cs a ccd cl outer A₀ base h₀ L m s Q E B F X N T hk hd hu hret
  obtain ⟨sh, sg, sd, st, so⟩ := s
  dsimp only at F N hret
  refine wpAny_call ?_
  k_dflt cell_enter
  k_with "my iter" => (k_here; (with_reducible show wpAny _ _ (pyIter (Value.ref _)) (fun it s₂ => TurnsAt _ _ _ _ _ _ _ _ _ it s₂) _ _); k_dflt (((with_reducible rename News _ _ _ _ => N0); (with_reducible rename Fr _ _ _ _ => F0); refine for_list (fun i m₁ => (∀ f ∈ fs.take i, isDateF f = false) ∧ ∃ u, m₁ "wanted" = some (.str (Str.ofString "date") u)) rfl F0 N0 hl ⟨fun f hf => (nomatch hf), _, by first | (with_reducible assumption) | exact if_pos rfl | (refine Eq.trans (if_neg (by decide +kernel)) ?_; first | (with_reducible assumption) | exact if_pos rfl | (refine Eq.trans (if_neg (by decide +kernel)) ?_; first | (with_reducible assumption) | exact if_pos rfl | (refine Eq.trans (if_neg (by decide +kernel)) ?_; first | (with_reducible assumption) | exact if_pos rfl | (refine Eq.trans (if_neg (by decide +kernel)) ?_; first | (with_reducible assumption) | exact if_pos rfl | (refine Eq.trans (if_neg (by decide +kernel)) ?_; first | (with_reducible assumption) | exact if_pos rfl | (refine Eq.trans (if_neg (by decide +kernel)) ?_; first | assumption | exact if_pos rfl | with_unfolding_all rfl) | with_unfolding_all rfl) | with_unfolding_all rfl) | with_unfolding_all rfl) | with_unfolding_all rfl) | with_unfolding_all rfl) | with_unfolding_all rfl⟩ ?_ ?_; rotate_left; (clear F0 N0; rintro h7 tk7 m7 F7 N7 ⟨k7, u7, w7⟩); rotate_left; (clear F0 N0; rintro i7 v7 m7 h7 tk7 own7 wr7 i8 v8 ⟨k7, u7, w7⟩ x7 F7 N7; obtain ⟨⟨nm7, rw7⟩, hf7, I7, D7, ta7, tb7, tc7, td7, rfl, hI7, hD7⟩ := all2_at hall (by simpa using v8); obtain ⟨z7, y7, n7⟩ := hok _ (List.mem_of_getElem? hf7); dsimp only at z7 y7 n7 hD7; (replace hI7 := List.mem_append_right own7 hI7); (replace hD7 := List.mem_append_right own7 hD7)))))
  k_steps
  all_goals first
    | exact LoopStepU.intro (by assumption) (by assumption) x7 ⟨rfl, first_take k7 hf7 (isDate_no (by assumption)), _, by first | (with_reducible assumption) | exact if_pos rfl | (refine Eq.trans (if_neg (by decide +kernel)) ?_; first | (with_reducible assumption) | exact if_pos rfl | (refine Eq.trans (if_neg (by decide +kernel)) ?_; first | (with_reducible assumption) | exact if_pos rfl | (refine Eq.trans (if_neg (by decide +kernel)) ?_; first | (with_reducible assumption) | exact if_pos rfl | (refine Eq.trans (if_neg (by decide +kernel)) ?_; first | (with_reducible assumption) | exact if_pos rfl | (refine Eq.trans (if_neg (by decide +kernel)) ?_; first | (with_reducible assumption) | exact if_pos rfl | (refine Eq.trans (if_neg (by decide +kernel)) ?_; first | assumption | exact if_pos rfl | with_unfolding_all rfl) | with_unfolding_all rfl) | with_unfolding_all rfl) | with_unfolding_all rfl) | with_unfolding_all rfl) | with_unfolding_all rfl) | with_unfolding_all rfl⟩
    | exact hret _ _ _ _ (by assumption) (cb_drop (by assumption) fun p hp => List.mem_append_right _ hp) ⟨rfl, .inr ⟨_, _, firstB_some k7 hf7 (isDate_yes (by assumption)), rfl⟩⟩
    | exact hret _ _ _ _ (by assumption) (by assumption) ⟨rfl, .inl ⟨firstB_none k7 (Nat.le_of_eq hlen7), rfl⟩⟩

-- piece 62_days
theorem walk_62_days : twoK PySem.Challenge.rw_nz0311_01 MineH.hd.heap_1_39 := by k_fill; w_top off; trivial
section
open PySem.Builtin
variable {A : Around} {E : Value → Shared → Prop} {s : Shared}
theorem rc_lt {prog : Program} {w : World} {a b : Int} {t u : Tok} {Q : Value → Shared → Prop} (h : Q (.bool (decide (a < b))) s) : wpAny (model prog w) A (richCompare .Lt (.int a t) (.int b u)) Q E s := PyProof.Rows.lt_int h
theorem rc_ge {prog : Program} {w : World} {a b : Int} {t u : Tok} {Q : Value → Shared → Prop} (h : Q (.bool (decide (a ≥ b))) s) : wpAny (model prog w) A (richCompare .GtE (.int a t) (.int b u)) Q E s := PyProof.Rows.ge_int h
noncomputable def cmpL (e : Bool) (op : Int → Int → Bool) : List ((Int × Tok) × (Int × Tok)) → Bool
  | [] => e
  | p :: r => if p.1.1 = p.2.1 then cmpL e op r else op p.1.1 p.2.1
noncomputable def pairV (p : (Int × Tok) × (Int × Tok)) : Value × Value := (.int p.1.1 p.1.2, .int p.2.1 p.2.2)
theorem tuple_lt3 (l b : Addr) (ps : List ((Int × Tok) × (Int × Tok))) (n n2 : Nat) :
    Meets (Builtin.«tuple.__lt__» ⟨[.ref l, .ref b], []⟩)
      (fun _ R s => s.heap.get? l = some { cls := .type "tuple", data := .seq (ps.map fun p => (pairV p).1).toArray n } ∧ s.heap.get? b = some { cls := .type "tuple", data := .seq (ps.map fun p => (pairV p).2).toArray n2 } ∧
        R (.ok (.ret (.bool (cmpL false (fun a b => decide (a < b)) ps)))) s) :=
  .of_wp fun prog w A R s h => by
    obtain ⟨hp, g, d, tk, os⟩ := s; obtain ⟨hl, hb, h⟩ := h
    have f2 := AutoSeq1.sub_tuple_tuple
    have hZ : ((ps.map fun p => (pairV p).1).toArray.toList.zip (ps.map fun p => (pairV p).2).toArray.toList) = ps.map pairV := by
      show (ps.map fun p => (pairV p).1).zip (ps.map fun p => (pairV p).2) = _
      rw [List.zip_map']
    wp_walk using wpAny_loadPart' hl, wpAny_loadPart' hb, wpAny_forIn_list _ (fun rest b s' => b.1 = none ∧ s' = ⟨hp, g, d, tk, os⟩ ∧ ∃ qs, rest = qs.map pairV ∧ R (.ok (.ret (.bool (cmpL false (fun a b => decide (a < b)) qs)))) ⟨hp, g, d, tk, os⟩) _
    case turn =>
      rintro ⟨y, x⟩ rest b s' ⟨hb', rfl, qs, hz, hR⟩
      match qs, hz, hR with
      | [], hz, hR => cases hz
      | ((a, t), (c, u)) :: r, hz, hR =>
        injection hz with h1 h2
        injection h1 with h1 h3
        subst h1 h3
        refine wpAny_bind (PySem.SeqAt.EqAt.int_int a t c u prog w _ _ ?_)
        by_cases hac : a = c
        · have e : (a == c) = true := beq_iff_eq.mpr hac
          rw [e]
          wp_walk
          exact ⟨rfl, rfl, r, h2, by unfold cmpL at hR; rw [if_pos hac] at hR; exact hR⟩
        · have e : (a == c) = false := beq_eq_false_iff_ne.mpr hac
          rw [e]
          wp_walk using rc_lt
          exact ⟨_, rfl, by unfold cmpL at hR; rw [if_neg hac] at hR; exact hR⟩
    case fin =>
      rintro ⟨b1, b2⟩ s' ⟨hb', rfl, qs, hz, hR⟩
      simp only at hb'
      subst hb'
      match qs, hz, hR with
      | _ :: _, hz, _ => cases hz
      | [], _, hR =>
        wp_walk
        exact ⟨_, rfl, by simpa [Builtin.Tuple.tupleCompareSizes, cmpL] using hR⟩
    case h =>
      exact ⟨rfl, rfl, ps, hZ, h⟩
theorem tuple_ge3 (l b : Addr) (ps : List ((Int × Tok) × (Int × Tok))) (n n2 : Nat) :
    Meets (Builtin.«tuple.__ge__» ⟨[.ref l, .ref b], []⟩)
      (fun _ R s => s.heap.get? l = some { cls := .type "tuple", data := .seq (ps.map fun p => (pairV p).1).toArray n } ∧ s.heap.get? b = some { cls := .type "tuple", data := .seq (ps.map fun p => (pairV p).2).toArray n2 } ∧
        R (.ok (.ret (.bool (cmpL true (fun a b => decide (a ≥ b)) ps)))) s) :=
  .of_wp fun prog w A R s h => by
    obtain ⟨hp, g, d, tk, os⟩ := s; obtain ⟨hl, hb, h⟩ := h
    have f2 := AutoSeq1.sub_tuple_tuple
    have hZ : ((ps.map fun p => (pairV p).1).toArray.toList.zip (ps.map fun p => (pairV p).2).toArray.toList) = ps.map pairV := by
      show (ps.map fun p => (pairV p).1).zip (ps.map fun p => (pairV p).2) = _
      rw [List.zip_map']
    wp_walk using wpAny_loadPart' hl, wpAny_loadPart' hb, wpAny_forIn_list _ (fun rest b s' => b.1 = none ∧ s' = ⟨hp, g, d, tk, os⟩ ∧ ∃ qs, rest = qs.map pairV ∧ R (.ok (.ret (.bool (cmpL true (fun a b => decide (a ≥ b)) qs)))) ⟨hp, g, d, tk, os⟩) _
    case turn =>
      rintro ⟨y, x⟩ rest b s' ⟨hb', rfl, qs, hz, hR⟩
      match qs, hz, hR with
      | [], hz, hR => cases hz
      | ((a, t), (c, u)) :: r, hz, hR =>
        injection hz with h1 h2
        injection h1 with h1 h3
        subst h1 h3
        refine wpAny_bind (PySem.SeqAt.EqAt.int_int a t c u prog w _ _ ?_)
        by_cases hac : a = c
        · have e : (a == c) = true := beq_iff_eq.mpr hac
          rw [e]
          wp_walk
          exact ⟨rfl, rfl, r, h2, by unfold cmpL at hR; rw [if_pos hac] at hR; exact hR⟩
        · have e : (a == c) = false := beq_eq_false_iff_ne.mpr hac
          rw [e]
          wp_walk using rc_ge
          exact ⟨_, rfl, by unfold cmpL at hR; rw [if_neg hac] at hR; exact hR⟩
    case fin =>
      rintro ⟨b1, b2⟩ s' ⟨hb', rfl, qs, hz, hR⟩
      simp only at hb'
      subst hb'
      match qs, hz, hR with
      | _ :: _, hz, _ => cases hz
      | [], _, hR =>
        wp_walk
        exact ⟨_, rfl, by simpa [Builtin.Tuple.tupleCompareSizes, cmpL] using hR⟩
    case h =>
      exact ⟨rfl, rfl, ps, hZ, h⟩
end

noncomputable abbrev D3 := Int × Int × Int
noncomputable abbrev tup3 (d : D3) (t1 t2 t3 : Tok) : Obj := { cls := .type "tuple", data := .seq #[.int d.1 t1, .int d.2.1 t2, .int d.2.2 t3] }
noncomputable def prs (a b : D3) (t1 t2 t3 u1 u2 u3 : Tok) : List ((Int × Tok) × (Int × Tok)) := [((a.1, t1), (b.1, u1)), ((a.2.1, t2), (b.2.1, u2)), ((a.2.2, t3), (b.2.2, u3))]
noncomputable def dLt (a b : D3) : Bool := if a.1 = b.1 then if a.2.1 = b.2.1 then if a.2.2 = b.2.2 then false else decide (a.2.2 < b.2.2) else decide (a.2.1 < b.2.1) else decide (a.1 < b.1)
noncomputable def dGe (a b : D3) : Bool := if a.1 = b.1 then if a.2.1 = b.2.1 then if a.2.2 = b.2.2 then true else decide (a.2.2 ≥ b.2.2) else decide (a.2.1 ≥ b.2.1) else decide (a.1 ≥ b.1)
noncomputable def dEq (a b : D3) : Bool := a.1 == b.1 && (a.2.1 == b.2.1 && a.2.2 == b.2.2)
noncomputable def DayAt (w : World) (W : Addr) (b : D3) : Prop := ∀ h : Heap, (MineH.hd.heap_1_39 w.params).In h → ∃ u1 u2 u3, h.get? W = some (tup3 b u1 u2 u3)
section
variable {prog : Program} {w w' : World} {A : Around} {E : Value → Shared → Prop} {s : Shared} {h₀ : Heap} {L T W : Addr} {m : PySem.Str → Option Value} {news : List (Addr × Obj)} {Q : Value → Shared → Prop} {a b : D3} {t1 t2 t3 : Tok}
theorem lt_days (F : Fr h₀ L s.heap m) (X : (MineH.hd.heap_1_39 w.params).In h₀) (N : News h₀ L s.heap news) (hT : (T, tup3 a t1 t2 t3) ∈ news) (hW : DayAt w W b) (hu : A.units < cLine) (h : Q (.bool (dLt a b)) s) : wpAny (model prog w') A (compareOp .Lt (.ref T) (.ref W)) Q E s := by
  obtain ⟨u1, u2, u3, hw⟩ := hW _ (X.keeps F.keep)
  have ht := (N _ hT).1
  exact richCompare_meets_room (op := .Lt) ⟨_, ht, rfl⟩ ⟨_, hw, rfl⟩ PySem.F.slot_tuple_lt PySem.F.entry_tuple_lt (PySem.F.args_tuple_lt_2 _ _) (tuple_lt3 T W (prs a b t1 t2 t3 u1 u2 u3) _ _)
    ⟨ht, hw, show Value.bool (dLt a b) ≠ Value.notImplemented ∧ Q (.bool (dLt a b)) s from ⟨(fun x => nomatch x), h⟩⟩ hu
theorem ge_days (F : Fr h₀ L s.heap m) (X : (MineH.hd.heap_1_39 w.params).In h₀) (N : News h₀ L s.heap news) (hT : (T, tup3 a t1 t2 t3) ∈ news) (hW : DayAt w W b) (hu : A.units < cLine) (h : Q (.bool (dGe a b)) s) : wpAny (model prog w') A (compareOp .GtE (.ref T) (.ref W)) Q E s := by
  obtain ⟨u1, u2, u3, hw⟩ := hW _ (X.keeps F.keep)
  have ht := (N _ hT).1
  exact richCompare_meets_room (op := .GtE) ⟨_, ht, rfl⟩ ⟨_, hw, rfl⟩ PySem.F.slot_tuple_ge PySem.F.entry_tuple_ge (PySem.F.args_tuple_ge_2 _ _) (tuple_ge3 T W (prs a b t1 t2 t3 u1 u2 u3) _ _)
    ⟨ht, hw, show Value.bool (dGe a b) ≠ Value.notImplemented ∧ Q (.bool (dGe a b)) s from ⟨(fun x => nomatch x), h⟩⟩ hu
theorem eq_days (F : Fr h₀ L s.heap m) (X : (MineH.hd.heap_1_39 w.params).In h₀) (N : News h₀ L s.heap news) (hT : (T, tup3 a t1 t2 t3) ∈ news) (hW : DayAt w W b) (hu : A.units < cLine) (h : Q (.bool (dEq a b)) s) : wpAny (model prog w') A (compareOp .Eq (.ref T) (.ref W)) Q E s := by
  obtain ⟨u1, u2, u3, hw⟩ := hW _ (X.keeps F.keep)
  have i1 : s.heap.IsTuple T #[.int a.1 t1, .int a.2.1 t2, .int a.2.2 t3] := ⟨_, (N _ hT).1, rfl, _, rfl⟩
  have i2 : s.heap.IsTuple W #[.int b.1 u1, .int b.2.1 u2, .int b.2.2 u3] := ⟨_, hw, rfl, _, rfl⟩
  refine PySem.SeqAt.RcAt.tuples (e := fun j => if j = 0 then a.1 == b.1 else if j = 1 then a.2.1 == b.2.1 else a.2.2 == b.2.2) i1 i2 hu (fun j h1 h2 => ?_) _ _ _ _ ?_
  · match j, h1 with
    | 0, _ => exact PySem.SeqAt.EqAt.int_int _ _ _ _
    | 1, _ => exact PySem.SeqAt.EqAt.int_int _ _ _ _
    | 2, _ => exact PySem.SeqAt.EqAt.int_int _ _ _ _
  · have e : ((List.range (min 3 3)).all (fun j => if j = 0 then a.1 == b.1 else if j = 1 then a.2.1 == b.2.1 else a.2.2 == b.2.2) && (3 : Nat) == 3) = dEq a b := by
      simp [List.range_succ, List.all_append, dEq, Bool.and_assoc]
    show Q (.bool ((List.range (min 3 3)).all (fun j => if j = 0 then a.1 == b.1 else if j = 1 then a.2.1 == b.2.1 else a.2.2 == b.2.2) && (3 : Nat) == 3)) s
    rw [e]; exact h
end
theorem reg_62_days_0 : True := by
  k_with "L compareOp Lt ref ref" => ((k_here; (with_reducible show wpAny _ _ (compareOp CmpOp.Lt (Value.ref _) (Value.ref _)) _ _ _); k_dflt (refine' lt_days ?F ?X ?N ?hT ?hW ?hu ?_; (case hW => assumption); (case F => k_asm); (case X => k_asm); (case hT => assumption); (case N => k_asm); (case hu => ktr_units))))
  k_with "L compareOp GtE ref ref" => ((k_here; (with_reducible show wpAny _ _ (compareOp CmpOp.GtE (Value.ref _) (Value.ref _)) _ _ _); k_dflt (refine' ge_days ?F ?X ?N ?hT ?hW ?hu ?_; (case hW => assumption); (case F => k_asm); (case X => k_asm); (case hT => assumption); (case N => k_asm); (case hu => ktr_units))))
  k_with "L compareOp Eq ref ref" => ((k_here; (with_reducible show wpAny _ _ (compareOp CmpOp.Eq (Value.ref _) (Value.ref _)) _ _ _); k_dflt (refine' eq_days ?F ?X ?N ?hT ?hW ?hu ?_; (case hW => assumption); (case F => k_asm); (case X => k_asm); (case hT => assumption); (case N => k_asm); (case hu => ktr_units))))
  trivial
theorem c_dh_before {w : World} (T W : Addr) (a b : D3) (t t1 t2 t3 : Tok) (news : List (Addr × Obj)) (hW : DayAt w W b) (hT : (T, tup3 a t1 t2 t3) ∈ news) :
    Spec w 2 377 [.str (Str.ofString "before") t, .ref T, .ref W] news (fun v n' => v = .bool (dLt a b) ∧ n' = news) := by
  unfold Spec
  intro mean mg mb dp un gd cn cs a ccd cl outer A₀ base h₀ L m s Q E B F X N T hk hd hu hret
  obtain ⟨sh, sg, sd, st, so⟩ := s
  dsimp only at F N hret
  refine wpAny_call ?_
  k_dflt cell_enter
  k_steps
  all_goals first | exact hret _ _ _ _ (by assumption) (by assumption) ⟨rfl, rfl⟩
theorem c_dh_on {w : World} (T W : Addr) (a b : D3) (t t1 t2 t3 : Tok) (news : List (Addr × Obj)) (hW : DayAt w W b) (hT : (T, tup3 a t1 t2 t3) ∈ news) :
    Spec w 2 377 [.str (Str.ofString "on") t, .ref T, .ref W] news (fun v n' => v = .bool (dEq a b) ∧ n' = news) := by
  unfold Spec
  intro mean mg mb dp un gd cn cs a ccd cl outer A₀ base h₀ L m s Q E B F X N T hk hd hu hret
  obtain ⟨sh, sg, sd, st, so⟩ := s
  dsimp only at F N hret
  refine wpAny_call ?_
  k_dflt cell_enter
  k_steps
  all_goals first | exact hret _ _ _ _ (by assumption) (by assumption) ⟨rfl, rfl⟩
theorem c_dh_since {w : World} (T W : Addr) (a b : D3) (t t1 t2 t3 : Tok) (news : List (Addr × Obj)) (hW : DayAt w W b) (hT : (T, tup3 a t1 t2 t3) ∈ news) :
    Spec w 2 377 [.str (Str.ofString "since") t, .ref T, .ref W] news (fun v n' => v = .bool (dGe a b) ∧ n' = news) := by
  unfold Spec
  intro mean mg mb dp un gd cn cs a ccd cl outer A₀ base h₀ L m s Q E B F X N T hk hd hu hret
  obtain ⟨sh, sg, sd, st, so⟩ := s
  dsimp only at F N hret
  refine wpAny_call ?_
  k_dflt cell_enter
  k_steps
  all_goals first | exact hret _ _ _ _ (by assumption) (by assumption) ⟨rfl, rfl⟩

-- piece 63_sent
theorem walk_63_sent : twoK PySem.Challenge.rw_nz0311_01 MineH.hd.heap_1_39 := by k_fill; w_top off; trivial
theorem wait_out {fs : List (List UInt8 × List UInt8)} (h : Wait (∀ d, firstB fs = some d → Plain (nat d) ∧ d.length ≤ 1000 ∧ ∃ toks, lexN (nat d) = some toks)) : ∀ d, firstB fs = some d → Plain (nat d) ∧ d.length ≤ 1000 ∧ ∃ toks, lexN (nat d) = some toks := h
noncomputable def dateOf (fs : List (List UInt8 × List UInt8)) : Option D3 := (firstB fs).bind fun d => (lexN (nat d)).bind fun toks => dateAt (noComm toks)
theorem reg_63_sent_0 : True := by
  k_with "L call ref" => ((k_here; (with_reducible show wpAny _ _ (call (Value.ref 370) _) _ _ _); k_dflt (refine' Spec.use (c_first _ _ _ _ _ _ ?h1 ?h2 ?h3) ?k1 ?k2 ?k3 ?k4 ?k5 ?k6q ?k7q ?k8q ?_; (case k1 => k_asm); (case k2 => k_asm); (case k3 => k_asm); (case k4 => first | k_asm | exact cb_drop (by k_asm) fun p hp => .tail _ hp | exact cb_drop (by k_asm) fun p hp => .tail _ (.tail _ hp) | exact cb_drop (by k_asm) fun p hp => .tail _ (.tail _ (.tail _ hp))); (case k5 => k_asm); (case k6q => first | exact rfl | assumption); (case k7q => ktr_room); (case k8q => ktr_units); (case h1 => assumption); (case h2 => assumption); (case h3 => assumption); rintro v9q n9q h9q tk9q F9q N9q ⟨e8q, (⟨fb9q, e9q⟩ | ⟨d9q, t8q, fb9q, e9q⟩)⟩ <;> subst n9q <;> subst v9q <;> (try (obtain ⟨pl9q, dz9q, toks9q, lx9q⟩ := wait_out (by assumption) _ fb9q)); (try dsimp only))))
  k_with "L call ref" => ((k_here; (with_reducible show wpAny _ _ (call (Value.ref 309) _) _ _ _); k_dflt (refine' SpecX.use (c_read_date _ _ _ ?h1 ?h2 ?h3 _) ?k1q ?k2q ?k3q ?k4q ?k5q ?k6q ?k7q ?k8q ?_ ?_; (case k1q => k_asm); (case k2q => k_asm); (case k3q => k_asm); (case k4q => first | k_asm | exact cb_drop (by k_asm) fun p hp => .tail _ hp | exact cb_drop (by k_asm) fun p hp => .tail _ (.tail _ hp) | exact cb_drop (by k_asm) fun p hp => .tail _ (.tail _ (.tail _ hp))); (case k5q => k_asm); (case k6q => first | exact rfl | assumption); (case k7q => ktr_room); (case k8q => ktr_units); (case h1 => assumption); (case h2 => assumption); (case h3 => assumption); rotate_left; rintro hP9q e9q h9q tk9q g9q R9q F9q U9q; (try dsimp only); rotate_left; intro hP9q; refine curry (elimR ?_); intro M9q DD9q y9q mo9q da9q ho9q mi9q se9q zo9q k1q k2q k3q k4q k5q k6q k7q t1q t2q t3q t4q t5q t6q t7q dt9q h9q tk9q F9q N9q; (try dsimp only))))
  trivial
/-- a call of a def in which an exception may be caught: the frames below it may be marked -/
noncomputable def SpecT (w : World) (k : Nat) (f : Addr) (vs : List Value) (news : List (Addr × Obj)) (R : Value → List (Addr × Obj) → Prop) : Prop :=
  ∀ (mean : ExcName → Option Value) (mg mb : PySem.Str → Option Value) (dp un : Nat) (gd : Option (List Code)) (cn : PySem.Str) (cs : Scope) (a : Addr) (ccd : Value) (outer : List Env)
    (A₀ : Around) (base h₀ : Heap) (L : Addr) (m : PySem.Str → Option Value) (s : Shared) (Q E : Value → Shared → Prop),
    Below A₀ base outer h₀ → Fr h₀ L s.heap m → (MineH.hd.heap_1_39 w.params).In h₀ → News h₀ L s.heap news → Top MineH.hd.view_1_40 (looseW MineH.hd.view_1_40 [Str.ofString "PostError"]) mean mg mb h₀ →
    (MineH.hd.heap_1_39 w.params).In base → Top MineH.hd.view_1_40 (looseW MineH.hd.view_1_40 [Str.ofString "PostError"]) mean mg mb base → KtsDicts (outer.filterMap (·.frame)) h₀ → cs.kind = .function →
    dp + k < recursionLimit → un + 8 * k < cLine →
    (∀ v news' h' tk' h₀', KtsTurn (outer.filterMap (·.frame)) h₀ h₀' → Fr h₀' L h' m → News h₀' L h' news' → Below A₀ base outer h₀' → (MineH.hd.heap_1_39 w.params).In h₀' → Top MineH.hd.view_1_40 (looseW MineH.hd.view_1_40 [Str.ofString "PostError"]) mean mg mb h₀' → KtsDicts (outer.filterMap (·.frame)) h₀' → R v news' → Q v { s with heap := h', toks := tk' }) →
    wpAny (PySem.model PySem.Challenge.rw_nz0311_01.row.prog w) (ktrTop dp un gd cn cs L a ccd [] outer) (call (.ref f) vs) Q E s
theorem dateOf_some {fs : List (List UInt8 × List UInt8)} {d : List UInt8} {toks : List Tk} {dd : D3} (h1 : firstB fs = some d) (h2 : lexN (nat d) = some toks) (h3 : dateAt (noComm toks) = some dd) : dateOf fs = some dd := by
  unfold dateOf; rw [h1, Option.bind_some, h2, Option.bind_some, h3]
theorem mem_skip2 {α : Type} {a b c : α} {x : List α} : ∀ p ∈ a :: x, p ∈ a :: b :: c :: x := fun p hp => by
  rcases List.mem_cons.mp hp with rfl | hp
  · exact .head _
  · exact .tail _ (.tail _ (.tail _ hp))
set_option maxHeartbeats 4000000 in
theorem c_sent_day {w : World} (l : Addr) (fs : List (List UInt8 × List UInt8)) (ys : List Value) (n0 : Nat) (news : List (Addr × Obj)) (hl : (l, W.listOf ys.toArray n0) ∈ news) (hall : All2 (Fld w news) fs ys) (hok : ∀ f ∈ fs, FOk f)
    (hdx : Wait (∀ d, firstB fs = some d → Plain (nat d) ∧ d.length ≤ 1000 ∧ ∃ toks, lexN (nat d) = some toks)) :
    SpecT w 14 384 [.ref l] news (fun v n' => (dateOf fs = none ∧ v = .none ∧ n' = news) ∨ ∃ (T : Addr) (dd : D3) (t1 t2 t3 : Tok), dateOf fs = some dd ∧ v = .ref T ∧ n' = (T, tup3 dd t1 t2 t3) :: news) := by
  unfold SpecT
  intro mean mg mb dp un gd cn cs a ccd outer A₀ base h₀ L m s Q E B F X N T XB TB D hk hd hu hret
  have T0 : KtsTurn (outer.filterMap (·.frame)) h₀ h₀ := KtsTurn.refl
  refine wpAny_call ?_
  k_dflt (refine' code_defS ?k1 ?k2 ?k3 ?k4 ?k5 ?XB ?TB ?D ?T0 ?kA ?k6 ?k7 ?k8 ?k9 ?kB ?_ ?cK ?c2 ?c3 ?c4 ?c5; (case kA => exact rfl); (case k2 => k_asm); (case k1 => k_asm); (case XB => exact XB); (case TB => exact TB); (case D => exact D); (case T0 => exact T0); (case k3 => k_asm); (case k4 => k_asm); (case k5 => k_asm); (case k6 => k_is); (case k7 => k_is); (case k8 => k_room); (case k9 => first | exact binds_K (by k_in) rfl (by k_is) rfl rfl rfl | exact BindsTo.of_eq rfl); (case kB => exact locs rfl); (case cK => exact hk); (case c2 => exact rfl); (case c3 => exact rfl); (case c4 => exact rfl); (case c5 => decide); k_whole; intro g' L' h' FG' F' N' B' X' T' D'; (try dsimp only); (try k_lift B'); (try k_fold))
  k_steps
  all_goals first
    | exact hret _ _ _ _ h₀ KtsTurn.refl (by assumption) (by assumption) B X T D (.inl ⟨by unfold dateOf; rw [show firstB fs = none by assumption]; rfl, rfl, rfl⟩)
    | exact hret _ _ _ _ h₀ KtsTurn.refl (by assumption) (cb_drop (by assumption) mem_skip2) B X T D (.inr ⟨_, (_, _, _), _, _, _, dateOf_some (by assumption) (by assumption) (by assumption), rfl, rfl⟩)
    | exact hret _ _ _ _ _ (by assumption) (by assumption) (by assumption) (by assumption) (by assumption) (by assumption) (by assumption) (.inl ⟨by unfold dateOf; rw [show firstB fs = some _ by assumption, Option.bind_some, show lexN _ = some _ by assumption, Option.bind_some]; assumption, rfl, rfl⟩)

-- piece 64_holds
theorem walk_64_holds : twoK PySem.Challenge.rw_nz0311_01 MineH.hd.heap_1_39 := by k_fill; w_top off; trivial
section
variable {prog : Program} {w w' : World} {A : Around} {E : Value → Shared → Prop} {s : Shared} {h₀ : Heap} {L T : Addr} {m : PySem.Str → Option Value} {news : List (Addr × Obj)} {Q : Value → Shared → Prop} {value slice : PySem.Expr} {u : Tok} {r : Nat}
theorem btup_item {B : Addr} {xs : Array Value} {v : Value} (ht : PyProof.Rows.IsTup s.heap B xs) (hz : xs.size ≤ 100) (hx : xs[r]? = some v) (h : Q v s)
    (hs : subscripted slice false (.ref B) (.int (r : Int) u) = operate [.ref B, .int (r : Int) u] (getItem (.ref B) (.int (r : Int) u)) := by with_unfolding_all rfl) : wpAny (model prog w') A (subscriptTail value slice (.ref B) (.int (r : Int) u)) Q E s := by
  have hr : r < xs.size := (Array.getElem?_eq_some_iff.mp hx).1
  exact tail_any (T := "tuple") ht.typeIs PySem.F.slot_tuple_getitem.lookup (PyProof.Rows.getItem_tuple ht (by omega) (by omega) (seqIndex_of (Int.natCast_nonneg _) (by omega)) (x := v) (by simpa using hx) h) hs
theorem leaf_0 {B : Addr} {v v2 : Value} (N : News h₀ L s.heap news) (hm : (B, ({ cls := .type "tuple", data := .seq #[v, v2] } : Obj)) ∈ news) (h : Q v s)
    (hs : subscripted slice false (.ref B) (.int 0 u) = operate [.ref B, .int 0 u] (getItem (.ref B) (.int 0 u)) := by with_unfolding_all rfl) : wpAny (model prog w') A (subscriptTail value slice (.ref B) (.int 0 u)) Q E s :=
  btup_item (r := 0) ⟨_, (N _ hm).1, rfl, _, rfl⟩ (by show 2 ≤ 100; omega) rfl h hs
theorem leaf_1 {B : Addr} {v v2 : Value} (N : News h₀ L s.heap news) (hm : (B, ({ cls := .type "tuple", data := .seq #[v, v2] } : Obj)) ∈ news) (h : Q v2 s)
    (hs : subscripted slice false (.ref B) (.int 1 u) = operate [.ref B, .int 1 u] (getItem (.ref B) (.int 1 u)) := by with_unfolding_all rfl) : wpAny (model prog w') A (subscriptTail value slice (.ref B) (.int 1 u)) Q E s :=
  btup_item (r := 1) ⟨_, (N _ hm).1, rfl, _, rfl⟩ (by show 2 ≤ 100; omega) rfl h hs
end
theorem reg_64_holds_0 : True := by
  k_with "L subscriptTail" => ((k_here; (with_reducible show wpAny _ _ (subscriptTail (Expr.Name (Str.ofString "leaf") _) _ (Value.ref _) (Value.int 0 _)) _ _ _); k_dflt (refine' leaf_0 ?N ?hm ?_; (case N => k_asm); (case hm => first | assumption | exact .tail _ (by assumption)))))
  k_with "L subscriptTail" => ((k_here; (with_reducible show wpAny _ _ (subscriptTail (Expr.Name (Str.ofString "leaf") _) _ (Value.ref _) (Value.int 1 _)) _ _ _); k_dflt (refine' leaf_1 ?N ?hm ?_; (case N => k_asm); (case hm => first | assumption | exact .tail _ (by assumption)))))
  trivial
theorem SpecT.use {w : World} {k : Nat} {f : Addr} {vs : List Value} {news : List (Addr × Obj)} {R : Value → List (Addr × Obj) → Prop} (C : SpecT w k f vs news R)
    {mean : ExcName → Option Value} {mg mb : PySem.Str → Option Value} {dp un : Nat} {gd : Option (List Code)} {cn : PySem.Str} {cs : Scope} {a : Addr} {ccd : Value} {outer : List Env}
    {A₀ : Around} {base h₀ : Heap} {L : Addr} {m : PySem.Str → Option Value} {s : Shared} {Q E : Value → Shared → Prop}
    (B : Below A₀ base outer h₀) (F : Fr h₀ L s.heap m) (X : (MineH.hd.heap_1_39 w.params).In h₀) (N : News h₀ L s.heap news) (T : Top MineH.hd.view_1_40 (looseW MineH.hd.view_1_40 [Str.ofString "PostError"]) mean mg mb h₀)
    (XB : (MineH.hd.heap_1_39 w.params).In base) (TB : Top MineH.hd.view_1_40 (looseW MineH.hd.view_1_40 [Str.ofString "PostError"]) mean mg mb base) (D : KtsDicts (outer.filterMap (·.frame)) h₀) (hk : cs.kind = .function)
    (hd : dp + k < recursionLimit) (hu : un + 8 * k < cLine)
    (ret : ∀ v news' h' tk' h₀', KtsTurn (outer.filterMap (·.frame)) h₀ h₀' → Fr h₀' L h' m → News h₀' L h' news' → Below A₀ base outer h₀' → (MineH.hd.heap_1_39 w.params).In h₀' → Top MineH.hd.view_1_40 (looseW MineH.hd.view_1_40 [Str.ofString "PostError"]) mean mg mb h₀' → KtsDicts (outer.filterMap (·.frame)) h₀' → R v news' → Q v { s with heap := h', toks := tk' }) :
    wpAny (PySem.model PySem.Challenge.rw_nz0311_01.row.prog w) (ktrTop dp un gd cn cs L a ccd [] outer) (call (.ref f) vs) Q E s :=
  C _ _ _ _ _ _ _ _ _ _ _ _ _ _ _ _ _ _ _ B F X N T XB TB D hk hd hu ret
/-- a call from the outermost frame of a def in which an exception may be caught -/
noncomputable def SpecZ (w : World) (k : Nat) (f : Addr) (vs : List Value) (news : List (Addr × Obj)) (R : Value → List (Addr × Obj) → Prop) : Prop :=
  ∀ (mean : ExcName → Option Value) (mg mb : PySem.Str → Option Value) (dp un : Nat) (gd : Option (List Code)) (cn : PySem.Str) (cs : Scope) (a : Addr) (ccd : Value)
    (A₀ : Around) (h₀ : Heap) (L : Addr) (m : PySem.Str → Option Value) (s : Shared) (Q E : Value → Shared → Prop),
    Below A₀ h₀ [] h₀ → Fr h₀ L s.heap m → (MineH.hd.heap_1_39 w.params).In h₀ → News h₀ L s.heap news → Top MineH.hd.view_1_40 (looseW MineH.hd.view_1_40 [Str.ofString "PostError"]) mean mg mb h₀ → cs.kind = .function →
    dp + k < recursionLimit → un + 8 * k < cLine →
    (∀ v news' h' tk', Fr h₀ L h' m → News h₀ L h' news' → R v news' → Q v { s with heap := h', toks := tk' }) →
    wpAny (PySem.model PySem.Challenge.rw_nz0311_01.row.prog w) (ktrTop dp un gd cn cs L a ccd [] []) (call (.ref f) vs) Q E s
theorem reg_64_holds_1 : True := by
  k_with "L call ref" => ((k_here; (with_reducible show wpAny _ _ (call (Value.ref 384) _) _ _ _); k_dflt (refine' SpecT.use (c_sent_day _ _ _ _ _ ?h1 ?h2 ?h3 ?h4) ?k1 ?k2 ?k3 ?k4 ?k5 ?kXB ?kTB ?kD ?k6q ?k7q ?k8q ?_; (case k2 => k_asm); (case k1 => k_asm); (case k3 => k_asm); (case k4 => k_asm); (case k5 => k_asm); (case kXB => assumption); (case kTB => assumption); (case kD => assumption); (case h1 => assumption); (case h2 => assumption); (case h3 => assumption); (case h4 => assumption); (case k6q => first | exact rfl | assumption); (case k7q => ktr_room); (case k8q => ktr_units); rintro v9q n9q h9q tk9q g9q T9q F9q N9q B9q X9q P9q D9q (⟨dt9q, e9q, e8q⟩ | ⟨T7q, dd7q, u1q, u2q, u3q, dt9q, e9q, e8q⟩) <;> subst n9q <;> subst v9q <;> (try dsimp only))))
  trivial
theorem c_dhs_before {w : World} (T W : Addr) (a b : D3) (t t1 t2 t3 : Tok) (news : List (Addr × Obj)) (hW : DayAt w W b) (hT : (T, tup3 a t1 t2 t3) ∈ news) :
    Spec w 2 377 [.str (Txt.slice (Str.ofString "sentbefore") (some 4) none) t, .ref T, .ref W] news (fun v n' => v = .bool (dLt a b) ∧ n' = news) := by
  rw [show Txt.slice (Str.ofString "sentbefore") (some 4) none = Str.ofString "before" by decide +kernel]
  exact c_dh_before T W a b t t1 t2 t3 news hW hT
theorem reg_64_holds_2 : True := by
  k_with "L call ref" => ((k_here; (with_reducible show wpAny _ _ (call (Value.ref 377) [Value.str (Txt.slice (Str.ofString "sentbefore") _ _) _, _, _]) _ _ _); k_dflt (refine' Spec.use (c_dhs_before _ _ _ _ _ _ _ _ _ ?h1 ?h2) ?k1 ?k2 ?k3 ?k4 ?k5 ?k6q ?k7q ?k8q ?_; (case k2 => k_asm); (case k1 => k_asm); (case k3 => k_asm); (case k4 => k_asm); (case k5 => k_asm); (case h1 => assumption); (case h2 => k_mem); (case k6q => first | exact rfl | assumption); (case k7q => ktr_room); (case k8q => ktr_units); refine curry (elimB ?_); intro h9q tk9q F9q N9q; (try dsimp only))))
  trivial
theorem c_dhs_on {w : World} (T W : Addr) (a b : D3) (t t1 t2 t3 : Tok) (news : List (Addr × Obj)) (hW : DayAt w W b) (hT : (T, tup3 a t1 t2 t3) ∈ news) :
    Spec w 2 377 [.str (Txt.slice (Str.ofString "senton") (some 4) none) t, .ref T, .ref W] news (fun v n' => v = .bool (dEq a b) ∧ n' = news) := by
  rw [show Txt.slice (Str.ofString "senton") (some 4) none = Str.ofString "on" by decide +kernel]
  exact c_dh_on T W a b t t1 t2 t3 news hW hT
theorem reg_64_holds_3 : True := by
  k_with "L call ref" => ((k_here; (with_reducible show wpAny _ _ (call (Value.ref 377) [Value.str (Txt.slice (Str.ofString "senton") _ _) _, _, _]) _ _ _); k_dflt (refine' Spec.use (c_dhs_on _ _ _ _ _ _ _ _ _ ?h1 ?h2) ?k1 ?k2 ?k3 ?k4 ?k5 ?k6q ?k7q ?k8q ?_; (case k2 => k_asm); (case k1 => k_asm); (case k3 => k_asm); (case k4 => k_asm); (case k5 => k_asm); (case h1 => assumption); (case h2 => k_mem); (case k6q => first | exact rfl | assumption); (case k7q => ktr_room); (case k8q => ktr_units); refine curry (elimB ?_); intro h9q tk9q F9q N9q; (try dsimp only))))
  trivial
theorem c_dhs_since {w : World} (T W : Addr) (a b : D3) (t t1 t2 t3 : Tok) (news : List (Addr × Obj)) (hW : DayAt w W b) (hT : (T, tup3 a t1 t2 t3) ∈ news) :
    Spec w 2 377 [.str (Txt.slice (Str.ofString "sentsince") (some 4) none) t, .ref T, .ref W] news (fun v n' => v = .bool (dGe a b) ∧ n' = news) := by
  rw [show Txt.slice (Str.ofString "sentsince") (some 4) none = Str.ofString "since" by decide +kernel]
  exact c_dh_since T W a b t t1 t2 t3 news hW hT
theorem reg_64_holds_4 : True := by
  k_with "L call ref" => ((k_here; (with_reducible show wpAny _ _ (call (Value.ref 377) [Value.str (Txt.slice (Str.ofString "sentsince") _ _) _, _, _]) _ _ _); k_dflt (refine' Spec.use (c_dhs_since _ _ _ _ _ _ _ _ _ ?h1 ?h2) ?k1 ?k2 ?k3 ?k4 ?k5 ?k6q ?k7q ?k8q ?_; (case k2 => k_asm); (case k1 => k_asm); (case k3 => k_asm); (case k4 => k_asm); (case k5 => k_asm); (case h1 => assumption); (case h2 => k_mem); (case k6q => first | exact rfl | assumption); (case k7q => ktr_room); (case k8q => ktr_units); refine curry (elimB ?_); intro h9q tk9q F9q N9q; (try dsimp only))))
  trivial
noncomputable def hold_before (o : Option D3) (b : D3) : Bool := match o with | none => false | some d => dLt d b
set_option maxHeartbeats 4000000 in
theorem c_sh_before {w : World} (LF W l : Addr) (b : D3) (t : Tok) (fs : List (List UInt8 × List UInt8)) (ys : List Value) (n0 : Nat) (news : List (Addr × Obj)) (hW : DayAt w W b) (hLF : (LF, ({ cls := .type "tuple", data := .seq #[.str (Str.ofString "sentbefore") t, .ref W] } : Obj)) ∈ news) (hl : (l, PySem.W.listOf ys.toArray n0) ∈ news) (hall : All2 (Fld w news) fs ys) (hok : ∀ f ∈ fs, FOk f)
    (hdx : Wait (∀ d, firstB fs = some d → Plain (nat d) ∧ d.length ≤ 1000 ∧ ∃ toks, lexN (nat d) = some toks)) :
    SpecZ w 16 391 [.ref LF, .ref l] news (fun v n' => v = .bool (hold_before (dateOf fs) b) ∧ n' = news) := by
  unfold SpecZ
  intro mean mg mb dp un gd cn cs a ccd A₀ h₀ L m s Q E B F X N T hk hd hu hret
  refine wpAny_call ?_
  k_dflt (refine' code_defS0 ?k1 ?k2 ?k3 ?k4 ?k5 ?kA ?k6 ?k7 ?k8 ?k9 ?kB ?_ ?cK ?c2 ?c3 ?c4 ?c5; (case kA => exact rfl); (case k2 => k_asm); (case k1 => k_asm); (case k3 => k_asm); (case k4 => k_asm); (case k5 => k_asm); (case k6 => k_is); (case k7 => k_is); (case k8 => k_room); (case k9 => first | exact binds_K (by k_in) rfl (by k_is) rfl rfl rfl | exact BindsTo.of_eq rfl); (case kB => exact locs rfl); (case cK => exact hk); (case c2 => exact rfl); (case c3 => exact rfl); (case c4 => exact rfl); (case c5 => decide); k_whole; intro g' L' h' FG' F' N' B' X' T' D'; (try dsimp only); (try k_lift B'); (try k_fold))
  k_steps
  all_goals first
    | exact hret _ _ _ _ (by assumption) (by assumption) ⟨by unfold hold_before; rw [show dateOf fs = none by assumption], rfl⟩
    | exact hret _ _ _ _ (by assumption) (cb_drop (by assumption) fun p hp => .tail _ hp) ⟨by unfold hold_before; rw [show dateOf fs = some _ by assumption], rfl⟩
noncomputable def hold_on (o : Option D3) (b : D3) : Bool := match o with | none => false | some d => dEq d b
set_option maxHeartbeats 4000000 in
theorem c_sh_on {w : World} (LF W l : Addr) (b : D3) (t : Tok) (fs : List (List UInt8 × List UInt8)) (ys : List Value) (n0 : Nat) (news : List (Addr × Obj)) (hW : DayAt w W b) (hLF : (LF, ({ cls := .type "tuple", data := .seq #[.str (Str.ofString "senton") t, .ref W] } : Obj)) ∈ news) (hl : (l, PySem.W.listOf ys.toArray n0) ∈ news) (hall : All2 (Fld w news) fs ys) (hok : ∀ f ∈ fs, FOk f)
    (hdx : Wait (∀ d, firstB fs = some d → Plain (nat d) ∧ d.length ≤ 1000 ∧ ∃ toks, lexN (nat d) = some toks)) :
    SpecZ w 16 391 [.ref LF, .ref l] news (fun v n' => v = .bool (hold_on (dateOf fs) b) ∧ n' = news) := by
  unfold SpecZ
  intro mean mg mb dp un gd cn cs a ccd A₀ h₀ L m s Q E B F X N T hk hd hu hret
  refine wpAny_call ?_
  k_dflt (refine' code_defS0 ?k1 ?k2 ?k3 ?k4 ?k5 ?kA ?k6 ?k7 ?k8 ?k9 ?kB ?_ ?cK ?c2 ?c3 ?c4 ?c5; (case kA => exact rfl); (case k2 => k_asm); (case k1 => k_asm); (case k3 => k_asm); (case k4 => k_asm); (case k5 => k_asm); (case k6 => k_is); (case k7 => k_is); (case k8 => k_room); (case k9 => first | exact binds_K (by k_in) rfl (by k_is) rfl rfl rfl | exact BindsTo.of_eq rfl); (case kB => exact locs rfl); (case cK => exact hk); (case c2 => exact rfl); (case c3 => exact rfl); (case c4 => exact rfl); (case c5 => decide); k_whole; intro g' L' h' FG' F' N' B' X' T' D'; (try dsimp only); (try k_lift B'); (try k_fold))
  k_steps
  all_goals first
    | exact hret _ _ _ _ (by assumption) (by assumption) ⟨by unfold hold_on; rw [show dateOf fs = none by assumption], rfl⟩
    | exact hret _ _ _ _ (by assumption) (cb_drop (by assumption) fun p hp => .tail _ hp) ⟨by unfold hold_on; rw [show dateOf fs = some _ by assumption], rfl⟩
noncomputable def hold_since (o : Option D3) (b : D3) : Bool := match o with | none => false | some d => dGe d b
set_option maxHeartbeats 4000000 in
theorem c_sh_since {w : World} (LF W l : Addr) (b : D3) (t : Tok) (fs : List (List UInt8 × List UInt8)) (ys : List Value) (n0 : Nat) (news : List (Addr × Obj)) (hW : DayAt w W b) (hLF : (LF, ({ cls := .type "tuple", data := .seq #[.str (Str.ofString "sentsince") t, .ref W] } : Obj)) ∈ news) (hl : (l, PySem.W.listOf ys.toArray n0) ∈ news) (hall : All2 (Fld w news) fs ys) (hok : ∀ f ∈ fs, FOk f)
    (hdx : Wait (∀ d, firstB fs = some d → Plain (nat d) ∧ d.length ≤ 1000 ∧ ∃ toks, lexN (nat d) = some toks)) :
    SpecZ w 16 391 [.ref LF, .ref l] news (fun v n' => v = .bool (hold_since (dateOf fs) b) ∧ n' = news) := by
  unfold SpecZ
  intro mean mg mb dp un gd cn cs a ccd A₀ h₀ L m s Q E B F X N T hk hd hu hret
  refine wpAny_call ?_
  k_dflt (refine' code_defS0 ?k1 ?k2 ?k3 ?k4 ?k5 ?kA ?k6 ?k7 ?k8 ?k9 ?kB ?_ ?cK ?c2 ?c3 ?c4 ?c5; (case kA => exact rfl); (case k2 => k_asm); (case k1 => k_asm); (case k3 => k_asm); (case k4 => k_asm); (case k5 => k_asm); (case k6 => k_is); (case k7 => k_is); (case k8 => k_room); (case k9 => first | exact binds_K (by k_in) rfl (by k_is) rfl rfl rfl | exact BindsTo.of_eq rfl); (case kB => exact locs rfl); (case cK => exact hk); (case c2 => exact rfl); (case c3 => exact rfl); (case c4 => exact rfl); (case c5 => decide); k_whole; intro g' L' h' FG' F' N' B' X' T' D'; (try dsimp only); (try k_lift B'); (try k_fold))
  k_steps
  all_goals first
    | exact hret _ _ _ _ (by assumption) (by assumption) ⟨by unfold hold_since; rw [show dateOf fs = none by assumption], rfl⟩
    | exact hret _ _ _ _ (by assumption) (cb_drop (by assumption) fun p hp => .tail _ hp) ⟨by unfold hold_since; rw [show dateOf fs = some _ by assumption], rfl⟩

-- piece 72_ldate
theorem walk_72_ldate : twoK PySem.Challenge.rw_nz0311_01 MineH.hd.heap_1_39 := by k_fill; w_top off; trivial
section
variable {prog : Program} {w w' : World} {A : Around} {E : Value → Shared → Prop} {s : Shared} {h₀ : Heap} {L T : Addr} {m : PySem.Str → Option Value} {news : List (Addr × Obj)} {Q : Value → Shared → Prop} {value slice : PySem.Expr} {u : Tok} {r : Nat}
theorem menu_len {M : List (List Nat)} (h : M.all (fun l => decide (l.length ≤ 30)) = true) (r : Nat) : (M.getD r []).length ≤ 30 := by
  rw [List.getD_eq_getElem?_getD]
  cases e : M[r]? with
  | none => exact Nat.zero_le _
  | some l => exact of_decide_eq_true (List.all_eq_true.mp h l (List.mem_of_getElem? e))
theorem rows_item (F : Fr h₀ L s.heap m) (X : (MineH.hd.heap_1_39 w.params).In h₀) (hr : r < 6) (h : Q (.ref (395 + 4 * r)) s)
    (hs : subscripted slice false (.ref 416) (.int (r : Int) u) = operate [.ref 416, .int (r : Int) u] (getItem (.ref 416) (.int (r : Int) u)) := by with_unfolding_all rfl) : wpAny (model prog w') A (subscriptTail value slice (.ref 416) (.int (r : Int) u)) Q E s :=
  btup_item (xs := #[.ref 395, .ref 399, .ref 403, .ref 407, .ref 411, .ref 415]) ⟨_, X.keeps F.keep 416 _ rfl, rfl, _, rfl⟩ (by show 6 ≤ 100; omega) (by match r, hr with | 0, _ => rfl | 1, _ => rfl | 2, _ => rfl | 3, _ => rfl | 4, _ => rfl | 5, _ => rfl) h hs
theorem row_obj {h : Heap} (X : (MineH.hd.heap_1_39 w.params).In h) (hr : r < 6) : ∃ t, h.get? (395 + 4 * r) = some { cls := .type "tuple", data := .seq #[.ref (392 + 4 * r), .str (strL (rowsT.getD r [])) t, .ref (393 + 4 * r), .ref (394 + 4 * r)] } := by
  match r, hr with
  | 0, _ => exact ⟨_, X 395 _ rfl⟩
  | 1, _ => exact ⟨_, X 399 _ rfl⟩
  | 2, _ => exact ⟨_, X 403 _ rfl⟩
  | 3, _ => exact ⟨_, X 407 _ rfl⟩
  | 4, _ => exact ⟨_, X 411 _ rfl⟩
  | 5, _ => exact ⟨_, X 415 _ rfl⟩
theorem ahead_at (t0 t1 t2 t3 : Tok) (hr : r < 4) : ∃ t, (#[.str (Str.ofString "") t0, .str (Str.ofString "Mon, ") t1, .str (Str.ofString "sun,") t2, .str (Str.ofString "Fri ") t3] : Array Value)[r]? = some (.str (strL (aheadT.getD r [])) t) := by
  match r, hr with
  | 0, _ => exact ⟨t0, congrArg (fun z => some (Value.str z t0)) (by decide +kernel)⟩
  | 1, _ => exact ⟨t1, congrArg (fun z => some (Value.str z t1)) (by decide +kernel)⟩
  | 2, _ => exact ⟨t2, congrArg (fun z => some (Value.str z t2)) (by decide +kernel)⟩
  | 3, _ => exact ⟨t3, congrArg (fun z => some (Value.str z t3)) (by decide +kernel)⟩
theorem ahead_item {t0 t1 t2 t3 : Tok} (N : News h₀ L s.heap news) (hm : (T, ({ cls := .type "tuple", data := .seq #[.str (Str.ofString "") t0, .str (Str.ofString "Mon, ") t1, .str (Str.ofString "sun,") t2, .str (Str.ofString "Fri ") t3] } : Obj)) ∈ news) (hr : r < 4) (h : ∀ t, (aheadT.getD r []).length ≤ 30 → Q (.str (strL (aheadT.getD r [])) t) s)
    (hs : subscripted slice false (.ref T) (.int (r : Int) u) = operate [.ref T, .int (r : Int) u] (getItem (.ref T) (.int (r : Int) u)) := by with_unfolding_all rfl) : wpAny (model prog w') A (subscriptTail value slice (.ref T) (.int (r : Int) u)) Q E s := by
  obtain ⟨t, e⟩ := ahead_at t0 t1 t2 t3 hr
  exact btup_item ⟨_, (N _ hm).1, rfl, _, rfl⟩ (by show 4 ≤ 100; omega) e (h t (menu_len (by decide) r)) hs
theorem behind_at (t0 t1 : Tok) (hr : r < 2) : ∃ t, (#[.str (Str.ofString "") t0, .str (Str.ofString " (a (b) c)") t1] : Array Value)[r]? = some (.str (strL (behindT.getD r [])) t) := by
  match r, hr with
  | 0, _ => exact ⟨t0, congrArg (fun z => some (Value.str z t0)) (by decide +kernel)⟩
  | 1, _ => exact ⟨t1, congrArg (fun z => some (Value.str z t1)) (by decide +kernel)⟩
theorem behind_item {t0 t1 : Tok} (N : News h₀ L s.heap news) (hm : (T, ({ cls := .type "tuple", data := .seq #[.str (Str.ofString "") t0, .str (Str.ofString " (a (b) c)") t1] } : Obj)) ∈ news) (hr : r < 2) (h : ∀ t, (behindT.getD r []).length ≤ 30 → Q (.str (strL (behindT.getD r [])) t) s)
    (hs : subscripted slice false (.ref T) (.int (r : Int) u) = operate [.ref T, .int (r : Int) u] (getItem (.ref T) (.int (r : Int) u)) := by with_unfolding_all rfl) : wpAny (model prog w') A (subscriptTail value slice (.ref T) (.int (r : Int) u)) Q E s := by
  obtain ⟨t, e⟩ := behind_at t0 t1 hr
  exact btup_item ⟨_, (N _ hm).1, rfl, _, rfl⟩ (by show 2 ≤ 100; omega) e (h t (menu_len (by decide) r)) hs
theorem clock_at (t0 t1 t2 t3 t4 : Tok) (hr : r < 5) : ∃ t, (#[.str (Str.ofString "00:00") t0, .str (Str.ofString "23:59:59") t1, .str (Str.ofString "12:30:00") t2, .str (Str.ofString "00:00:01") t3, .str (Str.ofString "23:59:60") t4] : Array Value)[r]? = some (.str (strL (clocksT.getD r [])) t) := by
  match r, hr with
  | 0, _ => exact ⟨t0, congrArg (fun z => some (Value.str z t0)) (by decide +kernel)⟩
  | 1, _ => exact ⟨t1, congrArg (fun z => some (Value.str z t1)) (by decide +kernel)⟩
  | 2, _ => exact ⟨t2, congrArg (fun z => some (Value.str z t2)) (by decide +kernel)⟩
  | 3, _ => exact ⟨t3, congrArg (fun z => some (Value.str z t3)) (by decide +kernel)⟩
  | 4, _ => exact ⟨t4, congrArg (fun z => some (Value.str z t4)) (by decide +kernel)⟩
theorem clock_item (F : Fr h₀ L s.heap m) (X : (MineH.hd.heap_1_39 w.params).In h₀) (hr : r < 5) (h : ∀ t, (clocksT.getD r []).length ≤ 30 → Q (.str (strL (clocksT.getD r [])) t) s)
    (hs : subscripted slice false (.ref 417) (.int (r : Int) u) = operate [.ref 417, .int (r : Int) u] (getItem (.ref 417) (.int (r : Int) u)) := by with_unfolding_all rfl) : wpAny (model prog w') A (subscriptTail value slice (.ref 417) (.int (r : Int) u)) Q E s := by
  obtain ⟨t, e⟩ := clock_at _ _ _ _ _ hr
  exact btup_item ⟨_, X.keeps F.keep 417 _ rfl, rfl, _, rfl⟩ (by show 5 ≤ 100; omega) e (h t (menu_len (by decide) r)) hs
theorem zone_at (t0 t1 t2 t3 t4 t5 t6 t7 : Tok) (hr : r < 8) : ∃ t, (#[.str (Str.ofString "+0000") t0, .str (Str.ofString "+1400") t1, .str (Str.ofString "-1200") t2, .str (Str.ofString "PST") t3, .str (Str.ofString "-0001") t4, .str (Str.ofString "UT") t5, .str (Str.ofString "EDT") t6, .str (Str.ofString "Z") t7] : Array Value)[r]? = some (.str (strL (zonesT.getD r [])) t) := by
  match r, hr with
  | 0, _ => exact ⟨t0, congrArg (fun z => some (Value.str z t0)) (by decide +kernel)⟩
  | 1, _ => exact ⟨t1, congrArg (fun z => some (Value.str z t1)) (by decide +kernel)⟩
  | 2, _ => exact ⟨t2, congrArg (fun z => some (Value.str z t2)) (by decide +kernel)⟩
  | 3, _ => exact ⟨t3, congrArg (fun z => some (Value.str z t3)) (by decide +kernel)⟩
  | 4, _ => exact ⟨t4, congrArg (fun z => some (Value.str z t4)) (by decide +kernel)⟩
  | 5, _ => exact ⟨t5, congrArg (fun z => some (Value.str z t5)) (by decide +kernel)⟩
  | 6, _ => exact ⟨t6, congrArg (fun z => some (Value.str z t6)) (by decide +kernel)⟩
  | 7, _ => exact ⟨t7, congrArg (fun z => some (Value.str z t7)) (by decide +kernel)⟩
theorem zone_item (F : Fr h₀ L s.heap m) (X : (MineH.hd.heap_1_39 w.params).In h₀) (hr : r < 8) (h : ∀ t, (zonesT.getD r []).length ≤ 30 → Q (.str (strL (zonesT.getD r [])) t) s)
    (hs : subscripted slice false (.ref 418) (.int (r : Int) u) = operate [.ref 418, .int (r : Int) u] (getItem (.ref 418) (.int (r : Int) u)) := by with_unfolding_all rfl) : wpAny (model prog w') A (subscriptTail value slice (.ref 418) (.int (r : Int) u)) Q E s := by
  obtain ⟨t, e⟩ := zone_at _ _ _ _ _ _ _ _ hr
  exact btup_item ⟨_, X.keeps F.keep 418 _ rfl, rfl, _, rfl⟩ (by show 8 ≤ 100; omega) e (h t (menu_len (by decide) r)) hs
theorem bad_at (t0 t1 t2 t3 t4 t5 : Tok) (hr : r < 6) : ∃ t, (#[.str (Str.ofString "30 Feb 2000 10:00 +0000") t0, .str (Str.ofString "soon") t1, .str (Str.ofString "1 Jul 1996") t2, .str (Str.ofString "1 Jul 1996 24:00 +0000") t3, .str (Str.ofString "1 Jul 1996 10:00 +0000 x y") t4, .str (Str.ofString "") t5] : Array Value)[r]? = some (.str (strL (badT.getD r [])) t) := by
  match r, hr with
  | 0, _ => exact ⟨t0, congrArg (fun z => some (Value.str z t0)) (by decide +kernel)⟩
  | 1, _ => exact ⟨t1, congrArg (fun z => some (Value.str z t1)) (by decide +kernel)⟩
  | 2, _ => exact ⟨t2, congrArg (fun z => some (Value.str z t2)) (by decide +kernel)⟩
  | 3, _ => exact ⟨t3, congrArg (fun z => some (Value.str z t3)) (by decide +kernel)⟩
  | 4, _ => exact ⟨t4, congrArg (fun z => some (Value.str z t4)) (by decide +kernel)⟩
  | 5, _ => exact ⟨t5, congrArg (fun z => some (Value.str z t5)) (by decide +kernel)⟩
theorem bad_item (F : Fr h₀ L s.heap m) (X : (MineH.hd.heap_1_39 w.params).In h₀) (hr : r < 6) (h : ∀ t, (badT.getD r []).length ≤ 30 → Q (.str (strL (badT.getD r [])) t) s)
    (hs : subscripted slice false (.ref 419) (.int (r : Int) u) = operate [.ref 419, .int (r : Int) u] (getItem (.ref 419) (.int (r : Int) u)) := by with_unfolding_all rfl) : wpAny (model prog w') A (subscriptTail value slice (.ref 419) (.int (r : Int) u)) Q E s := by
  obtain ⟨t, e⟩ := bad_at _ _ _ _ _ _ hr
  exact btup_item ⟨_, X.keeps F.keep 419 _ rfl, rfl, _, rfl⟩ (by show 6 ≤ 100; omega) e (h t (menu_len (by decide) r)) hs
theorem row_text (F : Fr h₀ L s.heap m) (X : (MineH.hd.heap_1_39 w.params).In h₀) (hr : r < 6) (h : ∀ t, (rowsT.getD r []).length ≤ 30 → Q (.str (strL (rowsT.getD r [])) t) s)
    (hs : subscripted slice false (.ref (395 + 4 * r)) (.int 1 u) = operate [.ref (395 + 4 * r), .int 1 u] (getItem (.ref (395 + 4 * r)) (.int 1 u)) := by with_unfolding_all rfl) : wpAny (model prog w') A (subscriptTail value slice (.ref (395 + 4 * r)) (.int 1 u)) Q E s := by
  obtain ⟨t, e⟩ := row_obj (X.keeps F.keep) hr
  exact btup_item (r := 1) ⟨_, e, rfl, _, rfl⟩ (by show 4 ≤ 100; omega) rfl (h t (menu_len (by decide) r)) hs
theorem add_L {a b : List Nat} {t u : Tok} (hz : a.length + b.length ≤ 900) (h : ∀ t' tk, (a ++ b).length = a.length + b.length → Q (.str (strL (a ++ b)) t') { s with toks := tk }) : wpAny (model prog w') A (binaryOp .Add (.str (strL a) t) (.str (strL b) u)) Q E s :=
  PyProof.Rows.add_str (fun t' tk => by
    have e : strL a ++ strL b = strL (a ++ b) := by
      show (⟨a.toArray ++ b.toArray⟩ : PySem.Str) = ⟨(a ++ b).toArray⟩
      rw [List.append_toArray]
    rw [e]; exact h t' tk List.length_append) (by show a.toArray.size + b.toArray.size ≤ sizeLine; rw [sizeLine_eq, List.size_toArray, List.size_toArray]; omega)
theorem add_sp {a : List Nat} {t u : Tok} (hz : a.length ≤ 900) (h : ∀ t' tk, (a ++ [32]).length = a.length + 1 → Q (.str (strL (a ++ [32])) t') { s with toks := tk }) : wpAny (model prog w') A (binaryOp .Add (.str (strL a) t) (.str (Str.ofString " ") u)) Q E s := by
  have e : Str.ofString " " = strL [32] := by decide +kernel
  have hz : a.length + [32].length ≤ 901 := by rw [List.length_singleton]; omega
  rw [e]
  refine PyProof.Rows.add_str (fun t' tk => ?_) (by show a.toArray.size + 1 ≤ sizeLine; rw [sizeLine_eq, List.size_toArray]; omega)
  have e : strL a ++ strL [32] = strL (a ++ [32]) := by
    show (⟨a.toArray ++ [32].toArray⟩ : PySem.Str) = ⟨(a ++ [32]).toArray⟩
    rw [List.append_toArray]
  rw [e]; exact h t' tk List.length_append
theorem sp_add {a : List Nat} {t u : Tok} (hz : a.length ≤ 900) (h : ∀ t' tk, Q (.str (strL (32 :: a)) t') { s with toks := tk }) : wpAny (model prog w') A (binaryOp .Add (.str (Str.ofString " ") t) (.str (strL a) u)) Q E s := by
  have e : Str.ofString " " = strL [32] := by decide +kernel
  rw [e]
  refine PyProof.Rows.add_str (fun t' tk => ?_) (by show 1 + a.toArray.size ≤ sizeLine; rw [sizeLine_eq, List.size_toArray]; omega)
  have e : strL [32] ++ strL a = strL (32 :: a) := by
    show (⟨[32].toArray ++ a.toArray⟩ : PySem.Str) = ⟨(32 :: a).toArray⟩
    rw [List.append_toArray]; rfl
  rw [e]; exact h t' tk
theorem mem_mid {α : Type} {a b : α} {pre rest : List α} : ∀ q ∈ a :: b :: (pre ++ rest), q ∈ pre ++ a :: b :: rest := fun q hq => by
  rcases List.mem_cons.mp hq with rfl | hq
  · exact List.mem_append_right _ (.head _)
  rcases List.mem_cons.mp hq with rfl | hq
  · exact List.mem_append_right _ (.tail _ (.head _))
  rcases List.mem_append.mp hq with hq | hq
  · exact List.mem_append_left _ hq
  · exact List.mem_append_right _ (.tail _ (.tail _ hq))
theorem pen_f2 {P S : Addr} {ws : List Value} {a b c : Int} {ta tb tc : Tok} {c0 c1 : Nat} {rest : List (Addr × Obj)} {h : Heap} {e0 e1 : Addr × Obj} (N : News h₀ L h (e0 :: e1 :: PN P S ws a b c ta tb tc c0 c1 rest)) : News h₀ L h (PN P S ws a b c ta tb tc c0 c1 (e0 :: e1 :: rest)) := cb_drop N (mem_mid (pre := [e0, e1]))
theorem pen_f3 {P S : Addr} {ws : List Value} {a b c : Int} {ta tb tc : Tok} {c0 c1 : Nat} {rest : List (Addr × Obj)} {h : Heap} {e0 e1 e2 : Addr × Obj} (N : News h₀ L h (e0 :: e1 :: e2 :: PN P S ws a b c ta tb tc c0 c1 rest)) : News h₀ L h (PN P S ws a b c ta tb tc c0 c1 (e0 :: e1 :: e2 :: rest)) := cb_drop N (mem_mid (pre := [e0, e1, e2]))
theorem pen_f4 {P S : Addr} {ws : List Value} {a b c : Int} {ta tb tc : Tok} {c0 c1 : Nat} {rest : List (Addr × Obj)} {h : Heap} {e0 e1 e2 e3 : Addr × Obj} (N : News h₀ L h (e0 :: e1 :: e2 :: e3 :: PN P S ws a b c ta tb tc c0 c1 rest)) : News h₀ L h (PN P S ws a b c ta tb tc c0 c1 (e0 :: e1 :: e2 :: e3 :: rest)) := cb_drop N (mem_mid (pre := [e0, e1, e2, e3]))
theorem pen_f5 {P S : Addr} {ws : List Value} {a b c : Int} {ta tb tc : Tok} {c0 c1 : Nat} {rest : List (Addr × Obj)} {h : Heap} {e0 e1 e2 e3 e4 : Addr × Obj} (N : News h₀ L h (e0 :: e1 :: e2 :: e3 :: e4 :: PN P S ws a b c ta tb tc c0 c1 rest)) : News h₀ L h (PN P S ws a b c ta tb tc c0 c1 (e0 :: e1 :: e2 :: e3 :: e4 :: rest)) := cb_drop N (mem_mid (pre := [e0, e1, e2, e3, e4]))
theorem pen_f6 {P S : Addr} {ws : List Value} {a b c : Int} {ta tb tc : Tok} {c0 c1 : Nat} {rest : List (Addr × Obj)} {h : Heap} {e0 e1 e2 e3 e4 e5 : Addr × Obj} (N : News h₀ L h (e0 :: e1 :: e2 :: e3 :: e4 :: e5 :: PN P S ws a b c ta tb tc c0 c1 rest)) : News h₀ L h (PN P S ws a b c ta tb tc c0 c1 (e0 :: e1 :: e2 :: e3 :: e4 :: e5 :: rest)) := cb_drop N (mem_mid (pre := [e0, e1, e2, e3, e4, e5]))
theorem pen_f7 {P S : Addr} {ws : List Value} {a b c : Int} {ta tb tc : Tok} {c0 c1 : Nat} {rest : List (Addr × Obj)} {h : Heap} {e0 e1 e2 e3 e4 e5 e6 : Addr × Obj} (N : News h₀ L h (e0 :: e1 :: e2 :: e3 :: e4 :: e5 :: e6 :: PN P S ws a b c ta tb tc c0 c1 rest)) : News h₀ L h (PN P S ws a b c ta tb tc c0 c1 (e0 :: e1 :: e2 :: e3 :: e4 :: e5 :: e6 :: rest)) := cb_drop N (mem_mid (pre := [e0, e1, e2, e3, e4, e5, e6]))
theorem law_front {P S x y : Addr} {ox oy : Obj} {ws : List Value} {a b c : Int} {ta tb tc : Tok} {c0 c1 : Nat} {h : Heap} (N : News h₀ L h [(P, PySem.W.listOf #[.ref S, .int a ta, .int b tb, .int c tc] c0), (x, ox), (S, PySem.W.listOf ws.toArray c1), (y, oy)]) : News h₀ L h (PN P S ws a b c ta tb tc c0 c1 [(x, ox), (y, oy)]) := cb_drop N fun q hq => by
  rcases List.mem_cons.mp hq with rfl | hq
  · exact .head _
  rcases List.mem_cons.mp hq with rfl | hq
  · exact .tail _ (.tail _ (.head _))
  rcases List.mem_cons.mp hq with rfl | hq
  · exact .tail _ (.head _)
  rcases List.mem_cons.mp hq with rfl | hq
  · exact .tail _ (.tail _ (.tail _ (.head _)))
  · cases hq
theorem lt_via {P b D : Addr} (h2 : b < D) (h1 : P < b) : P < D := Nat.lt_trans h1 h2
theorem law_ne {P S x y : Addr} (l : x < P ∧ S < P ∧ y < P) : @Ne Nat S P := Nat.ne_of_lt l.2.1
theorem law_off {P S x y : Addr} {ox oy : Obj} (l : x < P ∧ S < P ∧ y < P) : ∀ p ∈ [(x, ox), (y, oy)], p.1 ≠ P := fun q hq => by
  rcases List.mem_cons.mp hq with rfl | hq
  · exact Nat.ne_of_lt l.1
  rcases List.mem_cons.mp hq with rfl | hq
  · exact Nat.ne_of_lt l.2.2
  · cases hq
theorem mod_lo (x : Int) : 0 ≤ x.fmod 1009 := Int.fmod_nonneg_of_pos _ (by decide)
theorem mod_hi (x : Int) : x.fmod 1009 ≤ 1008 := by have := Int.fmod_lt_of_pos x (b := 1009) (by decide); omega
theorem pen_front {P S : Addr} {ws : List Value} {a b c : Int} {ta tb tc : Tok} {c0 c1 : Nat} {rest : List (Addr × Obj)} {h : Heap} {p : Addr × Obj} (N : News h₀ L h (p :: PN P S ws a b c ta tb tc c0 c1 rest)) : News h₀ L h (PN P S ws a b c ta tb tc c0 c1 (p :: rest)) := cb_drop N fun q hq => by
  rcases List.mem_cons.mp hq with rfl | hq
  · exact .tail _ (.head _)
  rcases List.mem_cons.mp hq with rfl | hq
  · exact .tail _ (.tail _ (.head _))
  rcases List.mem_cons.mp hq with rfl | hq
  · exact .head _
  · exact .tail _ (.tail _ (.tail _ hq))
theorem pen_off1 {P D : Addr} {o : Obj} {rest : List (Addr × Obj)} (l : P < D) (hoff : ∀ p ∈ rest, p.1 ≠ P) : ∀ p ∈ (D, o) :: rest, p.1 ≠ P := fun p hp => by
  rcases List.mem_cons.mp hp with rfl | hp
  · exact Nat.ne_of_gt l
  · exact hoff p hp
end
theorem reg_72_ldate_0 : True := by
  k_with "L subscriptTail" => ((k_here; (with_reducible show wpAny _ _ (subscriptTail _ _ (Value.ref _) (Value.int (Nat.cast _) _)) _ _ _); k_dflt (refine' ahead_item ?N ?hm ?hr ?_; (case N => k_asm); (case hm => k_mem); (case hr => omega); intro t8q len8q)))
  k_with "L subscriptTail" => ((k_here; (with_reducible show wpAny _ _ (subscriptTail _ _ (Value.ref _) (Value.int (Nat.cast _) _)) _ _ _); k_dflt (refine' behind_item ?N ?hm ?hr ?_; (case N => k_asm); (case hm => k_mem); (case hr => omega); intro t8q len8q)))
  k_with "L subscriptTail" => ((k_here; (with_reducible show wpAny _ _ (subscriptTail _ _ (Value.ref 416) (Value.int (Nat.cast _) _)) _ _ _); k_dflt (refine' rows_item ?F ?X ?hr ?_; (case F => k_asm); (case X => k_asm); (case hr => omega))))
  k_with "L subscriptTail" => ((k_here; (with_reducible show wpAny _ _ (subscriptTail _ _ (Value.ref 417) (Value.int (Nat.cast _) _)) _ _ _); k_dflt (refine' clock_item ?F ?X ?hr ?_; (case F => k_asm); (case X => k_asm); (case hr => omega); intro t8q len8q)))
  k_with "L subscriptTail" => ((k_here; (with_reducible show wpAny _ _ (subscriptTail _ _ (Value.ref 418) (Value.int (Nat.cast _) _)) _ _ _); k_dflt (refine' zone_item ?F ?X ?hr ?_; (case F => k_asm); (case X => k_asm); (case hr => omega); intro t8q len8q)))
  k_with "L subscriptTail" => ((k_here; (with_reducible show wpAny _ _ (subscriptTail _ _ (Value.ref 419) (Value.int (Nat.cast _) _)) _ _ _); k_dflt (refine' bad_item ?F ?X ?hr ?_; (case F => k_asm); (case X => k_asm); (case hr => omega); intro t8q len8q)))
  k_with "L subscriptTail" => ((k_here; (with_reducible show wpAny _ _ (subscriptTail _ _ (Value.ref (395 + 4 * _)) (Value.int 1 _)) _ _ _); k_dflt (refine' row_text ?F ?X ?hr ?_; (case F => k_asm); (case X => k_asm); (case hr => omega); intro t8q len8q)))
  k_with "L binaryOp Add str str" => ((k_here; (with_reducible show wpAny _ _ (binaryOp Operator.Add (Value.str (strL _) _) (Value.str (strL _) _)) _ _ _); k_dflt (refine' add_L ?h ?_; (case h => omega); intro t8q tk8q len8q)))
  k_with "L binaryOp Add str str" => ((k_here; (with_reducible show wpAny _ _ (binaryOp Operator.Add (Value.str (strL _) _) (Value.str (Str.ofString " ") _)) _ _ _); k_dflt (refine' add_sp ?h ?_; (case h => omega); intro t8q tk8q len8q)))
  k_with "L binaryOp Add str str" => ((k_here; (with_reducible show wpAny _ _ (binaryOp Operator.Add (Value.str (Str.ofString " ") _) (Value.str (strL _) _)) _ _ _); k_dflt (refine' sp_add ?h ?_; (case h => omega); intro t8q tk8q)))
  k_with "L call ref" => ((k_here; (with_reducible show wpAny _ _ (call (Value.ref 426) [Value.ref _, Value.int _ _]) _ _ _); k_dflt (refine' Spec.use (c_drawI _ _ _ _ _ _ _ _ _ _ _ _ _ _ _ ?h1 ?h2 ?h3 ?h4 ?h5 ?h6q ?h7q ?h8q ?h9q ?h10) ?k1 ?k2 ?k3 ?k4 ?k5 ?k6q ?k7q ?k8q ?_; (case k1 => k_asm); (case k2 => k_asm); (case k3 => k_asm); (case k4 => first | k_asm | exact pen_front (by k_asm) | exact law_front (by k_asm) | exact pen_f2 (by k_asm) | exact pen_f3 (by k_asm) | exact pen_f4 (by k_asm) | exact pen_f5 (by k_asm) | exact pen_f6 (by k_asm) | exact pen_f7 (by k_asm)); (case k5 => k_asm); (case h1 => assumption); (case h2 => first | assumption | omega); (case h3 => decide); (case h4 => decide); (case h5 => omega); (case h6q => omega); (case h7q => first | omega | exact mod_lo _); (case h8q => first | omega | exact mod_hi _); (case h9q => first | assumption | exact law_ne (by assumption)); (case h10 => ((repeat (refine pen_off1 (by first | assumption | exact And.left (by assumption) | exact And.left (And.right (by assumption)) | exact And.left (And.right (And.right (by assumption))) | exact And.left (And.right (And.right (And.right (by assumption)))) | exact And.left (And.right (And.right (And.right (And.right (by assumption))))) | exact And.left (And.right (And.right (And.right (And.right (And.right (by assumption)))))) | exact And.left (And.right (And.right (And.right (And.right (And.right (And.right (by assumption))))))) | exact And.left (And.right (And.right (And.right (And.right (And.right (And.right (And.right (by assumption)))))))) | exact And.left (And.right (And.right (And.right (And.right (And.right (And.right (And.right (And.right (by assumption))))))))) | exact lt_via (by assumption) (by first | exact And.left (by assumption) | exact And.left (And.right (by assumption)) | exact And.left (And.right (And.right (by assumption))) | exact And.left (And.right (And.right (And.right (by assumption)))) | exact And.left (And.right (And.right (And.right (And.right (by assumption))))) | exact And.left (And.right (And.right (And.right (And.right (And.right (by assumption)))))) | exact And.left (And.right (And.right (And.right (And.right (And.right (And.right (by assumption))))))) | exact And.left (And.right (And.right (And.right (And.right (And.right (And.right (And.right (by assumption)))))))) | exact And.left (And.right (And.right (And.right (And.right (And.right (And.right (And.right (And.right (by assumption))))))))))) ?_)); first | assumption | exact law_off (by assumption))); (case k6q => first | exact rfl | assumption); (case k7q => ktr_room); (case k8q => ktr_units); refine curry (elimD ?_); intro r9q a9q b9q ta9q tb9q t9q lt9q p9q q9q h9q tk9q F9q N9q; (try dsimp only))))
  trivial
theorem mem_ld {α : Type} {a b c d e : α} {r : List α} : ∀ p ∈ a :: b :: c :: r, p ∈ a :: b :: c :: d :: e :: r := fun p hp => by
  rcases List.mem_cons.mp hp with rfl | hp
  · exact .head _
  rcases List.mem_cons.mp hp with rfl | hp
  · exact .tail _ (.head _)
  rcases List.mem_cons.mp hp with rfl | hp
  · exact .tail _ (.tail _ (.head _))
  · exact .tail _ (.tail _ (.tail _ (.tail _ (.tail _ hp))))
theorem lt_and {P D : Addr} {R : Prop} (l : P < D ∧ R) : P < D := l.1
set_option maxHeartbeats 1000000 in
theorem c_ldate {w : World} (P S : Addr) (ws : List Value) (xs : List Int) (a b c : Int) (ta tb tc : Tok) (c0 c1 : Nat) (rest : List (Addr × Obj)) (hI : IntsAre ws xs) (hz : xs.length ≤ 63) (ha : 0 ≤ a) (ha2 : a ≤ 500) (hc : 0 ≤ c) (hc2 : c ≤ 1008) (hSP : @Ne Nat S P) (hoff : ∀ p ∈ rest, p.1 ≠ P) :
    Spec w 4 438 [.ref P] (PN P S ws a b c ta tb tc c0 c1 rest) (fun v n' => ∃ (T : Addr) (i aa bb cc zz : Nat) (a' b' : Int) (ta' tb' t : Tok), (i < 6 ∧ aa < 4 ∧ bb < 2 ∧ cc < 5 ∧ zz < 8) ∧ 0 ≤ a' ∧ a' ≤ a + 5 ∧ v = .ref T ∧ P < T ∧ n' = (T, { cls := .type "tuple", data := .seq #[.ref (395 + 4 * i), .str (strL (textN i aa bb cc zz)) t] }) :: PN P S ws a' b' c ta' tb' tc c0 c1 rest) := by
  unfold Spec
  intro mean mg mb dp un gd cn cs a ccd cl outer A₀ base h₀ L m s Q E B F X N T hk hd hu hret
  obtain ⟨sh, sg, sd, st, so⟩ := s
  dsimp only at F N hret
  refine wpAny_call ?_
  k_dflt cell_enter
  k_steps
  all_goals exact hret _ _ _ _ (by assumption) (cb_drop (by assumption) mem_ld) ⟨_, _, _, _, _, _, _, _, _, _, _, ⟨Int.ofNat_lt.mp (by assumption), Int.ofNat_lt.mp (by assumption), Int.ofNat_lt.mp (by assumption), Int.ofNat_lt.mp (by assumption), Int.ofNat_lt.mp (by assumption)⟩, by assumption, by omega, rfl, lt_and (by assumption), rfl⟩

theorem reg_72_ldate_1 : True := by
  k_with "L call ref" => ((k_here; (with_reducible show wpAny _ _ (call (Value.ref 438) [Value.ref _]) _ _ _); k_dflt (refine' Spec.use (c_ldate _ _ _ _ _ _ _ _ _ _ _ _ _ ?h1 ?h2 ?h5 ?h6q ?h7q ?h8q ?h9q ?h10) ?k1 ?k2 ?k3 ?k4 ?k5 ?k6q ?k7q ?k8q ?_; (case k1 => k_asm); (case k2 => k_asm); (case k3 => k_asm); (case k4 => first | k_asm | exact pen_front (by k_asm) | exact law_front (by k_asm) | exact pen_f2 (by k_asm) | exact pen_f3 (by k_asm) | exact pen_f4 (by k_asm) | exact pen_f5 (by k_asm) | exact pen_f6 (by k_asm) | exact pen_f7 (by k_asm)); (case k5 => k_asm); (case h1 => assumption); (case h2 => first | assumption | omega); (case h5 => omega); (case h6q => omega); (case h7q => first | omega | exact mod_lo _); (case h8q => first | omega | exact mod_hi _); (case h9q => first | assumption | exact law_ne (by assumption)); (case h10 => ((repeat (refine pen_off1 (by first | assumption | exact And.left (by assumption) | exact And.left (And.right (by assumption)) | exact And.left (And.right (And.right (by assumption))) | exact And.left (And.right (And.right (And.right (by assumption)))) | exact And.left (And.right (And.right (And.right (And.right (by assumption))))) | exact And.left (And.right (And.right (And.right (And.right (And.right (by assumption)))))) | exact And.left (And.right (And.right (And.right (And.right (And.right (And.right (by assumption))))))) | exact And.left (And.right (And.right (And.right (And.right (And.right (And.right (And.right (by assumption)))))))) | exact And.left (And.right (And.right (And.right (And.right (And.right (And.right (And.right (And.right (by assumption))))))))) | exact lt_via (by assumption) (by first | exact And.left (by assumption) | exact And.left (And.right (by assumption)) | exact And.left (And.right (And.right (by assumption))) | exact And.left (And.right (And.right (And.right (by assumption)))) | exact And.left (And.right (And.right (And.right (And.right (by assumption))))) | exact And.left (And.right (And.right (And.right (And.right (And.right (by assumption)))))) | exact And.left (And.right (And.right (And.right (And.right (And.right (And.right (by assumption))))))) | exact And.left (And.right (And.right (And.right (And.right (And.right (And.right (And.right (by assumption)))))))) | exact And.left (And.right (And.right (And.right (And.right (And.right (And.right (And.right (And.right (by assumption))))))))))) ?_)); first | assumption | exact law_off (by assumption))); (case k6q => first | exact rfl | assumption); (case k7q => ktr_room); (case k8q => ktr_units); refine curry (elimL ?_); intro T9q i9q aa9q bb9q cc9q zz9q a9q b9q ta9q tb9q t9q lt1q lt2q lt3q lt4q lt5q p9q q9q lt9q h9q tk9q F9q N9q; (try dsimp only))))
  trivial
-- piece 73_menu
theorem walk_73_menu : twoK PySem.Challenge.rw_nz0311_01 MineH.hd.heap_1_39 := by k_fill; w_top off; trivial
noncomputable def namesB : List (List UInt8) := [[68, 97, 116, 101], [68, 65, 84, 69], [100, 97, 116, 101]]
theorem menu_small {M : List (List Nat)} (h : M.all (fun l => l.all fun c => decide (c < 256)) = true) (r : Nat) : ∀ c ∈ M.getD r [], c < 256 := by
  intro c hc
  rw [List.getD_eq_getElem?_getD] at hc
  cases e : M[r]? with
  | none => rw [e] at hc; cases hc
  | some l => rw [e] at hc; exact of_decide_eq_true (List.all_eq_true.mp (List.all_eq_true.mp h l (List.mem_of_getElem? e)) c hc)
theorem textN_len (i a b c z : Nat) : (textN i a b c z).length ≤ 200 := by
  have h1 := menu_len (M := aheadT) (by decide) a
  have h2 := menu_len (M := rowsT) (by decide) i
  have h3 := menu_len (M := clocksT) (by decide) c
  have h4 := menu_len (M := zonesT) (by decide) z
  have h5 := menu_len (M := behindT) (by decide) b
  unfold textN
  simp only [List.length_append, List.length_singleton]
  omega
theorem textN_small (i a b c z : Nat) : ∀ x ∈ textN i a b c z, x < 256 := by
  intro x hx
  unfold textN at hx
  simp only [List.mem_append, List.mem_singleton] at hx
  rcases hx with (((((h | h) | h) | h) | h) | h) | h
  · exact menu_small (M := aheadT) (by decide) a x h
  · exact menu_small (M := rowsT) (by decide) i x h
  · omega
  · exact menu_small (M := clocksT) (by decide) c x h
  · omega
  · exact menu_small (M := zonesT) (by decide) z x h
  · exact menu_small (M := behindT) (by decide) b x h
theorem c_oct {w : World} (l : List Nat) (t : Tok) (news) (hx : l.length ≤ 900) (hb : ∀ c ∈ l, c < 256) :
    Spec w 3 431 [.str (strL l) t] news (fun v n' => (∃ t', v = .bytes (bytesOf l).toArray t') ∧ n' = news) := by
  have h := c_octets (w := w) (strL l) t news (by show l.toArray.size ≤ 1000; rw [List.size_toArray]; omega) (fun c hc => hb c (by simpa [strL] using hc))
  have e : (strL l).cps.toList = l := by simp [strL]
  rwa [e] at h
theorem c_oct_text {w : World} (i a b c z : Nat) (t : Tok) (news) : Spec w 3 431 [.str (strL (32 :: textN i a b c z)) t] news (fun v n' => (∃ t', v = .bytes (bytesOf (32 :: textN i a b c z)).toArray t') ∧ n' = news) :=
  c_oct _ t news (by have := textN_len i a b c z; rw [List.length_cons]; omega) (fun x hx => by
    rcases List.mem_cons.mp hx with rfl | hx
    · decide
    · exact textN_small _ _ _ _ _ x hx)
theorem c_oct_bad {w : World} (r : Nat) (t : Tok) (news) : Spec w 3 431 [.str (strL (32 :: badT.getD r [])) t] news (fun v n' => (∃ t', v = .bytes (bytesOf (32 :: badT.getD r [])).toArray t') ∧ n' = news) :=
  c_oct _ t news (by have := menu_len (M := badT) (by decide) r; rw [List.length_cons]; omega) (fun x hx => by
    rcases List.mem_cons.mp hx with rfl | hx
    · decide
    · exact menu_small (M := badT) (by decide) r x hx)
section
variable {prog : Program} {w w' : World} {A : Around} {E : Value → Shared → Prop} {s : Shared} {h₀ : Heap} {L T : Addr} {m : PySem.Str → Option Value} {news : List (Addr × Obj)} {Q : Value → Shared → Prop} {value slice : PySem.Expr} {u : Tok} {r : Nat}
theorem names_at (t0 t1 t2 : Tok) (hr : r < 3) : ∃ t, (#[.bytes #[68, 97, 116, 101] t0, .bytes #[68, 65, 84, 69] t1, .bytes #[100, 97, 116, 101] t2] : Array Value)[r]? = some (.bytes (namesB.getD r []).toArray t) := by
  match r, hr with
  | 0, _ => exact ⟨t0, rfl⟩
  | 1, _ => exact ⟨t1, rfl⟩
  | 2, _ => exact ⟨t2, rfl⟩
theorem names_item {t0 t1 t2 : Tok} (N : News h₀ L s.heap news) (hm : (T, ({ cls := .type "tuple", data := .seq #[.bytes #[68, 97, 116, 101] t0, .bytes #[68, 65, 84, 69] t1, .bytes #[100, 97, 116, 101] t2] } : Obj)) ∈ news) (hr : r < 3) (h : ∀ t, Q (.bytes (namesB.getD r []).toArray t) s)
    (hs : subscripted slice false (.ref T) (.int (r : Int) u) = operate [.ref T, .int (r : Int) u] (getItem (.ref T) (.int (r : Int) u)) := by with_unfolding_all rfl) : wpAny (model prog w') A (subscriptTail value slice (.ref T) (.int (r : Int) u)) Q E s := by
  obtain ⟨t, e⟩ := names_at t0 t1 t2 hr
  exact btup_item ⟨_, (N _ hm).1, rfl, _, rfl⟩ (by show 3 ≤ 100; omega) e (h t) hs
theorem row_days (F : Fr h₀ L s.heap m) (X : (MineH.hd.heap_1_39 w.params).In h₀) (hr : r < 6) (h0 : Q (.ref (392 + 4 * r)) s)
    (hs : subscripted slice false (.ref (395 + 4 * r)) (.int 0 u) = operate [.ref (395 + 4 * r), .int 0 u] (getItem (.ref (395 + 4 * r)) (.int 0 u)) := by with_unfolding_all rfl) : wpAny (model prog w') A (subscriptTail value slice (.ref (395 + 4 * r)) (.int 0 u)) Q E s := by
  obtain ⟨t, e⟩ := row_obj (X.keeps F.keep) hr
  exact btup_item (r := 0) ⟨_, e, rfl, _, rfl⟩ (by show 4 ≤ 100; omega) rfl h0 hs
theorem row_days2 (F : Fr h₀ L s.heap m) (X : (MineH.hd.heap_1_39 w.params).In h₀) (hr : r < 6) (h0 : Q (.ref (393 + 4 * r)) s)
    (hs : subscripted slice false (.ref (395 + 4 * r)) (.int 2 u) = operate [.ref (395 + 4 * r), .int 2 u] (getItem (.ref (395 + 4 * r)) (.int 2 u)) := by with_unfolding_all rfl) : wpAny (model prog w') A (subscriptTail value slice (.ref (395 + 4 * r)) (.int 2 u)) Q E s := by
  obtain ⟨t, e⟩ := row_obj (X.keeps F.keep) hr
  exact btup_item (r := 2) ⟨_, e, rfl, _, rfl⟩ (by show 4 ≤ 100; omega) rfl h0 hs
theorem row_days3 (F : Fr h₀ L s.heap m) (X : (MineH.hd.heap_1_39 w.params).In h₀) (hr : r < 6) (h0 : Q (.ref (394 + 4 * r)) s)
    (hs : subscripted slice false (.ref (395 + 4 * r)) (.int 3 u) = operate [.ref (395 + 4 * r), .int 3 u] (getItem (.ref (395 + 4 * r)) (.int 3 u)) := by with_unfolding_all rfl) : wpAny (model prog w') A (subscriptTail value slice (.ref (395 + 4 * r)) (.int 3 u)) Q E s := by
  obtain ⟨t, e⟩ := row_obj (X.keeps F.keep) hr
  exact btup_item (r := 3) ⟨_, e, rfl, _, rfl⟩ (by show 4 ≤ 100; omega) rfl h0 hs
end

theorem reg_73_menu_0 : True := by
  k_with "L subscriptTail" => ((k_here; (with_reducible show wpAny _ _ (subscriptTail _ _ (Value.ref _) (Value.int (Nat.cast _) _)) _ _ _); k_dflt (refine' names_item ?N ?hm ?hr ?_; (case N => k_asm); (case hm => k_mem); (case hr => omega); intro t8q)))
  k_with "L subscriptTail" => ((k_here; (with_reducible show wpAny _ _ (subscriptTail _ _ (Value.ref (395 + 4 * _)) (Value.int 0 _)) _ _ _); k_dflt (refine' row_days ?F ?X ?hr ?_; (case F => k_asm); (case X => k_asm); (case hr => omega))))
  k_with "L subscriptTail" => ((k_here; (with_reducible show wpAny _ _ (subscriptTail _ _ (Value.ref (395 + 4 * _)) (Value.int 2 _)) _ _ _); k_dflt (refine' row_days2 ?F ?X ?hr ?_; (case F => k_asm); (case X => k_asm); (case hr => omega))))
  k_with "L subscriptTail" => ((k_here; (with_reducible show wpAny _ _ (subscriptTail _ _ (Value.ref (395 + 4 * _)) (Value.int 3 _)) _ _ _); k_dflt (refine' row_days3 ?F ?X ?hr ?_; (case F => k_asm); (case X => k_asm); (case hr => omega))))
  k_with "L binaryOp Add str str" => ((k_here; (with_reducible show wpAny _ _ (binaryOp Operator.Add (Value.str (Str.ofString " ") _) (Value.str (strL (textN _ _ _ _ _)) _)) _ _ _); k_dflt (refine' sp_add (Nat.le_trans (textN_len _ _ _ _ _) (by decide)) ?_; intro t8q tk8q)))
  k_with "L call ref" => ((k_here; (with_reducible show wpAny _ _ (call (Value.ref 431) [Value.str (strL (32 :: textN _ _ _ _ _)) _]) _ _ _); k_dflt (refine' Spec.use (c_oct_text _ _ _ _ _ _ _) ?k1 ?k2 ?k3 ?k4 ?k5 ?k6q ?k7q ?k8q ?_; (case k1 => k_asm); (case k2 => k_asm); (case k3 => k_asm); (case k4 => first | k_asm | exact cb_drop (by k_asm) fun p hp => .tail _ hp | exact cb_drop (by k_asm) fun p hp => .tail _ (.tail _ hp) | exact cb_drop (by k_asm) fun p hp => .tail _ (.tail _ (.tail _ hp))); (case k5 => k_asm); (case k6q => first | exact rfl | assumption); (case k7q => ktr_room); (case k8q => ktr_units);  refine curry (elimA ?_); intro t8q h9q tk9q F9q N9q; (try dsimp only))))
  k_with "L call ref" => ((k_here; (with_reducible show wpAny _ _ (call (Value.ref 431) [Value.str (strL (32 :: List.getD badT _ [])) _]) _ _ _); k_dflt (refine' Spec.use (c_oct_bad _ _ _) ?k1 ?k2 ?k3 ?k4 ?k5 ?k6q ?k7q ?k8q ?_; (case k1 => k_asm); (case k2 => k_asm); (case k3 => k_asm); (case k4 => first | k_asm | exact cb_drop (by k_asm) fun p hp => .tail _ hp | exact cb_drop (by k_asm) fun p hp => .tail _ (.tail _ hp) | exact cb_drop (by k_asm) fun p hp => .tail _ (.tail _ (.tail _ hp))); (case k5 => k_asm); (case k6q => first | exact rfl | assumption); (case k7q => ktr_room); (case k8q => ktr_units);  refine curry (elimA ?_); intro t8q h9q tk9q F9q N9q; (try dsimp only))))
  trivial
-- piece 74_texts
theorem walk_74_texts : twoK PySem.Challenge.rw_nz0311_01 MineH.hd.heap_1_39 := by k_fill; w_top off; trivial
noncomputable def subjF : List UInt8 × List UInt8 := ([83, 117, 98, 106, 101, 99, 116], [32, 49, 32, 74, 117, 108, 32, 49, 57, 57, 54, 32, 49, 48, 58, 48, 48, 32, 43, 48, 48, 48, 48])
noncomputable def nameDate : List UInt8 := [68, 97, 116, 101]
noncomputable def nameRes : List UInt8 := [82, 101, 115, 101, 110, 116, 45, 68, 97, 116, 101]
noncomputable def dayN (i : Nat) : D3 := ((rowsD[i]?).getD ((0, 0, 0), (0, 0, 0), (0, 0, 0))).1
noncomputable def dayB (i : Nat) : D3 := ((rowsD[i]?).getD ((0, 0, 0), (0, 0, 0), (0, 0, 0))).2.1
noncomputable def dayA (i : Nat) : D3 := ((rowsD[i]?).getD ((0, 0, 0), (0, 0, 0), (0, 0, 0))).2.2
/-- a list of fields whose first Date tells o -/
noncomputable def FsOk (fs : List (List UInt8 × List UInt8)) (o : Option D3) : Prop := (∀ f ∈ fs, FOk f) ∧ (∀ d, firstB fs = some d → Plain (nat d) ∧ d.length ≤ 1000 ∧ ∃ toks, lexN (nat d) = some toks) ∧ dateOf fs = o
theorem all_lt {n : Nat} {p : Nat → Bool} (h : (List.range n).all p = true) {k : Nat} (hk : k < n) : p k = true := List.all_eq_true.mp h k (List.mem_range.mpr hk)
theorem lexG_more : ∀ (f k : Nat) (l : List Nat) (t : List (Nat × List Nat)), lexG f l = some t → lexG (f + k) l = some t
  | 0, k, l, t, h => by cases h
  | f + 1, k, l, t, h => by
    rw [Nat.succ_add]
    unfold lexG at h ⊢
    split at h
    · rw [if_pos (by assumption)]; exact h
    · rw [if_neg (by assumption)]
      split at h
      · cases h
      · obtain ⟨p, hp, e2⟩ := Option.map_eq_some_iff.mp h
        show Option.map _ (lexG (f + k) _) = _
        rw [lexG_more f k _ _ hp, ← e2]; rfl
/-- the tokens of a piece of text, whatever comes behind it -/
noncomputable def Lx (a : List Nat) (ts : List (Nat × List Nat)) : Prop := ∀ (r : List Nat) (f : Nat) (post : List (Nat × List Nat)), lexG f (r.dropWhile isWhite) = some post → lexG (f + ts.length) ((a ++ r).dropWhile isWhite) = some (ts ++ post)
theorem Lx.nil : Lx [] [] := fun _ _ _ h => h
theorem Lx.append {a b : List Nat} {s t : List (Nat × List Nat)} (h1 : Lx a s) (h2 : Lx b t) : Lx (a ++ b) (s ++ t) := fun r f post h => by
  have := h1 (b ++ r) (f + t.length) (t ++ post) (h2 r f post h)
  rw [← List.append_assoc, ← List.append_assoc] at this
  rw [List.length_append, Nat.add_comm s.length, ← Nat.add_assoc]
  exact this
theorem Lx.sign {c : Nat} (h : isWhite c = false) (h0 : c ≠ 34 ∧ c ≠ 91 ∧ c ≠ 40) (h1 : signsN.contains c = true) : Lx [c] [(1, [c])] := fun r f post hp => by
  show lexG (f + 1) ((c :: r).dropWhile isWhite) = _
  rw [List.dropWhile_cons, if_neg (by rw [h]; exact Bool.false_ne_true)]
  have e : tokOne (c :: r) = some (1, [c], 1) := by unfold tokOne; dsimp only; rw [if_neg h0.1, if_neg h0.2.1, if_neg h0.2.2, if_pos h1]
  unfold lexG
  rw [if_neg (List.cons_ne_nil _ _), e]
  show Option.map _ (lexG f (r.dropWhile isWhite)) = _
  rw [hp]; rfl
theorem Lx.white : Lx [32] [] := fun r f post hp => by
  show lexG f ((32 :: r).dropWhile isWhite) = _
  rw [List.dropWhile_cons, if_pos (by decide)]; exact hp
/-- an atom, and a sign or a blank behind it -/
theorem atom_word {w r : List Nat} {c : Nat} {ts : List (Nat × List Nat)} {f : Nat} (hw : w.all (fun x => isAtomN x && !isWhite x && !(signsN.contains x) && x != 34 && x != 91 && x != 40) = true) (hne : w ≠ []) (hc : isAtomN c = false) (h : lexG f ((c :: r).dropWhile isWhite) = some ts) : lexG (f + 1) ((w ++ c :: r).dropWhile isWhite) = some ((0, w) :: ts) := by
  cases w with
  | nil => exact absurd rfl hne
  | cons x w =>
    have hx := List.all_eq_true.mp hw
    have h1 := hx x (.head _)
    simp only [Bool.and_eq_true, Bool.not_eq_true', bne_iff_ne, ne_eq] at h1
    have ha : ∀ y ∈ x :: w, isAtomN y = true := fun y hy => by
      have := hx y hy
      simp only [Bool.and_eq_true] at this
      exact this.1.1.1.1.1
    have et : (x :: w ++ c :: r).takeWhile isAtomN = x :: w := by
      rw [List.takeWhile_append_of_pos ha, List.takeWhile_cons, if_neg (by rw [hc]; exact Bool.false_ne_true), List.append_nil]
    rw [List.cons_append, List.dropWhile_cons, if_neg (by rw [h1.1.1.1.1.2]; exact Bool.false_ne_true)]
    have e : tokOne (x :: (w ++ c :: r)) = some (0, x :: w, (x :: w).length) := by
      unfold tokOne spanN
      dsimp only
      rw [if_neg h1.1.1.2, if_neg h1.1.2, if_neg h1.2, if_neg (by rw [h1.1.1.1.2]; exact Bool.false_ne_true), if_pos h1.1.1.1.1.1, ← List.cons_append, et]
    unfold lexG
    rw [if_neg (List.cons_ne_nil _ _), e]
    show Option.map _ (lexG f (((x :: w ++ c :: r).drop (x :: w).length).dropWhile isWhite)) = _
    rw [List.drop_left, h]; rfl
theorem Lx.atom {w : List Nat} {c : Nat} {t : List (Nat × List Nat)} (hw : w.all (fun x => isAtomN x && !isWhite x && !(signsN.contains x) && x != 34 && x != 91 && x != 40) = true) (hne : w ≠ []) (hc : isAtomN c = false) (h : Lx [c] t) : Lx (w ++ [c]) ((0, w) :: t) := fun r f post hp => by
  rw [List.append_assoc]
  exact atom_word hw hne hc (h r f post hp)

/-- the tokens of a word and its end -/
noncomputable def aheadK : List (List Tk) := [[], [(0, [77, 111, 110]), (1, [44])], [(0, [115, 117, 110]), (1, [44])], [(0, [70, 114, 105])]]
noncomputable def rowsK : List (List Tk) := [[(0, [51, 49]), (0, [68, 101, 99]), (0, [49, 57, 57, 57])], [(0, [50, 57]), (0, [70, 101, 98]), (0, [50, 48, 48, 48])], [(0, [49]), (0, [74, 117, 108]), (0, [57, 54])], [(0, [57]), (0, [74, 65, 78]), (0, [49, 48, 51])], [(0, [49, 48]), (0, [79, 99, 116]), (0, [52, 57])], [(0, [50, 56]), (0, [70, 101, 98]), (0, [50, 49, 48, 48])]]
noncomputable def clocksK : List (List Tk) := [[(0, [48, 48]), (1, [58]), (0, [48, 48])], [(0, [50, 51]), (1, [58]), (0, [53, 57]), (1, [58]), (0, [53, 57])], [(0, [49, 50]), (1, [58]), (0, [51, 48]), (1, [58]), (0, [48, 48])], [(0, [48, 48]), (1, [58]), (0, [48, 48]), (1, [58]), (0, [48, 49])], [(0, [50, 51]), (1, [58]), (0, [53, 57]), (1, [58]), (0, [54, 48])]]
theorem wb {w : List Nat} (hw : w.all (fun x => isAtomN x && !isWhite x && !(signsN.contains x) && x != 34 && x != 91 && x != 40) = true) (hne : w ≠ []) : Lx (w ++ [32]) [(0, w)] := Lx.atom hw hne (by decide) Lx.white
theorem ws {w : List Nat} {c : Nat} (hw : w.all (fun x => isAtomN x && !isWhite x && !(signsN.contains x) && x != 34 && x != 91 && x != 40) = true) (hne : w ≠ []) (hc : isAtomN c = false) (h : isWhite c = false) (h0 : c ≠ 34 ∧ c ≠ 91 ∧ c ≠ 40) (h1 : signsN.contains c = true) : Lx (w ++ [c]) [(0, w), (1, [c])] := Lx.atom hw hne hc (Lx.sign h h0 h1)
theorem ahead_lx {a : Nat} (ha : a < 4) : Lx (aheadT.getD a []) (aheadK.getD a []) := by
  match a, ha with
  | 0, _ => exact Lx.nil
  | 1, _ => exact (ws (w := [77, 111, 110]) (c := 44) (by decide) (by decide) (by decide) (by decide) (by decide) (by decide)).append Lx.white
  | 2, _ => exact ws (w := [115, 117, 110]) (c := 44) (by decide) (by decide) (by decide) (by decide) (by decide) (by decide)
  | 3, _ => exact wb (w := [70, 114, 105]) (by decide) (by decide)
theorem three {a b c : List Nat} (ha : Lx (a ++ [32]) [(0, a)]) (hb : Lx (b ++ [32]) [(0, b)]) (hc : Lx (c ++ [32]) [(0, c)]) : Lx (a ++ [32] ++ (b ++ [32]) ++ (c ++ [32])) [(0, a), (0, b), (0, c)] := (ha.append hb).append hc
theorem rows_lx {i : Nat} (hi : i < 6) : Lx (rowsT.getD i [] ++ [32]) (rowsK.getD i []) := by
  match i, hi with
  | 0, _ => exact three (a := [51, 49]) (b := [68, 101, 99]) (c := [49, 57, 57, 57]) (wb (by decide) (by decide)) (wb (by decide) (by decide)) (wb (by decide) (by decide))
  | 1, _ => exact three (a := [50, 57]) (b := [70, 101, 98]) (c := [50, 48, 48, 48]) (wb (by decide) (by decide)) (wb (by decide) (by decide)) (wb (by decide) (by decide))
  | 2, _ => exact three (a := [49]) (b := [74, 117, 108]) (c := [57, 54]) (wb (by decide) (by decide)) (wb (by decide) (by decide)) (wb (by decide) (by decide))
  | 3, _ => exact three (a := [57]) (b := [74, 65, 78]) (c := [49, 48, 51]) (wb (by decide) (by decide)) (wb (by decide) (by decide)) (wb (by decide) (by decide))
  | 4, _ => exact three (a := [49, 48]) (b := [79, 99, 116]) (c := [52, 57]) (wb (by decide) (by decide)) (wb (by decide) (by decide)) (wb (by decide) (by decide))
  | 5, _ => exact three (a := [50, 56]) (b := [70, 101, 98]) (c := [50, 49, 48, 48]) (wb (by decide) (by decide)) (wb (by decide) (by decide)) (wb (by decide) (by decide))
theorem wc {w : List Nat} (hw : w.all (fun x => isAtomN x && !isWhite x && !(signsN.contains x) && x != 34 && x != 91 && x != 40) = true) (hne : w ≠ []) : Lx (w ++ [58]) [(0, w), (1, [58])] := ws hw hne (by decide) (by decide) (by decide) (by decide)
theorem five {a b c : List Nat} (ha : Lx (a ++ [58]) [(0, a), (1, [58])]) (hb : Lx (b ++ [58]) [(0, b), (1, [58])]) (hc : Lx (c ++ [32]) [(0, c)]) : Lx (a ++ [58] ++ (b ++ [58]) ++ (c ++ [32])) [(0, a), (1, [58]), (0, b), (1, [58]), (0, c)] := (ha.append hb).append hc
theorem clocks_lx {i : Nat} (hi : i < 5) : Lx (clocksT.getD i [] ++ [32]) (clocksK.getD i []) := by
  match i, hi with
  | 0, _ => exact (wc (w := [48, 48]) (by decide) (by decide)).append (wb (w := [48, 48]) (by decide) (by decide))
  | 1, _ => exact five (a := [50, 51]) (b := [53, 57]) (c := [53, 57]) (wc (by decide) (by decide)) (wc (by decide) (by decide)) (wb (by decide) (by decide))
  | 2, _ => exact five (a := [49, 50]) (b := [51, 48]) (c := [48, 48]) (wc (by decide) (by decide)) (wc (by decide) (by decide)) (wb (by decide) (by decide))
  | 3, _ => exact five (a := [48, 48]) (b := [48, 48]) (c := [48, 49]) (wc (by decide) (by decide)) (wc (by decide) (by decide)) (wb (by decide) (by decide))
  | 4, _ => exact five (a := [50, 51]) (b := [53, 57]) (c := [54, 48]) (wc (by decide) (by decide)) (wc (by decide) (by decide)) (wb (by decide) (by decide))
/-- the zone and what stands behind it -/
noncomputable def endK (z b : Nat) : List Tk := (0, zonesT.getD z []) :: (if b = 0 then [] else [(2, [])])
theorem ends_ok : ((List.range 8).all fun z => (List.range 2).all fun b => lexG 3 ((zonesT.getD z [] ++ behindT.getD b []).dropWhile isWhite) == some (endK z b)) = true := by decide +kernel
theorem lt_all {n : Nat} {p : Nat → Bool} (h : (List.range n).all p = true) {k : Nat} (hk : k < n) : p k = true := List.all_eq_true.mp h k (List.mem_range.mpr hk)
noncomputable def textK (i a c z b : Nat) : List Tk := aheadK.getD a [] ++ (rowsK.getD i [] ++ (clocksK.getD c [] ++ endK z b))
theorem textK_len : ((List.range 6).all fun i => (List.range 4).all fun a => (List.range 5).all fun c => decide ((aheadK.getD a []).length + ((rowsK.getD i []).length + (clocksK.getD c []).length) ≤ 10)) = true := by decide +kernel
theorem text_lexG {i a b c z : Nat} (hi : i < 6) (ha : a < 4) (hb : b < 2) (hc : c < 5) (hz : z < 8) : lexG 13 ((textN i a b c z).dropWhile isWhite) = some (textK i a c z b) := by
  have h1 := eq_of_beq (lt_all (lt_all ends_ok hz) hb)
  have h2 := ahead_lx ha _ _ _ (rows_lx hi _ _ _ (clocks_lx hc _ _ _ h1))
  have hl := of_decide_eq_true (lt_all (lt_all (lt_all textK_len hi) ha) hc)
  have h3 := lexG_more _ (10 - ((aheadK.getD a []).length + ((rowsK.getD i []).length + (clocksK.getD c []).length))) _ _ h2
  have e : textN i a b c z = aheadT.getD a [] ++ (rowsT.getD i [] ++ [32] ++ (clocksT.getD c [] ++ [32] ++ (zonesT.getD z [] ++ behindT.getD b []))) := by
    unfold textN; simp only [List.append_assoc]
  rw [e]
  refine Eq.trans (congrArg (fun n => lexG n _) ?_) h3
  omega
theorem len_ok : ((List.range 6).all fun i => (List.range 5).all fun c => (List.range 8).all fun z => decide (12 ≤ (rowsT.getD i []).length + (1 + ((clocksT.getD c []).length + (1 + (zonesT.getD z []).length))))) = true := by decide +kernel
theorem heads_ok : ((List.range 6).all fun i => (List.range 4).all fun a => match aheadT.getD a [] ++ rowsT.getD i [] with | [] => false | x :: _ => !([32, 9].contains x)) = true := by decide +kernel
theorem lasts_ok : ((List.range 8).all fun z => (List.range 2).all fun b => match (zonesT.getD z [] ++ behindT.getD b []).reverse with | [] => false | x :: _ => !([32, 9].contains x)) = true := by decide +kernel
theorem strip_id {p m q : List Nat} (hp : (match p with | [] => false | x :: _ => !([32, 9].contains x)) = true) (hq : (match q.reverse with | [] => false | x :: _ => !([32, 9].contains x)) = true) : stripN (32 :: (p ++ (m ++ q))) = p ++ (m ++ q) := by
  cases p with
  | nil => exact absurd hp Bool.false_ne_true
  | cons x p =>
    cases e : q.reverse with
    | nil => rw [e] at hq; exact absurd hq Bool.false_ne_true
    | cons y q' =>
      rw [e] at hq
      have hx : ([32, 9].contains x) = false := by simpa using hp
      have hy : ([32, 9].contains y) = false := by simpa using hq
      unfold stripN
      rw [List.dropWhile_cons, if_pos (by decide), List.cons_append, List.dropWhile_cons, if_neg (by rw [hx]; exact Bool.false_ne_true), ← List.cons_append, ← List.append_assoc, List.reverse_append, e, List.cons_append, List.dropWhile_cons, if_neg (by rw [hy]; exact Bool.false_ne_true), ← List.cons_append, ← e, ← List.reverse_append, List.reverse_reverse]
theorem text_lex {i a b c z : Nat} (hi : i < 6) (ha : a < 4) (hb : b < 2) (hc : c < 5) (hz : z < 8) : lexN (stripN (32 :: textN i a b c z)) = some (textK i a c z b) := by
  have e : textN i a b c z = (aheadT.getD a [] ++ rowsT.getD i []) ++ (([32] ++ clocksT.getD c [] ++ [32]) ++ (zonesT.getD z [] ++ behindT.getD b [])) := by
    unfold textN; simp only [List.append_assoc]
  have s : stripN (32 :: textN i a b c z) = textN i a b c z := by
    rw [e]
    exact strip_id (lt_all (lt_all heads_ok hi) ha) (lt_all (lt_all lasts_ok hz) hb)
  have hl : 12 ≤ (textN i a b c z).length := by
    have := of_decide_eq_true (lt_all (lt_all (lt_all len_ok hi) hc) hz)
    rw [e]
    simp only [List.length_append, List.length_singleton]
    omega
  rw [s]
  have h := lexG_more 13 ((textN i a b c z).length - 12) _ _ (text_lexG hi ha hb hc hz)
  refine Eq.trans (congrArg (fun n => lexG n _) ?_) h
  omega
theorem strL_beq (x y : List Nat) : (strL x == strL y) = (x == y) := by
  rw [Bool.eq_iff_iff, beq_iff_eq, beq_iff_eq]
  unfold strL
  exact ⟨fun h => by injection h with h; injection h, fun h => by rw [h]⟩
theorem lowerS_strL (a : List Nat) : lowerS (strL a) = strL (a.map lowerN) := by unfold lowerS strL; simp
noncomputable def daysK : List (List Nat) := [[109, 111, 110], [116, 117, 101], [119, 101, 100], [116, 104, 117], [102, 114, 105], [115, 97, 116], [115, 117, 110]]
noncomputable def monthsK : List (List Nat) := [[106, 97, 110], [102, 101, 98], [109, 97, 114], [97, 112, 114], [109, 97, 121], [106, 117, 110], [106, 117, 108], [97, 117, 103], [115, 101, 112], [111, 99, 116], [110, 111, 118], [100, 101, 99]]
theorem daysK_eq : daysL = daysK.map strL := by decide +kernel
theorem monthsK_eq : monthsL = monthsK.map strL := by decide +kernel
noncomputable def isDayK (a : List Nat) : Bool := daysK.any (· == a)
noncomputable def monthK (a : List Nat) : Int := if monthsK.any (· == a) = true then ((monthsK.findIdx (· == a) : Nat) : Int) + 1 else 0
theorem isDayK_eq (a : List Nat) : isDayN (strL a) = isDayK (a.map lowerN) := by
  unfold isDayN isDayK
  rw [lowerS_strL, daysK_eq, List.any_map]
  exact congrArg (List.any daysK) (funext fun x => strL_beq x _)
theorem monthK_eq (a : List Nat) : monthN (strL a) = monthK (a.map lowerN) := by
  unfold monthN monthK
  rw [lowerS_strL, monthsK_eq, List.any_map, List.findIdx_map]
  have e : ((fun x => x == strL (a.map lowerN)) ∘ strL) = (· == a.map lowerN) := funext fun x => strL_beq x _
  rw [e]
noncomputable def dayK (toks : List Tk) : Nat := if isDayK ((atomS toks 0).map lowerN) then (if skipN toks 1 44 then 2 else 1) else 0
theorem dayK_eq (toks : List Tk) : dayAt toks = dayK toks := by unfold dayAt dayK; rw [isDayK_eq]
noncomputable def dateK (toks : List Tk) : Option (Int × Int × Int) :=
  (numN toks (dayK toks) 1 2).bind fun d => if monthK ((atomS toks (dayK toks + 1)).map lowerN) ≤ 0 then none else (numN toks (dayK toks + 2) 2 4).bind fun y =>
    if isDayI (fullYear y.1 y.2) (monthK ((atomS toks (dayK toks + 1)).map lowerN)) d.1 = false then none else
    (clockAt toks (dayK toks + 3)).bind fun c => if isTimeI c.1 c.2.1 c.2.2.1 = false then none else if zoneOk (atomS toks c.2.2.2) = false then none else
      if c.2.2.2 + 1 < toks.length then none else some (fullYear y.1 y.2, monthK ((atomS toks (dayK toks + 1)).map lowerN), (d.1 : Int))
theorem dateK_eq (toks : List Tk) : dateAt toks = dateK toks := by unfold dateAt dateK; simp only [dayK_eq, monthK_eq]
theorem noComm_textK {i a c z b : Nat} (hb : b < 2) : noComm (textK i a c z b) = noComm (textK i a c z 0) := by
  have e : noComm (endK z b) = noComm (endK z 0) := by
    match b, hb with
    | 0, _ => rfl
    | 1, _ => rfl
  unfold noComm at e ⊢
  unfold textK
  simp only [List.filter_append]
  rw [e]
theorem days_ok : ((List.range 6).all fun i => (List.range 4).all fun a => (List.range 5).all fun c => (List.range 8).all fun z => dateK (noComm (textK i a c z 0)) == some (dayN i)) = true := by decide +kernel
theorem text_date {i a b c z : Nat} (hi : i < 6) (ha : a < 4) (hb : b < 2) (hc : c < 5) (hz : z < 8) : bodyDate (textN i a b c z) = some (dayN i) := by
  unfold bodyDate
  rw [text_lex hi ha hb hc hz, Option.bind_some, noComm_textK hb, dateK_eq]
  exact eq_of_beq (lt_all (lt_all (lt_all (lt_all days_ok hi) ha) hc) hz)
theorem bads_ok : ((List.range 6).all fun k => (lexN (stripN (32 :: badT.getD k []))).isSome && bodyDate (badT.getD k []) == none) = true := by decide +kernel
noncomputable def plainC (c : Nat) : Bool := decide (32 ≤ c ∧ c < 127 ∧ c ≠ 34 ∧ c ≠ 91 ∧ c ≠ 92)
theorem plain_of {l : List Nat} (h : l.all plainC = true) : Plain l := fun c hc => of_decide_eq_true (List.all_eq_true.mp h c hc)
theorem menu_plain {M : List (List Nat)} (h : M.all (fun l => l.all plainC) = true) (r : Nat) : Plain (M.getD r []) := by
  rw [List.getD_eq_getElem?_getD]
  cases e : M[r]? with
  | none => exact fun c hc => nomatch hc
  | some l => exact plain_of (List.all_eq_true.mp h l (List.mem_of_getElem? e))
theorem textN_plain (i a b c z : Nat) : Plain (32 :: textN i a b c z) := by
  intro x hx
  rcases List.mem_cons.mp hx with rfl | hx
  · decide
  unfold textN at hx
  simp only [List.mem_append, List.mem_singleton] at hx
  rcases hx with (((((h | h) | h) | h) | h) | h) | h
  · exact menu_plain (M := aheadT) (by decide) a x h
  · exact menu_plain (M := rowsT) (by decide) i x h
  · rw [h]; decide
  · exact menu_plain (M := clocksT) (by decide) c x h
  · rw [h]; decide
  · exact menu_plain (M := zonesT) (by decide) z x h
  · exact menu_plain (M := behindT) (by decide) b x h
theorem bad_plain (k : Nat) : Plain (32 :: badT.getD k []) := by
  intro x hx
  rcases List.mem_cons.mp hx with rfl | hx
  · decide
  · exact menu_plain (M := badT) (by decide) k x hx
theorem nat_bytesOf {l : List Nat} (h : Plain l) : nat (bytesOf l) = l := by
  unfold nat bytesOf
  rw [List.map_map]
  conv => rhs; rw [← List.map_id l]
  refine List.map_congr_left fun c hc => ?_
  have := (h c hc).2.1
  show c.toUInt8.toNat = c
  rw [Nat.toUInt8, UInt8.toNat_ofNat']
  omega
theorem strip_mem {l : List Nat} : ∀ c ∈ stripN l, c ∈ l := fun c hc => by
  unfold stripN at hc
  have h1 := List.mem_reverse.mp hc
  have h2 := List.mem_reverse.mp ((List.dropWhile_sublist _).subset h1)
  exact (List.dropWhile_sublist _).subset h2
theorem body_facts {l : List Nat} (hp : Plain (32 :: l)) (hz : l.length ≤ 900) : Plain (nat (stripB (bytesOf (32 :: l)))) ∧ (stripB (bytesOf (32 :: l))).length ≤ 1000 ∧ nat (stripB (bytesOf (32 :: l))) = stripN (32 :: l) := by
  have e : nat (stripB (bytesOf (32 :: l))) = stripN (32 :: l) := by rw [nat_strip, nat_bytesOf hp]
  refine ⟨by rw [e]; exact fun c hc => hp c (strip_mem c hc), ?_, e⟩
  refine Nat.le_trans (stripB_le _) ?_
  unfold bytesOf
  rw [List.length_map, List.length_cons]; omega
theorem good_text {i a b c z : Nat} (hi : i < 6) (ha : a < 4) (hb : b < 2) (hc : c < 5) (hz : z < 8) : ∃ toks, lexN (nat (stripB (bytesOf (32 :: textN i a b c z)))) = some toks ∧ dateAt (noComm toks) = some (dayN i) := by
  have h := text_date hi ha hb hc hz
  have l := textN_len i a b c z
  rw [(body_facts (textN_plain i a b c z) (by omega)).2.2]
  unfold bodyDate at h
  cases e : lexN (stripN (32 :: textN i a b c z)) with
  | none => rw [e] at h; cases h
  | some toks => rw [e] at h; exact ⟨toks, rfl, h⟩
theorem bad_text {k : Nat} (hk : k < 6) : ∃ toks, lexN (nat (stripB (bytesOf (32 :: badT.getD k [])))) = some toks ∧ dateAt (noComm toks) = none := by
  have h := all_lt bads_ok hk
  rw [Bool.and_eq_true] at h
  have l := menu_len (M := badT) (by decide) k
  rw [(body_facts (bad_plain k) (by omega)).2.2]
  have h2 := eq_of_beq h.2
  unfold bodyDate at h2
  cases e : lexN (stripN (32 :: badT.getD k [])) with
  | none => rw [e] at h; cases h.1
  | some toks => rw [e] at h2; exact ⟨toks, rfl, h2⟩
theorem no_ten {l : List Nat} (hp : Plain l) : (nat (bytesOf l)).contains 10 = false := by
  rw [nat_bytesOf hp]
  cases h : l.contains 10 with
  | false => rfl
  | true => have := hp 10 (List.contains_iff_mem.mp h); omega
theorem fok_bytes {nm : List UInt8} {l : List Nat} (h1 : nm.length ≤ 1000) (hp : Plain (32 :: l)) (hz : l.length ≤ 900) : FOk (nm, bytesOf (32 :: l)) := ⟨h1, by show (bytesOf (32 :: l)).length ≤ 1000; unfold bytesOf; rw [List.length_map, List.length_cons]; omega, no_ten hp⟩
theorem subj_ok : FOk subjF := ⟨by decide, by decide, by decide +kernel⟩
theorem subj_no : isDateF subjF = false := by decide +kernel
theorem names_len (r : Nat) : (namesB.getD r []).length ≤ 1000 := by
  rw [List.getD_eq_getElem?_getD]
  match r with
  | 0 => decide
  | 1 => decide
  | 2 => decide
  | _ + 3 => exact Nat.zero_le _
theorem names_date {r : Nat} (hr : r < 3) (d : List UInt8) : isDateF (namesB.getD r [], d) = true := by
  match r, hr with
  | 0, _ => exact isDate_yes (by decide +kernel)
  | 1, _ => exact isDate_yes (by decide +kernel)
  | 2, _ => exact isDate_yes (by decide +kernel)
theorem name_date (d : List UInt8) : isDateF (nameDate, d) = true := isDate_yes (by decide +kernel)
theorem res_no (d : List UInt8) : isDateF (nameRes, d) = false := isDate_no (by decide +kernel)
theorem fs_some {fs : List (List UInt8 × List UInt8)} {d : List UInt8} {o : Option D3} (hok : ∀ f ∈ fs, FOk f) (hf : firstB fs = some d) (h1 : Plain (nat d)) (h2 : d.length ≤ 1000) (h3 : ∃ toks, lexN (nat d) = some toks ∧ dateAt (noComm toks) = o) : FsOk fs o := by
  obtain ⟨toks, h3, h4⟩ := h3
  refine ⟨hok, fun d' e => ?_, by unfold dateOf; rw [hf, Option.bind_some, h3, Option.bind_some, h4]⟩
  rw [hf] at e; cases e; exact ⟨h1, h2, toks, h3⟩
theorem fs_none {fs : List (List UInt8 × List UInt8)} (hok : ∀ f ∈ fs, FOk f) (hf : firstB fs = none) : FsOk fs none :=
  ⟨hok, fun d' e => (by rw [hf] at e; cases e), by unfold dateOf; rw [hf]; rfl⟩
section
variable {i a b c z r k i2 a2 b2 c2 z2 : Nat}
theorem fs_0 (hr : r < 3) (hi : i < 6) (ha : a < 4) (hb : b < 2) (hc : c < 5) (hz : z < 8) : FsOk [subjF, (namesB.getD r [], bytesOf (32 :: textN i a b c z))] (some (dayN i)) := by
  have l := textN_len i a b c z
  have B := body_facts (textN_plain i a b c z) (by omega)
  refine fs_some (fun f hf => ?_) (d := stripB (bytesOf (32 :: textN i a b c z))) ?_ B.1 B.2.1 (good_text hi ha hb hc hz)
  · rcases List.mem_cons.mp hf with rfl | hf
    · exact subj_ok
    · rw [List.mem_singleton.mp hf]; exact fok_bytes (names_len r) (textN_plain _ _ _ _ _) (by omega)
  · unfold firstB
    rw [List.find?_cons_of_neg (by rw [subj_no]; exact Bool.false_ne_true), List.find?_cons_of_pos (names_date hr _)]; rfl
theorem fs_1 (hr : r < 3) (hi : i < 6) (ha : a < 4) (hb : b < 2) (hc : c < 5) (hz : z < 8) : FsOk [subjF, (namesB.getD r [], bytesOf (32 :: textN i a b c z)), (nameDate, bytesOf (32 :: textN i2 a2 b2 c2 z2))] (some (dayN i)) := by
  have l := textN_len i a b c z
  have l2 := textN_len i2 a2 b2 c2 z2
  have B := body_facts (textN_plain i a b c z) (by omega)
  refine fs_some (fun f hf => ?_) (d := stripB (bytesOf (32 :: textN i a b c z))) ?_ B.1 B.2.1 (good_text hi ha hb hc hz)
  · rcases List.mem_cons.mp hf with rfl | hf
    · exact subj_ok
    rcases List.mem_cons.mp hf with rfl | hf
    · exact fok_bytes (names_len r) (textN_plain _ _ _ _ _) (by omega)
    · rw [List.mem_singleton.mp hf]; exact fok_bytes (by decide) (textN_plain _ _ _ _ _) (by omega)
  · unfold firstB
    rw [List.find?_cons_of_neg (by rw [subj_no]; exact Bool.false_ne_true), List.find?_cons_of_pos (names_date hr _)]; rfl
theorem fs_2 (hk : k < 6) : FsOk [(nameDate, bytesOf (32 :: badT.getD k [])), subjF, (namesB.getD r [], bytesOf (32 :: textN i a b c z))] none := by
  have l := textN_len i a b c z
  have l2 := menu_len (M := badT) (by decide) k
  have B := body_facts (bad_plain k) (by omega)
  refine fs_some (fun f hf => ?_) (d := stripB (bytesOf (32 :: badT.getD k []))) ?_ B.1 B.2.1 (bad_text hk)
  · rcases List.mem_cons.mp hf with rfl | hf
    · exact fok_bytes (by decide) (bad_plain k) (by omega)
    rcases List.mem_cons.mp hf with rfl | hf
    · exact subj_ok
    · rw [List.mem_singleton.mp hf]; exact fok_bytes (names_len r) (textN_plain _ _ _ _ _) (by omega)
  · unfold firstB
    rw [List.find?_cons_of_pos (name_date _)]; rfl
theorem fs_3 : FsOk [subjF, (nameRes, bytesOf (32 :: textN i a b c z))] none := by
  have l := textN_len i a b c z
  refine fs_none (fun f hf => ?_) ?_
  · rcases List.mem_cons.mp hf with rfl | hf
    · exact subj_ok
    · rw [List.mem_singleton.mp hf]; exact fok_bytes (by decide) (textN_plain _ _ _ _ _) (by omega)
  · unfold firstB
    rw [List.find?_cons_of_neg (by rw [subj_no]; exact Bool.false_ne_true), List.find?_cons_of_neg (by rw [res_no]; exact Bool.false_ne_true)]; rfl
end

-- piece 75_join
theorem walk_75_join : twoK PySem.Challenge.rw_nz0311_01 MineH.hd.heap_1_39 := by k_fill; w_top off; trivial
/-- the end of the law's choice of fields -/
noncomputable def JoinF (w : World) (h₀ : Heap) (L : Addr) (s : Shared) (i r : Nat) (t : Tok) (fl : Flow) (s' : Shared) : Prop :=
  fl = .next ∧ ∃ (hh : Heap) (tk : Nat) (m' : PySem.Str → Option Value) (fa : Addr) (news' : List (Addr × Obj)) (fs : List (List UInt8 × List UInt8)) (ys : List Value) (n0 : Nat), s' = { s with heap := hh, toks := tk } ∧ Fr h₀ L hh m' ∧ m' (Str.ofString "row") = some (.ref (395 + 4 * i)) ∧ m' (Str.ofString "way") = some (.int (r : Nat) t) ∧ m' (Str.ofString "fields") = some (.ref fa) ∧
    News h₀ L hh news' ∧ (fa, PySem.W.listOf ys.toArray n0) ∈ news' ∧ All2 (Fld w news') fs ys ∧ FsOk fs (if r < 2 then some (dayN i) else none)
theorem law_join {prog : Program} {w : World} {A : Around} {E : Value → Shared → Prop} {s : Shared} {st : Stmt} {env : Env} {Q : Flow → Shared → Prop} {h₀ : Heap} {L : Addr} {m : PySem.Str → Option Value} {i r : Nat} {t : Tok} (_F : Fr h₀ L s.heap m)
    (_h1 : m (Str.ofString "row") = some (.ref (395 + 4 * i))) (_h2 : m (Str.ofString "way") = some (.int (r : Nat) t))
    (h1 : wpAny (model prog w) A (exec st env) (JoinF w h₀ L s i r t) E s)
    (h2 : ∀ (hh : Heap) (tk : Nat) (m' : PySem.Str → Option Value) (fa : Addr) (news' : List (Addr × Obj)) (fs : List (List UInt8 × List UInt8)) (ys : List Value) (n0 : Nat), Fr h₀ L hh m' → m' (Str.ofString "row") = some (.ref (395 + 4 * i)) → m' (Str.ofString "way") = some (.int (r : Nat) t) → m' (Str.ofString "fields") = some (.ref fa) →
      News h₀ L hh news' → (fa, PySem.W.listOf ys.toArray n0) ∈ news' → All2 (Fld w news') fs ys → FsOk fs (if r < 2 then some (dayN i) else none) → Q .next { s with heap := hh, toks := tk }) : wpAny (model prog w) A (exec st env) Q E s :=
  wpAny_mono h1 (fun fl s' h => by obtain ⟨rfl, hh, tk, m', fa, news', fs, ys, n0, rfl, F, a1, a2, a3, N, a4, a5, a6⟩ := h; exact h2 hh tk m' fa news' fs ys n0 F a1 a2 a3 N a4 a5 a6) fun _ _ e => e
theorem fld_mk {w : World} {news : List (Addr × Obj)} {f : List UInt8 × List UInt8} {I D : Addr} {ta tb tc td : Tok} (hI : (I, instObj 338 D) ∈ news) (hD : (D, fdD w f.1 f.2 ta tb tc td) ∈ news) : Fld w news f (.ref I) := ⟨I, D, ta, tb, tc, td, rfl, hI, hD⟩
theorem join_mk {w : World} {h₀ hh : Heap} {L fa : Addr} {s : Shared} {i r tk n0 : Nat} {t : Tok} {m' : PySem.Str → Option Value} {news' : List (Addr × Obj)} {fs : List (List UInt8 × List UInt8)} {ys : List Value} {o : Option D3} (F : Fr h₀ L hh m') (hr : m' (Str.ofString "row") = some (.ref (395 + 4 * i))) (hw : m' (Str.ofString "way") = some (.int (r : Nat) t)) (hf : m' (Str.ofString "fields") = some (.ref fa))
    (N : News h₀ L hh news') (hl : (fa, PySem.W.listOf ys.toArray n0) ∈ news') (ha : All2 (Fld w news') fs ys) (ho : (if r < 2 then some (dayN i) else none) = o) (ok : FsOk fs o) : JoinF w h₀ L s i r t .next { s with heap := hh, toks := tk } := by
  subst ho
  exact ⟨rfl, hh, tk, m', fa, news', fs, ys, n0, rfl, F, hr, hw, hf, N, hl, ha, ok⟩
theorem w0_join {w : World} {h₀ hh : Heap} {L P S Dm l1 x1 x2 d1 d2 : Addr} {s : Shared} {i r tk r9 aa bb cc zz na : Nat} {t k0 k1 k2 k3 k4 k5 k6 k7 : Tok} {m' : PySem.Str → Option Value} {a b c : Int} {ta tb tc : Tok} {c0 c1 : Nat} {ws : List Value} {om : Obj} {rest : List (Addr × Obj)} (N : News h₀ L hh ((l1, PySem.W.listOf #[Value.ref x2, Value.ref x1] na) :: (x1, instObj 338 d1) :: (d1, fdD w (namesB.getD r9 []) (bytesOf (32 :: textN i aa bb cc zz)) k0 k1 k2 k3) :: PN P S ws a b c ta tb tc c0 c1 ((Dm, om) :: (x2, instObj 338 d2) :: (d2, fdD w [83, 117, 98, 106, 101, 99, 116] [32, 49, 32, 74, 117, 108, 32, 49, 57, 57, 54, 32, 49, 48, 58, 48, 48, 32, 43, 48, 48, 48, 48] k4 k5 k6 k7) :: rest))) (F : Fr h₀ L hh m') (hr : m' (Str.ofString "row") = some (.ref (395 + 4 * i))) (hw : m' (Str.ofString "way") = some (.int (r : Nat) t)) (hf : m' (Str.ofString "fields") = some (.ref l1)) (h1 : (r9 : Int) < 3) (h2 : i < 6) (h3 : aa < 4) (h4 : bb < 2) (h5 : cc < 5) (h6 : zz < 8) (hw0 : r < 2) : JoinF w h₀ L s i r t .next { s with heap := hh, toks := tk } := by
  refine' join_mk (fs := [subjF, (namesB.getD r9 [], bytesOf (32 :: textN i aa bb cc zz))]) F hr hw hf N ?hl (.cons (fld_mk ?I0 ?D0) (.cons (fld_mk ?I1 ?D1) .nil)) ?ho ?ok
  case hl => (repeat (first | exact List.mem_cons_self .. | refine List.mem_cons_of_mem _ ?_))
  case ho => exact if_pos hw0
  case ok => exact fs_0 (by omega) h2 h3 h4 h5 h6
  case I0 => (repeat (first | exact List.mem_cons_self .. | refine List.mem_cons_of_mem _ ?_))
  case D0 => (repeat (first | exact List.mem_cons_self .. | refine List.mem_cons_of_mem _ ?_))
  case I1 => (repeat (first | exact List.mem_cons_self .. | refine List.mem_cons_of_mem _ ?_))
  case D1 => (repeat (first | exact List.mem_cons_self .. | refine List.mem_cons_of_mem _ ?_))
theorem w1_join {w : World} {h₀ hh : Heap} {L P S Dm D l l1 x0 x1 x2 d0 d1 d2 T : Addr} {s : Shared} {i r tk r9 aa bb cc zz i2 aa2 bb2 cc2 zz2 na : Nat} {t k0 k1 k2 k3 k4 k5 k6 k7 k8 k9 k10 k11 : Tok} {m' : PySem.Str → Option Value} {a b c : Int} {ta tb tc : Tok} {c0 c1 : Nat} {ws : List Value} {om oT ol ol1 : Obj} {rest : List (Addr × Obj)} (N : News h₀ L hh ((D, PySem.W.listOf #[Value.ref x2, Value.ref x1, Value.ref x0] na) :: (l, ol) :: (x0, instObj 338 d0) :: (d0, fdD w [68, 97, 116, 101] (bytesOf (32 :: textN i2 aa2 bb2 cc2 zz2)) k8 k9 k10 k11) :: (T, oT) :: PN P S ws a b c ta tb tc c0 c1 ((l1, ol1) :: (x1, instObj 338 d1) :: (d1, fdD w (namesB.getD r9 []) (bytesOf (32 :: textN i aa bb cc zz)) k0 k1 k2 k3) :: (Dm, om) :: (x2, instObj 338 d2) :: (d2, fdD w [83, 117, 98, 106, 101, 99, 116] [32, 49, 32, 74, 117, 108, 32, 49, 57, 57, 54, 32, 49, 48, 58, 48, 48, 32, 43, 48, 48, 48, 48] k4 k5 k6 k7) :: rest))) (F : Fr h₀ L hh m') (hr : m' (Str.ofString "row") = some (.ref (395 + 4 * i))) (hw : m' (Str.ofString "way") = some (.int (r : Nat) t)) (hf : m' (Str.ofString "fields") = some (.ref D)) (h1 : (r9 : Int) < 3) (h2 : i < 6) (h3 : aa < 4) (h4 : bb < 2) (h5 : cc < 5) (h6 : zz < 8) (hw0 : r < 2) : JoinF w h₀ L s i r t .next { s with heap := hh, toks := tk } := by
  refine' join_mk (fs := [subjF, (namesB.getD r9 [], bytesOf (32 :: textN i aa bb cc zz)), (nameDate, bytesOf (32 :: textN i2 aa2 bb2 cc2 zz2))]) F hr hw hf N ?hl (.cons (fld_mk ?I0 ?D0) (.cons (fld_mk ?I1 ?D1) (.cons (fld_mk ?I2 ?D2) .nil))) ?ho ?ok
  case hl => (repeat (first | exact List.mem_cons_self .. | refine List.mem_cons_of_mem _ ?_))
  case ho => exact if_pos hw0
  case ok => exact fs_1 (by omega) h2 h3 h4 h5 h6
  case I0 => (repeat (first | exact List.mem_cons_self .. | refine List.mem_cons_of_mem _ ?_))
  case D0 => (repeat (first | exact List.mem_cons_self .. | refine List.mem_cons_of_mem _ ?_))
  case I1 => (repeat (first | exact List.mem_cons_self .. | refine List.mem_cons_of_mem _ ?_))
  case D1 => (repeat (first | exact List.mem_cons_self .. | refine List.mem_cons_of_mem _ ?_))
  case I2 => (repeat (first | exact List.mem_cons_self .. | refine List.mem_cons_of_mem _ ?_))
  case D2 => (repeat (first | exact List.mem_cons_self .. | refine List.mem_cons_of_mem _ ?_))
theorem w2_join {w : World} {h₀ hh : Heap} {L P S Dm D l l1 x0 x1 x2 d0 d1 d2 : Addr} {s : Shared} {i r tk r9 aa bb cc zz kb na : Nat} {t k0 k1 k2 k3 k4 k5 k6 k7 k8 k9 k10 k11 : Tok} {m' : PySem.Str → Option Value} {a b c : Int} {ta tb tc : Tok} {c0 c1 : Nat} {ws : List Value} {om ol ol1 : Obj} {rest : List (Addr × Obj)} (N : News h₀ L hh ((D, PySem.W.listOf #[Value.ref x0, Value.ref x2, Value.ref x1] na) :: (l, ol) :: (x0, instObj 338 d0) :: (d0, fdD w [68, 97, 116, 101] (bytesOf (32 :: badT.getD kb [])) k8 k9 k10 k11) :: PN P S ws a b c ta tb tc c0 c1 ((l1, ol1) :: (x1, instObj 338 d1) :: (d1, fdD w (namesB.getD r9 []) (bytesOf (32 :: textN i aa bb cc zz)) k0 k1 k2 k3) :: (Dm, om) :: (x2, instObj 338 d2) :: (d2, fdD w [83, 117, 98, 106, 101, 99, 116] [32, 49, 32, 74, 117, 108, 32, 49, 57, 57, 54, 32, 49, 48, 58, 48, 48, 32, 43, 48, 48, 48, 48] k4 k5 k6 k7) :: rest))) (F : Fr h₀ L hh m') (hr : m' (Str.ofString "row") = some (.ref (395 + 4 * i))) (hw : m' (Str.ofString "way") = some (.int (r : Nat) t)) (hf : m' (Str.ofString "fields") = some (.ref D)) (hk : (kb : Int) < 6) (hw0 : ¬ r < 2) : JoinF w h₀ L s i r t .next { s with heap := hh, toks := tk } := by
  refine' join_mk (fs := [(nameDate, bytesOf (32 :: badT.getD kb [])), subjF, (namesB.getD r9 [], bytesOf (32 :: textN i aa bb cc zz))]) F hr hw hf N ?hl (.cons (fld_mk ?I0 ?D0) (.cons (fld_mk ?I1 ?D1) (.cons (fld_mk ?I2 ?D2) .nil))) ?ho ?ok
  case hl => (repeat (first | exact List.mem_cons_self .. | refine List.mem_cons_of_mem _ ?_))
  case ho => exact if_neg hw0
  case ok => exact fs_2 (by omega)
  case I0 => (repeat (first | exact List.mem_cons_self .. | refine List.mem_cons_of_mem _ ?_))
  case D0 => (repeat (first | exact List.mem_cons_self .. | refine List.mem_cons_of_mem _ ?_))
  case I1 => (repeat (first | exact List.mem_cons_self .. | refine List.mem_cons_of_mem _ ?_))
  case D1 => (repeat (first | exact List.mem_cons_self .. | refine List.mem_cons_of_mem _ ?_))
  case I2 => (repeat (first | exact List.mem_cons_self .. | refine List.mem_cons_of_mem _ ?_))
  case D2 => (repeat (first | exact List.mem_cons_self .. | refine List.mem_cons_of_mem _ ?_))
theorem w3_join {w : World} {h₀ hh : Heap} {L P S Dm D l1 x0 x1 x2 d0 d1 d2 : Addr} {s : Shared} {i r tk r9 aa bb cc zz na : Nat} {t k0 k1 k2 k3 k4 k5 k6 k7 k8 k9 k10 k11 : Tok} {m' : PySem.Str → Option Value} {a b c : Int} {ta tb tc : Tok} {c0 c1 : Nat} {ws : List Value} {om ol1 : Obj} {rest : List (Addr × Obj)} (N : News h₀ L hh ((D, PySem.W.listOf #[Value.ref x2, Value.ref x0] na) :: (x0, instObj 338 d0) :: (d0, fdD w [82, 101, 115, 101, 110, 116, 45, 68, 97, 116, 101] (bytesOf (32 :: textN i aa bb cc zz)) k8 k9 k10 k11) :: (l1, ol1) :: (x1, instObj 338 d1) :: (d1, fdD w (namesB.getD r9 []) (bytesOf (32 :: textN i aa bb cc zz)) k0 k1 k2 k3) :: PN P S ws a b c ta tb tc c0 c1 ((Dm, om) :: (x2, instObj 338 d2) :: (d2, fdD w [83, 117, 98, 106, 101, 99, 116] [32, 49, 32, 74, 117, 108, 32, 49, 57, 57, 54, 32, 49, 48, 58, 48, 48, 32, 43, 48, 48, 48, 48] k4 k5 k6 k7) :: rest))) (F : Fr h₀ L hh m') (hr : m' (Str.ofString "row") = some (.ref (395 + 4 * i))) (hw : m' (Str.ofString "way") = some (.int (r : Nat) t)) (hf : m' (Str.ofString "fields") = some (.ref D)) (hw0 : ¬ r < 2) : JoinF w h₀ L s i r t .next { s with heap := hh, toks := tk } := by
  refine' join_mk (fs := [subjF, (nameRes, bytesOf (32 :: textN i aa bb cc zz))]) F hr hw hf N ?hl (.cons (fld_mk ?I0 ?D0) (.cons (fld_mk ?I1 ?D1) .nil)) ?ho ?ok
  case hl => (repeat (first | exact List.mem_cons_self .. | refine List.mem_cons_of_mem _ ?_))
  case ho => exact if_neg hw0
  case ok => exact fs_3
  case I0 => (repeat (first | exact List.mem_cons_self .. | refine List.mem_cons_of_mem _ ?_))
  case D0 => (repeat (first | exact List.mem_cons_self .. | refine List.mem_cons_of_mem _ ?_))
  case I1 => (repeat (first | exact List.mem_cons_self .. | refine List.mem_cons_of_mem _ ?_))
  case D1 => (repeat (first | exact List.mem_cons_self .. | refine List.mem_cons_of_mem _ ?_))

-- piece 76_tail
theorem walk_76_tail : twoK PySem.Challenge.rw_nz0311_01 MineH.hd.heap_1_39 := by k_fill; w_top off; trivial
theorem SpecZ.use {w : World} {k : Nat} {f : Addr} {vs : List Value} {news : List (Addr × Obj)} {R : Value → List (Addr × Obj) → Prop} (C : SpecZ w k f vs news R)
    {mean : ExcName → Option Value} {mg mb : PySem.Str → Option Value} {dp un : Nat} {gd : Option (List Code)} {cn : PySem.Str} {cs : Scope} {a : Addr} {ccd : Value}
    {A₀ : Around} {h₀ : Heap} {L : Addr} {m : PySem.Str → Option Value} {s : Shared} {Q E : Value → Shared → Prop}
    (B : Below A₀ h₀ [] h₀) (F : Fr h₀ L s.heap m) (X : (MineH.hd.heap_1_39 w.params).In h₀) (N : News h₀ L s.heap news) (T : Top MineH.hd.view_1_40 (looseW MineH.hd.view_1_40 [Str.ofString "PostError"]) mean mg mb h₀) (hk : cs.kind = .function)
    (hd : dp + k < recursionLimit) (hu : un + 8 * k < cLine)
    (ret : ∀ v news' h' tk', Fr h₀ L h' m → News h₀ L h' news' → R v news' → Q v { s with heap := h', toks := tk' }) :
    wpAny (PySem.model PySem.Challenge.rw_nz0311_01.row.prog w) (ktrTop dp un gd cn cs L a ccd [] []) (call (.ref f) vs) Q E s :=
  C _ _ _ _ _ _ _ _ _ _ _ _ _ _ _ _ _ B F X N T hk hd hu ret
section
variable {w : World} {i r : Nat}
theorem dayAt_N (hi : i < 6) : DayAt w (392 + 4 * i) (dayN i) := by
  match i, hi with
  | 0, _ => exact fun h X => ⟨_, _, _, X 392 _ rfl⟩
  | 1, _ => exact fun h X => ⟨_, _, _, X 396 _ rfl⟩
  | 2, _ => exact fun h X => ⟨_, _, _, X 400 _ rfl⟩
  | 3, _ => exact fun h X => ⟨_, _, _, X 404 _ rfl⟩
  | 4, _ => exact fun h X => ⟨_, _, _, X 408 _ rfl⟩
  | 5, _ => exact fun h X => ⟨_, _, _, X 412 _ rfl⟩
theorem dayAt_B (hi : i < 6) : DayAt w (393 + 4 * i) (dayB i) := by
  match i, hi with
  | 0, _ => exact fun h X => ⟨_, _, _, X 393 _ rfl⟩
  | 1, _ => exact fun h X => ⟨_, _, _, X 397 _ rfl⟩
  | 2, _ => exact fun h X => ⟨_, _, _, X 401 _ rfl⟩
  | 3, _ => exact fun h X => ⟨_, _, _, X 405 _ rfl⟩
  | 4, _ => exact fun h X => ⟨_, _, _, X 409 _ rfl⟩
  | 5, _ => exact fun h X => ⟨_, _, _, X 413 _ rfl⟩
theorem dayAt_A (hi : i < 6) : DayAt w (394 + 4 * i) (dayA i) := by
  match i, hi with
  | 0, _ => exact fun h X => ⟨_, _, _, X 394 _ rfl⟩
  | 1, _ => exact fun h X => ⟨_, _, _, X 398 _ rfl⟩
  | 2, _ => exact fun h X => ⟨_, _, _, X 402 _ rfl⟩
  | 3, _ => exact fun h X => ⟨_, _, _, X 406 _ rfl⟩
  | 4, _ => exact fun h X => ⟨_, _, _, X 410 _ rfl⟩
  | 5, _ => exact fun h X => ⟨_, _, _, X 414 _ rfl⟩
theorem all2_sub {fs : List (List UInt8 × List UInt8)} {ys : List Value} {news0 news : List (Addr × Obj)} (h : All2 (Fld w news0) fs ys) (hsub : ∀ p ∈ news0, p ∈ news) : All2 (Fld w news) fs ys :=
  h.imp fun f v x => by
    obtain ⟨I, D, ta, tb, tc, td, e, h1, h2⟩ := x
    exact ⟨I, D, ta, tb, tc, td, e, hsub _ h1, hsub _ h2⟩
theorem way_lt : decide ((r : Int) < 2) = decide (r < 2) := decide_eq_decide.mpr (by omega)
end
theorem op_0 {i : Nat} (hi : i < 6) : dLt (dayN i) (dayA i) = true := by
  match i, hi with
  | 0, _ => decide
  | 1, _ => decide
  | 2, _ => decide
  | 3, _ => decide
  | 4, _ => decide
  | 5, _ => decide
theorem c_l0 {w : World} {i r : Nat} (LF l : Addr) (t : Tok) (fs : List (List UInt8 × List UInt8)) (ys : List Value) (n0 : Nat) (news0 news : List (Addr × Obj)) (hLF : (LF, ({ cls := .type "tuple", data := .seq #[.str (Str.ofString "sentbefore") t, .ref (394 + 4 * i)] } : Obj)) ∈ news) (hl : (l, PySem.W.listOf ys.toArray n0) ∈ news0) (ha : All2 (Fld w news0) fs ys)
    (ok : FsOk fs (if r < 2 then some (dayN i) else none)) (hsub : ∀ p ∈ news0, p ∈ news) (hi : i < 6) : SpecZ w 16 391 [.ref LF, .ref l] news (fun v n' => v = .bool (decide ((r : Int) < 2)) ∧ n' = news) := by
  have h := c_sh_before (w := w) LF (394 + 4 * i) l (dayA i) t fs ys n0 news (dayAt_A hi) hLF (hsub _ hl) (all2_sub ha hsub) ok.1 ok.2.1
  have e : hold_before (dateOf fs) (dayA i) = decide ((r : Int) < 2) := by
    rw [ok.2.2]
    by_cases hr : r < 2
    · rw [if_pos hr, decide_eq_true (show (r : Int) < 2 by omega)]; exact op_0 hi
    · rw [if_neg hr, decide_eq_false (show ¬ (r : Int) < 2 by omega)]; rfl
  rwa [e] at h
theorem op_1 {i : Nat} (hi : i < 6) : dLt (dayN i) (dayN i) = false := by
  match i, hi with
  | 0, _ => decide
  | 1, _ => decide
  | 2, _ => decide
  | 3, _ => decide
  | 4, _ => decide
  | 5, _ => decide
theorem c_l1 {w : World} {i r : Nat} (LF l : Addr) (t : Tok) (fs : List (List UInt8 × List UInt8)) (ys : List Value) (n0 : Nat) (news0 news : List (Addr × Obj)) (hLF : (LF, ({ cls := .type "tuple", data := .seq #[.str (Str.ofString "sentbefore") t, .ref (392 + 4 * i)] } : Obj)) ∈ news) (hl : (l, PySem.W.listOf ys.toArray n0) ∈ news0) (ha : All2 (Fld w news0) fs ys)
    (ok : FsOk fs (if r < 2 then some (dayN i) else none)) (hsub : ∀ p ∈ news0, p ∈ news) (hi : i < 6) : SpecZ w 16 391 [.ref LF, .ref l] news (fun v n' => v = .bool (false) ∧ n' = news) := by
  have h := c_sh_before (w := w) LF (392 + 4 * i) l (dayN i) t fs ys n0 news (dayAt_N hi) hLF (hsub _ hl) (all2_sub ha hsub) ok.1 ok.2.1
  have e : hold_before (dateOf fs) (dayN i) = false := by
    rw [ok.2.2]
    by_cases hr : r < 2
    · rw [if_pos hr]; exact op_1 hi
    · rw [if_neg hr]; rfl
  rwa [e] at h
theorem op_2 {i : Nat} (hi : i < 6) : dEq (dayN i) (dayN i) = true := by
  match i, hi with
  | 0, _ => decide
  | 1, _ => decide
  | 2, _ => decide
  | 3, _ => decide
  | 4, _ => decide
  | 5, _ => decide
theorem c_l2 {w : World} {i r : Nat} (LF l : Addr) (t : Tok) (fs : List (List UInt8 × List UInt8)) (ys : List Value) (n0 : Nat) (news0 news : List (Addr × Obj)) (hLF : (LF, ({ cls := .type "tuple", data := .seq #[.str (Str.ofString "senton") t, .ref (392 + 4 * i)] } : Obj)) ∈ news) (hl : (l, PySem.W.listOf ys.toArray n0) ∈ news0) (ha : All2 (Fld w news0) fs ys)
    (ok : FsOk fs (if r < 2 then some (dayN i) else none)) (hsub : ∀ p ∈ news0, p ∈ news) (hi : i < 6) : SpecZ w 16 391 [.ref LF, .ref l] news (fun v n' => v = .bool (decide ((r : Int) < 2)) ∧ n' = news) := by
  have h := c_sh_on (w := w) LF (392 + 4 * i) l (dayN i) t fs ys n0 news (dayAt_N hi) hLF (hsub _ hl) (all2_sub ha hsub) ok.1 ok.2.1
  have e : hold_on (dateOf fs) (dayN i) = decide ((r : Int) < 2) := by
    rw [ok.2.2]
    by_cases hr : r < 2
    · rw [if_pos hr, decide_eq_true (show (r : Int) < 2 by omega)]; exact op_2 hi
    · rw [if_neg hr, decide_eq_false (show ¬ (r : Int) < 2 by omega)]; rfl
  rwa [e] at h
theorem op_3 {i : Nat} (hi : i < 6) : dEq (dayN i) (dayB i) = false := by
  match i, hi with
  | 0, _ => decide
  | 1, _ => decide
  | 2, _ => decide
  | 3, _ => decide
  | 4, _ => decide
  | 5, _ => decide
theorem c_l3 {w : World} {i r : Nat} (LF l : Addr) (t : Tok) (fs : List (List UInt8 × List UInt8)) (ys : List Value) (n0 : Nat) (news0 news : List (Addr × Obj)) (hLF : (LF, ({ cls := .type "tuple", data := .seq #[.str (Str.ofString "senton") t, .ref (393 + 4 * i)] } : Obj)) ∈ news) (hl : (l, PySem.W.listOf ys.toArray n0) ∈ news0) (ha : All2 (Fld w news0) fs ys)
    (ok : FsOk fs (if r < 2 then some (dayN i) else none)) (hsub : ∀ p ∈ news0, p ∈ news) (hi : i < 6) : SpecZ w 16 391 [.ref LF, .ref l] news (fun v n' => v = .bool (false) ∧ n' = news) := by
  have h := c_sh_on (w := w) LF (393 + 4 * i) l (dayB i) t fs ys n0 news (dayAt_B hi) hLF (hsub _ hl) (all2_sub ha hsub) ok.1 ok.2.1
  have e : hold_on (dateOf fs) (dayB i) = false := by
    rw [ok.2.2]
    by_cases hr : r < 2
    · rw [if_pos hr]; exact op_3 hi
    · rw [if_neg hr]; rfl
  rwa [e] at h
theorem op_4 {i : Nat} (hi : i < 6) : dEq (dayN i) (dayA i) = false := by
  match i, hi with
  | 0, _ => decide
  | 1, _ => decide
  | 2, _ => decide
  | 3, _ => decide
  | 4, _ => decide
  | 5, _ => decide
theorem c_l4 {w : World} {i r : Nat} (LF l : Addr) (t : Tok) (fs : List (List UInt8 × List UInt8)) (ys : List Value) (n0 : Nat) (news0 news : List (Addr × Obj)) (hLF : (LF, ({ cls := .type "tuple", data := .seq #[.str (Str.ofString "senton") t, .ref (394 + 4 * i)] } : Obj)) ∈ news) (hl : (l, PySem.W.listOf ys.toArray n0) ∈ news0) (ha : All2 (Fld w news0) fs ys)
    (ok : FsOk fs (if r < 2 then some (dayN i) else none)) (hsub : ∀ p ∈ news0, p ∈ news) (hi : i < 6) : SpecZ w 16 391 [.ref LF, .ref l] news (fun v n' => v = .bool (false) ∧ n' = news) := by
  have h := c_sh_on (w := w) LF (394 + 4 * i) l (dayA i) t fs ys n0 news (dayAt_A hi) hLF (hsub _ hl) (all2_sub ha hsub) ok.1 ok.2.1
  have e : hold_on (dateOf fs) (dayA i) = false := by
    rw [ok.2.2]
    by_cases hr : r < 2
    · rw [if_pos hr]; exact op_4 hi
    · rw [if_neg hr]; rfl
  rwa [e] at h
theorem op_5 {i : Nat} (hi : i < 6) : dGe (dayN i) (dayN i) = true := by
  match i, hi with
  | 0, _ => decide
  | 1, _ => decide
  | 2, _ => decide
  | 3, _ => decide
  | 4, _ => decide
  | 5, _ => decide
theorem c_l5 {w : World} {i r : Nat} (LF l : Addr) (t : Tok) (fs : List (List UInt8 × List UInt8)) (ys : List Value) (n0 : Nat) (news0 news : List (Addr × Obj)) (hLF : (LF, ({ cls := .type "tuple", data := .seq #[.str (Str.ofString "sentsince") t, .ref (392 + 4 * i)] } : Obj)) ∈ news) (hl : (l, PySem.W.listOf ys.toArray n0) ∈ news0) (ha : All2 (Fld w news0) fs ys)
    (ok : FsOk fs (if r < 2 then some (dayN i) else none)) (hsub : ∀ p ∈ news0, p ∈ news) (hi : i < 6) : SpecZ w 16 391 [.ref LF, .ref l] news (fun v n' => v = .bool (decide ((r : Int) < 2)) ∧ n' = news) := by
  have h := c_sh_since (w := w) LF (392 + 4 * i) l (dayN i) t fs ys n0 news (dayAt_N hi) hLF (hsub _ hl) (all2_sub ha hsub) ok.1 ok.2.1
  have e : hold_since (dateOf fs) (dayN i) = decide ((r : Int) < 2) := by
    rw [ok.2.2]
    by_cases hr : r < 2
    · rw [if_pos hr, decide_eq_true (show (r : Int) < 2 by omega)]; exact op_5 hi
    · rw [if_neg hr, decide_eq_false (show ¬ (r : Int) < 2 by omega)]; rfl
  rwa [e] at h
theorem op_6 {i : Nat} (hi : i < 6) : dGe (dayN i) (dayA i) = false := by
  match i, hi with
  | 0, _ => decide
  | 1, _ => decide
  | 2, _ => decide
  | 3, _ => decide
  | 4, _ => decide
  | 5, _ => decide
theorem c_l6 {w : World} {i r : Nat} (LF l : Addr) (t : Tok) (fs : List (List UInt8 × List UInt8)) (ys : List Value) (n0 : Nat) (news0 news : List (Addr × Obj)) (hLF : (LF, ({ cls := .type "tuple", data := .seq #[.str (Str.ofString "sentsince") t, .ref (394 + 4 * i)] } : Obj)) ∈ news) (hl : (l, PySem.W.listOf ys.toArray n0) ∈ news0) (ha : All2 (Fld w news0) fs ys)
    (ok : FsOk fs (if r < 2 then some (dayN i) else none)) (hsub : ∀ p ∈ news0, p ∈ news) (hi : i < 6) : SpecZ w 16 391 [.ref LF, .ref l] news (fun v n' => v = .bool (false) ∧ n' = news) := by
  have h := c_sh_since (w := w) LF (394 + 4 * i) l (dayA i) t fs ys n0 news (dayAt_A hi) hLF (hsub _ hl) (all2_sub ha hsub) ok.1 ok.2.1
  have e : hold_since (dateOf fs) (dayA i) = false := by
    rw [ok.2.2]
    by_cases hr : r < 2
    · rw [if_pos hr]; exact op_6 hi
    · rw [if_neg hr]; rfl
  rwa [e] at h
theorem op_7 {i : Nat} (hi : i < 6) : dGe (dayN i) (dayB i) = true := by
  match i, hi with
  | 0, _ => decide
  | 1, _ => decide
  | 2, _ => decide
  | 3, _ => decide
  | 4, _ => decide
  | 5, _ => decide
theorem c_l7 {w : World} {i r : Nat} (LF l : Addr) (t : Tok) (fs : List (List UInt8 × List UInt8)) (ys : List Value) (n0 : Nat) (news0 news : List (Addr × Obj)) (hLF : (LF, ({ cls := .type "tuple", data := .seq #[.str (Str.ofString "sentsince") t, .ref (393 + 4 * i)] } : Obj)) ∈ news) (hl : (l, PySem.W.listOf ys.toArray n0) ∈ news0) (ha : All2 (Fld w news0) fs ys)
    (ok : FsOk fs (if r < 2 then some (dayN i) else none)) (hsub : ∀ p ∈ news0, p ∈ news) (hi : i < 6) : SpecZ w 16 391 [.ref LF, .ref l] news (fun v n' => v = .bool (decide ((r : Int) < 2)) ∧ n' = news) := by
  have h := c_sh_since (w := w) LF (393 + 4 * i) l (dayB i) t fs ys n0 news (dayAt_B hi) hLF (hsub _ hl) (all2_sub ha hsub) ok.1 ok.2.1
  have e : hold_since (dateOf fs) (dayB i) = decide ((r : Int) < 2) := by
    rw [ok.2.2]
    by_cases hr : r < 2
    · rw [if_pos hr, decide_eq_true (show (r : Int) < 2 by omega)]; exact op_7 hi
    · rw [if_neg hr, decide_eq_false (show ¬ (r : Int) < 2 by omega)]; rfl
  rwa [e] at h
theorem op_8 {i : Nat} (hi : i < 6) : dLt (dayN i) (dayB i) = false := by
  match i, hi with
  | 0, _ => decide
  | 1, _ => decide
  | 2, _ => decide
  | 3, _ => decide
  | 4, _ => decide
  | 5, _ => decide
theorem c_l8 {w : World} {i r : Nat} (LF l : Addr) (t : Tok) (fs : List (List UInt8 × List UInt8)) (ys : List Value) (n0 : Nat) (news0 news : List (Addr × Obj)) (hLF : (LF, ({ cls := .type "tuple", data := .seq #[.str (Str.ofString "sentbefore") t, .ref (393 + 4 * i)] } : Obj)) ∈ news) (hl : (l, PySem.W.listOf ys.toArray n0) ∈ news0) (ha : All2 (Fld w news0) fs ys)
    (ok : FsOk fs (if r < 2 then some (dayN i) else none)) (hsub : ∀ p ∈ news0, p ∈ news) (hi : i < 6) : SpecZ w 16 391 [.ref LF, .ref l] news (fun v n' => v = .bool (false) ∧ n' = news) := by
  have h := c_sh_before (w := w) LF (393 + 4 * i) l (dayB i) t fs ys n0 news (dayAt_B hi) hLF (hsub _ hl) (all2_sub ha hsub) ok.1 ok.2.1
  have e : hold_before (dateOf fs) (dayB i) = false := by
    rw [ok.2.2]
    by_cases hr : r < 2
    · rw [if_pos hr]; exact op_8 hi
    · rw [if_neg hr]; rfl
  rwa [e] at h
section
variable {prog : Program} {w : World} {A : Around} {E : Value → Shared → Prop} {s : Shared} {Q : Value → Shared → Prop} {b : Bool}
theorem ne_same (h : Q (.bool false) s) : wpAny (model prog w) A (compareOp .NotEq (.bool b) (.bool b)) Q E s := by
  cases b
  · exact PyProof.Rows.ne_bool (by exact h)
  · exact PyProof.Rows.ne_bool (by exact h)
end

theorem reg_76_tail_0 : True := by
  k_with "L compareOp NotEq bool bool" => ((k_here; (with_reducible refine ne_same ?_)))
  trivial
-- piece 77_loop
theorem walk_77_loop : twoK PySem.Challenge.rw_nz0311_01 MineH.hd.heap_1_39 := by k_fill; w_top off; trivial
/-- one turn of the law's last loop: the word, the day and what is due -/
inductive TurnD (i : Nat) : PySem.Str → Addr → Bool → Prop
  | t0 : TurnD i (Str.ofString "sentbefore") (394 + 4 * i) true
  | t1 : TurnD i (Str.ofString "sentbefore") (392 + 4 * i) false
  | t2 : TurnD i (Str.ofString "senton") (392 + 4 * i) true
  | t3 : TurnD i (Str.ofString "senton") (393 + 4 * i) false
  | t4 : TurnD i (Str.ofString "senton") (394 + 4 * i) false
  | t5 : TurnD i (Str.ofString "sentsince") (392 + 4 * i) true
  | t6 : TurnD i (Str.ofString "sentsince") (394 + 4 * i) false
  | t7 : TurnD i (Str.ofString "sentsince") (393 + 4 * i) true
  | t8 : TurnD i (Str.ofString "sentbefore") (393 + 4 * i) false
theorem c_turnT {w : World} {i r : Nat} (LF l : Addr) (word : PySem.Str) (t : Tok) (day : Addr) (fs : List (List UInt8 × List UInt8)) (ys : List Value) (n0 : Nat) (news0 news : List (Addr × Obj)) (hLF : (LF, ({ cls := .type "tuple", data := .seq #[.str word t, .ref day] } : Obj)) ∈ news) (ht : TurnD i word day true) (hl : (l, PySem.W.listOf ys.toArray n0) ∈ news0) (ha : All2 (Fld w news0) fs ys)
    (ok : FsOk fs (if r < 2 then some (dayN i) else none)) (hsub : ∀ p ∈ news0, p ∈ news) (hi : i < 6) : SpecZ w 16 391 [.ref LF, .ref l] news (fun v n' => v = .bool (decide ((r : Int) < 2)) ∧ n' = news) := by
  cases ht with
  | t0 => exact c_l0 LF l t fs ys n0 news0 news hLF hl ha ok hsub hi
  | t2 => exact c_l2 LF l t fs ys n0 news0 news hLF hl ha ok hsub hi
  | t5 => exact c_l5 LF l t fs ys n0 news0 news hLF hl ha ok hsub hi
  | t7 => exact c_l7 LF l t fs ys n0 news0 news hLF hl ha ok hsub hi
theorem c_turnF {w : World} {i r : Nat} (LF l : Addr) (word : PySem.Str) (t : Tok) (day : Addr) (fs : List (List UInt8 × List UInt8)) (ys : List Value) (n0 : Nat) (news0 news : List (Addr × Obj)) (hLF : (LF, ({ cls := .type "tuple", data := .seq #[.str word t, .ref day] } : Obj)) ∈ news) (ht : TurnD i word day false) (hl : (l, PySem.W.listOf ys.toArray n0) ∈ news0) (ha : All2 (Fld w news0) fs ys)
    (ok : FsOk fs (if r < 2 then some (dayN i) else none)) (hsub : ∀ p ∈ news0, p ∈ news) (hi : i < 6) : SpecZ w 16 391 [.ref LF, .ref l] news (fun v n' => v = .bool (false) ∧ n' = news) := by
  cases ht with
  | t1 => exact c_l1 LF l t fs ys n0 news0 news hLF hl ha ok hsub hi
  | t3 => exact c_l3 LF l t fs ys n0 news0 news hLF hl ha ok hsub hi
  | t4 => exact c_l4 LF l t fs ys n0 news0 news hLF hl ha ok hsub hi
  | t6 => exact c_l6 LF l t fs ys n0 news0 news hLF hl ha ok hsub hi
  | t8 => exact c_l8 LF l t fs ys n0 news0 news hLF hl ha ok hsub hi
section
variable {prog : Program} {w : World} {A : Around} {E : Value → Shared → Prop} {s : Shared} {env : Env} {h₀ : Heap} {target : PySem.Expr} {body : List Stmt} {Q : Flow → Shared → Prop}
/-- the law's last loop: the ledger is opaque within a turn -/
theorem for_turn9 {ax : Addr} {xs : Array Value} {m₀ : PySem.Str → Option Value} {news news0 : List (Addr × Obj)} {i : Nat} (K : (PySem.Str → Option Value) → Prop)
    (hh : A.handled = none) (F : Fr h₀ env.locals s.heap m₀) (N : News h₀ env.locals s.heap news) (hm : (ax, ({ cls := .type "tuple", data := .seq xs } : Obj)) ∈ news) (hsub : ∀ p ∈ news0, p ∈ news) (k0 : K m₀)
    (hxs : ∀ (k : Nat) (v : Value), xs[k]? = some v → ∃ (T : Addr) (word : PySem.Str) (t : Tok) (day : Addr) (due : Bool), v = .ref T ∧ (T, ({ cls := .type "tuple", data := .seq #[.str word t, .ref day, .bool due] } : Obj)) ∈ news ∧ TurnD i word day due)
    (step : ∀ T word t day due m₁ h₁ tk₁ own news9 wr, K m₁ → (∀ p ∈ news9, p.1 ∉ wr) → (∀ p ∈ news0, p ∈ news9) → TurnD i word day due → Fr h₀ env.locals h₁ m₁ → News h₀ env.locals h₁ ((T, ({ cls := .type "tuple", data := .seq #[.str word t, .ref day, .bool due] } : Obj)) :: (own ++ news9)) →
      wpAny (model prog w) A (assign target env (.ref T)) (fun _ s₃ => wpAny (model prog w) A (execs body env)
        (LoopStepV h₀ env.locals wr own (fun m₂ nx => nx = news9 ∧ K m₂) { s with heap := h₁, toks := tk₁ } (fun v s' => Q (.ret v) s') fun s' => Q .next s') E s₃) E { s with heap := h₁, toks := tk₁ })
    (fin : ∀ h' tk m', Fr h₀ env.locals h' m' → K m' → Q .next { s with heap := h', toks := tk }) :
    wpAny (model prog w) A (pyIter (.ref ax)) (fun it s₂ => TurnsAt prog w A h₀ env target body Q E it s₂) E s := by
  have hax := N _ hm
  have hl : s.heap.IsTuple ax xs := ⟨_, hax.1, rfl, _, rfl⟩
  have hlt := Heap.lt_size hax.1
  have hne : ax ≠ s.heap.objs.size := Nat.ne_of_lt hlt
  have hw : ∀ p ∈ news, p.1 ∉ [s.heap.objs.size] := fun p hp hI => absurd (Heap.lt_size (N p hp).1) ((List.mem_singleton.mp hI) ▸ Nat.lt_irrefl _)
  refine wpAny_pyIter_tuple hl ?_
  refine ⟨s.heap.objs.size, _, _, _, _, _, _, m₀, news, fun _ m₁ nx => nx = news ∧ K m₁, rfl, KTurns.ofWalks (Walks.tuple hh s.heap.objs.size ax hne xs) fun i v s Q E st q => letGo_tupleiter st.1 q, ?_, ?_, hw, ⟨⟨_, Heap.get?_push_size _ rfl, rfl, rfl⟩, hl.at fun o e => Heap.get?_push_of_some _ e⟩, F.push _, fun p hp => ⟨Heap.get?_push_of_some _ (N p hp).1, (N p hp).2⟩, ⟨rfl, k0⟩, ?_, ?_⟩
  · intro hI
    rcases List.mem_cons.mp hI with e | hI
    · exact absurd F.ns.lt (e ▸ Nat.lt_irrefl _)
    · exact hax.2.1 (List.mem_singleton.mp hI).symm
  · intro b hb
    rw [List.mem_singleton.mp hb]
    exact next_is_new F
  · rintro k v m₁ news₁ h₁ tk₁ own hi hv ⟨rfl, hK⟩ hx - - - - F₁ N₁
    obtain ⟨T, word, t, day, due, rfl, hT, ht⟩ := hxs k v hv
    refine step T word t day due m₁ h₁ tk₁ own _ _ hK hx hsub ht F₁ (cb_drop N₁ fun p hp => ?_)
    rcases List.mem_cons.mp hp with rfl | hp
    · exact List.mem_append_right _ hT
    · exact hp
  · rintro h' tk m' news' F' N' - ⟨rfl, hK⟩
    exact fin h' tk m' F' hK
end
theorem turns9 {i : Nat} {T0 T1 T2 T3 T4 T5 T6 T7 T8 : Addr} {t0 t1 t2 t3 t4 t5 t6 t7 t8 : Tok} {news : List (Addr × Obj)} (h0 : (T0, ({ cls := .type "tuple", data := .seq #[.str (Str.ofString "sentbefore") t0, .ref (394 + 4 * i), .bool true] } : Obj)) ∈ news) (h1 : (T1, ({ cls := .type "tuple", data := .seq #[.str (Str.ofString "sentbefore") t1, .ref (392 + 4 * i), .bool false] } : Obj)) ∈ news) (h2 : (T2, ({ cls := .type "tuple", data := .seq #[.str (Str.ofString "senton") t2, .ref (392 + 4 * i), .bool true] } : Obj)) ∈ news) (h3 : (T3, ({ cls := .type "tuple", data := .seq #[.str (Str.ofString "senton") t3, .ref (393 + 4 * i), .bool false] } : Obj)) ∈ news) (h4 : (T4, ({ cls := .type "tuple", data := .seq #[.str (Str.ofString "senton") t4, .ref (394 + 4 * i), .bool false] } : Obj)) ∈ news) (h5 : (T5, ({ cls := .type "tuple", data := .seq #[.str (Str.ofString "sentsince") t5, .ref (392 + 4 * i), .bool true] } : Obj)) ∈ news) (h6 : (T6, ({ cls := .type "tuple", data := .seq #[.str (Str.ofString "sentsince") t6, .ref (394 + 4 * i), .bool false] } : Obj)) ∈ news) (h7 : (T7, ({ cls := .type "tuple", data := .seq #[.str (Str.ofString "sentsince") t7, .ref (393 + 4 * i), .bool true] } : Obj)) ∈ news) (h8 : (T8, ({ cls := .type "tuple", data := .seq #[.str (Str.ofString "sentbefore") t8, .ref (393 + 4 * i), .bool false] } : Obj)) ∈ news)
    (k : Nat) (v : Value) (h : (#[.ref T0, .ref T1, .ref T2, .ref T3, .ref T4, .ref T5, .ref T6, .ref T7, .ref T8] : Array Value)[k]? = some v) : ∃ (T : Addr) (word : PySem.Str) (t : Tok) (day : Addr) (due : Bool), v = .ref T ∧ (T, ({ cls := .type "tuple", data := .seq #[.str word t, .ref day, .bool due] } : Obj)) ∈ news ∧ TurnD i word day due := by
  match k, h with
  | 0, h => exact ⟨T0, _, _, _, _, (Option.some.inj h).symm, h0, .t0⟩
  | 1, h => exact ⟨T1, _, _, _, _, (Option.some.inj h).symm, h1, .t1⟩
  | 2, h => exact ⟨T2, _, _, _, _, (Option.some.inj h).symm, h2, .t2⟩
  | 3, h => exact ⟨T3, _, _, _, _, (Option.some.inj h).symm, h3, .t3⟩
  | 4, h => exact ⟨T4, _, _, _, _, (Option.some.inj h).symm, h4, .t4⟩
  | 5, h => exact ⟨T5, _, _, _, _, (Option.some.inj h).symm, h5, .t5⟩
  | 6, h => exact ⟨T6, _, _, _, _, (Option.some.inj h).symm, h6, .t6⟩
  | 7, h => exact ⟨T7, _, _, _, _, (Option.some.inj h).symm, h7, .t7⟩
  | 8, h => exact ⟨T8, _, _, _, _, (Option.some.inj h).symm, h8, .t8⟩
  | _ + 9, h => exact nomatch h
theorem reg_77_loop_0 : True := by
  k_with "L call ref" => ((k_here; (with_reducible show wpAny _ _ (call (Value.ref 391) [Value.ref _, Value.ref _]) _ _ _); (with_reducible rename TurnD _ _ _ false => hturn9); k_dflt (refine' SpecZ.use (c_turnF _ _ _ _ _ _ _ _ _ _ ?h1 hturn9 ?h2 ?h3 ?h4 ?h5 ?h6q) ?k1 ?k2 ?k3 ?k4 ?k5 ?k6q ?k7q ?k8q ?_; (case k4 => k_asm); (case h1 => with_reducible exact List.mem_cons_self ..); (case k2 => k_asm); (case k1 => k_asm); (case k3 => k_asm); (case k5 => k_asm); (case h2 => assumption); (case h3 => assumption); (case h4 => assumption); (case h5 => (intro p9q hp9q; refine List.mem_cons_of_mem _ (List.mem_cons_of_mem _ (List.mem_append_right _ ?_)); (rename (∀ p, p ∈ (_ : List (Addr × Obj)) → p ∈ (_ : List (Addr × Obj))) => hs9q); exact hs9q _ hp9q)); (case h6q => assumption); (case k6q => first | exact rfl | assumption); (case k7q => ktr_room); (case k8q => ktr_units); refine curry (elimB ?_); intro h9q tk9q F9q N9q; (try dsimp only))))
  k_with "L call ref" => ((k_here; (with_reducible show wpAny _ _ (call (Value.ref 391) [Value.ref _, Value.ref _]) _ _ _); (with_reducible rename TurnD _ _ _ true => hturn9); k_dflt (refine' SpecZ.use (c_turnT _ _ _ _ _ _ _ _ _ _ ?h1 hturn9 ?h2 ?h3 ?h4 ?h5 ?h6q) ?k1 ?k2 ?k3 ?k4 ?k5 ?k6q ?k7q ?k8q ?_; (case k4 => k_asm); (case h1 => with_reducible exact List.mem_cons_self ..); (case k2 => k_asm); (case k1 => k_asm); (case k3 => k_asm); (case k5 => k_asm); (case h2 => assumption); (case h3 => assumption); (case h4 => assumption); (case h5 => (intro p9q hp9q; refine List.mem_cons_of_mem _ (List.mem_cons_of_mem _ (List.mem_append_right _ ?_)); (rename (∀ p, p ∈ (_ : List (Addr × Obj)) → p ∈ (_ : List (Addr × Obj))) => hs9q); exact hs9q _ hp9q)); (case h6q => assumption); (case k6q => first | exact rfl | assumption); (case k7q => ktr_room); (case k8q => ktr_units); refine curry (elimB ?_); intro h9q tk9q F9q N9q; (try dsimp only))))
  k_with "L exec For Tuple Tuple" => ((k_here; (rename Fr _ _ _ _ => lF'q); (with_unfolding_all refine' For_turns lF'q ?_); k_whole))
  trivial
/-- the counter of made values, opened: the terms stay small -/
theorem tok_gen {M : Model} {A : Around} {α : Type} {c : Sem α} {Q : α → Shared → Prop} {E : Value → Shared → Prop} {hp : Heap} {g : Array GenState} {d : Drawn} {os : OsState} {e : Nat} (h : ∀ tk, wpAny M A c Q E ⟨hp, g, d, tk, os⟩) : wpAny M A c Q E ⟨hp, g, d, e, os⟩ := h e

theorem reg_77_loop_1 : True := by
  k_with "L newTuple" => ((k_here; (with_reducible show wpAny _ _ (newTuple _) _ _ (Shared.mk _ _ _ (_ + 1) _)); (with_reducible refine tok_gen ?_); intro tk9q))
  trivial
-- piece 90_law
theorem walk_90_law : twoK PySem.Challenge.rw_nz0311_01 MineH.hd.heap_1_39 := by k_fill; w_top off; trivial
/-- the walk with what comes behind kept shut: the terms stay small -/
theorem law_opaque {α : Type} {M : Model} {A : Around} {c : Sem α} {Q : α → Shared → Prop} {E : Value → Shared → Prop} {s : Shared} (h : ∀ Q' : α → Shared → Prop, (∀ v s', Q v s' → Q' v s') → wpAny M A c Q' (fun _ _ => False) s) : wpAny M A c Q E s := wpAny_mono (h Q fun _ _ h => h) (fun _ _ h => h) fun _ _ h => h.elim
set_option maxHeartbeats 8000000 in
theorem law_all : PySem.Challenge.rw_nz0311_01.Holds := by
  refine MineH.hd.walkEnd ?_
  k_go0
  refine law_opaque fun Q9 hq9 => ?_
  k_with "exec If" => (k_here; (with_reducible show wpAny _ _ (exec (Stmt.If (Expr.Compare (Expr.Name (Str.ofString "way") _) _ [Expr.Constant (Const.int 1) _ _] _) _ _ _) _) _ _ _); (fail_if_success (with_reducible show wpAny _ _ _ (JoinF _ _ _ _ _ _ _) _ _)); k_dflt (refine' law_join ?jF ?jr ?jw ?_ ?_; (case jF => k_asm); (case jr => first | (with_reducible assumption) | exact if_pos rfl | (refine Eq.trans (if_neg (by decide +kernel)) ?_; first | (with_reducible assumption) | exact if_pos rfl | (refine Eq.trans (if_neg (by decide +kernel)) ?_; first | (with_reducible assumption) | exact if_pos rfl | (refine Eq.trans (if_neg (by decide +kernel)) ?_; first | (with_reducible assumption) | exact if_pos rfl | (refine Eq.trans (if_neg (by decide +kernel)) ?_; first | (with_reducible assumption) | exact if_pos rfl | (refine Eq.trans (if_neg (by decide +kernel)) ?_; first | (with_reducible assumption) | exact if_pos rfl | (refine Eq.trans (if_neg (by decide +kernel)) ?_; first | assumption | exact if_pos rfl | with_unfolding_all rfl) | with_unfolding_all rfl) | with_unfolding_all rfl) | with_unfolding_all rfl) | with_unfolding_all rfl) | with_unfolding_all rfl) | with_unfolding_all rfl); (case jw => first | (with_reducible assumption) | exact if_pos rfl | (refine Eq.trans (if_neg (by decide +kernel)) ?_; first | (with_reducible assumption) | exact if_pos rfl | (refine Eq.trans (if_neg (by decide +kernel)) ?_; first | (with_reducible assumption) | exact if_pos rfl | (refine Eq.trans (if_neg (by decide +kernel)) ?_; first | (with_reducible assumption) | exact if_pos rfl | (refine Eq.trans (if_neg (by decide +kernel)) ?_; first | (with_reducible assumption) | exact if_pos rfl | (refine Eq.trans (if_neg (by decide +kernel)) ?_; first | (with_reducible assumption) | exact if_pos rfl | (refine Eq.trans (if_neg (by decide +kernel)) ?_; first | assumption | exact if_pos rfl | with_unfolding_all rfl) | with_unfolding_all rfl) | with_unfolding_all rfl) | with_unfolding_all rfl) | with_unfolding_all rfl) | with_unfolding_all rfl) | with_unfolding_all rfl); rotate_left; (intro hh7 tk7 m7 fa7 news7 fs7 ys7 n7 F7 r7 w7 f7 N7 l7 a7 ok7); (try dsimp only); rotate_left))
  k_with "my iter" => (k_here; (with_reducible show wpAny _ _ (pyIter (Value.ref _)) (fun it s₂ => TurnsAt _ _ _ _ _ _ _ _ _ it s₂) _ _); k_dflt (((with_reducible rename News _ _ _ _ => N0); (with_reducible rename Fr _ _ _ _ => F0); (refine' for_turn9 (news0 := news7) (fun m₁ => m₁ (Str.ofString "way") = m7 (Str.ofString "way") ∧ m₁ (Str.ofString "fields") = m7 (Str.ofString "fields")) rfl F0 N0 ?m9 ?s9 ?k9 ?x9 ?t9 ?f9); (case m9 => exact List.mem_cons_self ..); (case s9 => (intro p hp; (repeat (first | exact hp | refine List.mem_cons_of_mem _ ?_ | refine List.mem_append_right _ ?_)))); (case k9 => exact ⟨Eq.trans (by first | (with_reducible assumption) | exact if_pos rfl | (refine Eq.trans (if_neg (by decide +kernel)) ?_; first | (with_reducible assumption) | exact if_pos rfl | (refine Eq.trans (if_neg (by decide +kernel)) ?_; first | (with_reducible assumption) | exact if_pos rfl | (refine Eq.trans (if_neg (by decide +kernel)) ?_; first | (with_reducible assumption) | exact if_pos rfl | (refine Eq.trans (if_neg (by decide +kernel)) ?_; first | (with_reducible assumption) | exact if_pos rfl | (refine Eq.trans (if_neg (by decide +kernel)) ?_; first | (with_reducible assumption) | exact if_pos rfl | (refine Eq.trans (if_neg (by decide +kernel)) ?_; first | assumption | exact if_pos rfl | with_unfolding_all rfl) | with_unfolding_all rfl) | with_unfolding_all rfl) | with_unfolding_all rfl) | with_unfolding_all rfl) | with_unfolding_all rfl) | with_unfolding_all rfl) w7.symm, Eq.trans (by first | (with_reducible assumption) | exact if_pos rfl | (refine Eq.trans (if_neg (by decide +kernel)) ?_; first | (with_reducible assumption) | exact if_pos rfl | (refine Eq.trans (if_neg (by decide +kernel)) ?_; first | (with_reducible assumption) | exact if_pos rfl | (refine Eq.trans (if_neg (by decide +kernel)) ?_; first | (with_reducible assumption) | exact if_pos rfl | (refine Eq.trans (if_neg (by decide +kernel)) ?_; first | (with_reducible assumption) | exact if_pos rfl | (refine Eq.trans (if_neg (by decide +kernel)) ?_; first | (with_reducible assumption) | exact if_pos rfl | (refine Eq.trans (if_neg (by decide +kernel)) ?_; first | assumption | exact if_pos rfl | with_unfolding_all rfl) | with_unfolding_all rfl) | with_unfolding_all rfl) | with_unfolding_all rfl) | with_unfolding_all rfl) | with_unfolding_all rfl) | with_unfolding_all rfl) f7.symm⟩); (case x9 => (refine' turns9 ?_ ?_ ?_ ?_ ?_ ?_ ?_ ?_ ?_ <;> (repeat (first | exact List.mem_cons_self .. | refine List.mem_cons_of_mem _ ?_)))); rotate_left; (clear F0 N0; (try clear N7); (try clear F7); rintro h9 tk9 m9 F9 ⟨kw9, kf9⟩; (try dsimp only)); rotate_left; (clear F0 N0; (try clear N7); (try clear F7); rintro T9 word9 t9 day9 due9 m9 h9 tk9 own9 news9 wr9 ⟨kw9, kf9⟩ x9 hs9 ht9 F9 N9; (rw [w7] at kw9); (rw [f7] at kf9); cases due9))))
  k_steps
  all_goals first
    | exact w0_join (by with_reducible assumption) (by with_reducible assumption) (by first | (with_reducible assumption) | exact if_pos rfl | (refine Eq.trans (if_neg (by decide +kernel)) ?_; first | (with_reducible assumption) | exact if_pos rfl | (refine Eq.trans (if_neg (by decide +kernel)) ?_; first | (with_reducible assumption) | exact if_pos rfl | (refine Eq.trans (if_neg (by decide +kernel)) ?_; first | (with_reducible assumption) | exact if_pos rfl | (refine Eq.trans (if_neg (by decide +kernel)) ?_; first | (with_reducible assumption) | exact if_pos rfl | (refine Eq.trans (if_neg (by decide +kernel)) ?_; first | (with_reducible assumption) | exact if_pos rfl | (refine Eq.trans (if_neg (by decide +kernel)) ?_; first | assumption | exact if_pos rfl | with_unfolding_all rfl) | with_unfolding_all rfl) | with_unfolding_all rfl) | with_unfolding_all rfl) | with_unfolding_all rfl) | with_unfolding_all rfl) | with_unfolding_all rfl) (by first | (with_reducible assumption) | exact if_pos rfl | (refine Eq.trans (if_neg (by decide +kernel)) ?_; first | (with_reducible assumption) | exact if_pos rfl | (refine Eq.trans (if_neg (by decide +kernel)) ?_; first | (with_reducible assumption) | exact if_pos rfl | (refine Eq.trans (if_neg (by decide +kernel)) ?_; first | (with_reducible assumption) | exact if_pos rfl | (refine Eq.trans (if_neg (by decide +kernel)) ?_; first | (with_reducible assumption) | exact if_pos rfl | (refine Eq.trans (if_neg (by decide +kernel)) ?_; first | (with_reducible assumption) | exact if_pos rfl | (refine Eq.trans (if_neg (by decide +kernel)) ?_; first | assumption | exact if_pos rfl | with_unfolding_all rfl) | with_unfolding_all rfl) | with_unfolding_all rfl) | with_unfolding_all rfl) | with_unfolding_all rfl) | with_unfolding_all rfl) | with_unfolding_all rfl) (by first | (with_reducible assumption) | exact if_pos rfl | (refine Eq.trans (if_neg (by decide +kernel)) ?_; first | (with_reducible assumption) | exact if_pos rfl | (refine Eq.trans (if_neg (by decide +kernel)) ?_; first | (with_reducible assumption) | exact if_pos rfl | (refine Eq.trans (if_neg (by decide +kernel)) ?_; first | (with_reducible assumption) | exact if_pos rfl | (refine Eq.trans (if_neg (by decide +kernel)) ?_; first | (with_reducible assumption) | exact if_pos rfl | (refine Eq.trans (if_neg (by decide +kernel)) ?_; first | (with_reducible assumption) | exact if_pos rfl | (refine Eq.trans (if_neg (by decide +kernel)) ?_; first | assumption | exact if_pos rfl | with_unfolding_all rfl) | with_unfolding_all rfl) | with_unfolding_all rfl) | with_unfolding_all rfl) | with_unfolding_all rfl) | with_unfolding_all rfl) | with_unfolding_all rfl) (by assumption) (by assumption) (by assumption) (by assumption) (by assumption) (by assumption) (by omega)
    | exact w1_join (by with_reducible assumption) (by with_reducible assumption) (by first | (with_reducible assumption) | exact if_pos rfl | (refine Eq.trans (if_neg (by decide +kernel)) ?_; first | (with_reducible assumption) | exact if_pos rfl | (refine Eq.trans (if_neg (by decide +kernel)) ?_; first | (with_reducible assumption) | exact if_pos rfl | (refine Eq.trans (if_neg (by decide +kernel)) ?_; first | (with_reducible assumption) | exact if_pos rfl | (refine Eq.trans (if_neg (by decide +kernel)) ?_; first | (with_reducible assumption) | exact if_pos rfl | (refine Eq.trans (if_neg (by decide +kernel)) ?_; first | (with_reducible assumption) | exact if_pos rfl | (refine Eq.trans (if_neg (by decide +kernel)) ?_; first | assumption | exact if_pos rfl | with_unfolding_all rfl) | with_unfolding_all rfl) | with_unfolding_all rfl) | with_unfolding_all rfl) | with_unfolding_all rfl) | with_unfolding_all rfl) | with_unfolding_all rfl) (by first | (with_reducible assumption) | exact if_pos rfl | (refine Eq.trans (if_neg (by decide +kernel)) ?_; first | (with_reducible assumption) | exact if_pos rfl | (refine Eq.trans (if_neg (by decide +kernel)) ?_; first | (with_reducible assumption) | exact if_pos rfl | (refine Eq.trans (if_neg (by decide +kernel)) ?_; first | (with_reducible assumption) | exact if_pos rfl | (refine Eq.trans (if_neg (by decide +kernel)) ?_; first | (with_reducible assumption) | exact if_pos rfl | (refine Eq.trans (if_neg (by decide +kernel)) ?_; first | (with_reducible assumption) | exact if_pos rfl | (refine Eq.trans (if_neg (by decide +kernel)) ?_; first | assumption | exact if_pos rfl | with_unfolding_all rfl) | with_unfolding_all rfl) | with_unfolding_all rfl) | with_unfolding_all rfl) | with_unfolding_all rfl) | with_unfolding_all rfl) | with_unfolding_all rfl) (by first | (with_reducible assumption) | exact if_pos rfl | (refine Eq.trans (if_neg (by decide +kernel)) ?_; first | (with_reducible assumption) | exact if_pos rfl | (refine Eq.trans (if_neg (by decide +kernel)) ?_; first | (with_reducible assumption) | exact if_pos rfl | (refine Eq.trans (if_neg (by decide +kernel)) ?_; first | (with_reducible assumption) | exact if_pos rfl | (refine Eq.trans (if_neg (by decide +kernel)) ?_; first | (with_reducible assumption) | exact if_pos rfl | (refine Eq.trans (if_neg (by decide +kernel)) ?_; first | (with_reducible assumption) | exact if_pos rfl | (refine Eq.trans (if_neg (by decide +kernel)) ?_; first | assumption | exact if_pos rfl | with_unfolding_all rfl) | with_unfolding_all rfl) | with_unfolding_all rfl) | with_unfolding_all rfl) | with_unfolding_all rfl) | with_unfolding_all rfl) | with_unfolding_all rfl) (by assumption) (by assumption) (by assumption) (by assumption) (by assumption) (by assumption) (by omega)
    | exact w2_join (by with_reducible assumption) (by with_reducible assumption) (by first | (with_reducible assumption) | exact if_pos rfl | (refine Eq.trans (if_neg (by decide +kernel)) ?_; first | (with_reducible assumption) | exact if_pos rfl | (refine Eq.trans (if_neg (by decide +kernel)) ?_; first | (with_reducible assumption) | exact if_pos rfl | (refine Eq.trans (if_neg (by decide +kernel)) ?_; first | (with_reducible assumption) | exact if_pos rfl | (refine Eq.trans (if_neg (by decide +kernel)) ?_; first | (with_reducible assumption) | exact if_pos rfl | (refine Eq.trans (if_neg (by decide +kernel)) ?_; first | (with_reducible assumption) | exact if_pos rfl | (refine Eq.trans (if_neg (by decide +kernel)) ?_; first | assumption | exact if_pos rfl | with_unfolding_all rfl) | with_unfolding_all rfl) | with_unfolding_all rfl) | with_unfolding_all rfl) | with_unfolding_all rfl) | with_unfolding_all rfl) | with_unfolding_all rfl) (by first | (with_reducible assumption) | exact if_pos rfl | (refine Eq.trans (if_neg (by decide +kernel)) ?_; first | (with_reducible assumption) | exact if_pos rfl | (refine Eq.trans (if_neg (by decide +kernel)) ?_; first | (with_reducible assumption) | exact if_pos rfl | (refine Eq.trans (if_neg (by decide +kernel)) ?_; first | (with_reducible assumption) | exact if_pos rfl | (refine Eq.trans (if_neg (by decide +kernel)) ?_; first | (with_reducible assumption) | exact if_pos rfl | (refine Eq.trans (if_neg (by decide +kernel)) ?_; first | (with_reducible assumption) | exact if_pos rfl | (refine Eq.trans (if_neg (by decide +kernel)) ?_; first | assumption | exact if_pos rfl | with_unfolding_all rfl) | with_unfolding_all rfl) | with_unfolding_all rfl) | with_unfolding_all rfl) | with_unfolding_all rfl) | with_unfolding_all rfl) | with_unfolding_all rfl) (by first | (with_reducible assumption) | exact if_pos rfl | (refine Eq.trans (if_neg (by decide +kernel)) ?_; first | (with_reducible assumption) | exact if_pos rfl | (refine Eq.trans (if_neg (by decide +kernel)) ?_; first | (with_reducible assumption) | exact if_pos rfl | (refine Eq.trans (if_neg (by decide +kernel)) ?_; first | (with_reducible assumption) | exact if_pos rfl | (refine Eq.trans (if_neg (by decide +kernel)) ?_; first | (with_reducible assumption) | exact if_pos rfl | (refine Eq.trans (if_neg (by decide +kernel)) ?_; first | (with_reducible assumption) | exact if_pos rfl | (refine Eq.trans (if_neg (by decide +kernel)) ?_; first | assumption | exact if_pos rfl | with_unfolding_all rfl) | with_unfolding_all rfl) | with_unfolding_all rfl) | with_unfolding_all rfl) | with_unfolding_all rfl) | with_unfolding_all rfl) | with_unfolding_all rfl) (by assumption) (by omega)
    | exact w3_join (by with_reducible assumption) (by with_reducible assumption) (by first | (with_reducible assumption) | exact if_pos rfl | (refine Eq.trans (if_neg (by decide +kernel)) ?_; first | (with_reducible assumption) | exact if_pos rfl | (refine Eq.trans (if_neg (by decide +kernel)) ?_; first | (with_reducible assumption) | exact if_pos rfl | (refine Eq.trans (if_neg (by decide +kernel)) ?_; first | (with_reducible assumption) | exact if_pos rfl | (refine Eq.trans (if_neg (by decide +kernel)) ?_; first | (with_reducible assumption) | exact if_pos rfl | (refine Eq.trans (if_neg (by decide +kernel)) ?_; first | (with_reducible assumption) | exact if_pos rfl | (refine Eq.trans (if_neg (by decide +kernel)) ?_; first | assumption | exact if_pos rfl | with_unfolding_all rfl) | with_unfolding_all rfl) | with_unfolding_all rfl) | with_unfolding_all rfl) | with_unfolding_all rfl) | with_unfolding_all rfl) | with_unfolding_all rfl) (by first | (with_reducible assumption) | exact if_pos rfl | (refine Eq.trans (if_neg (by decide +kernel)) ?_; first | (with_reducible assumption) | exact if_pos rfl | (refine Eq.trans (if_neg (by decide +kernel)) ?_; first | (with_reducible assumption) | exact if_pos rfl | (refine Eq.trans (if_neg (by decide +kernel)) ?_; first | (with_reducible assumption) | exact if_pos rfl | (refine Eq.trans (if_neg (by decide +kernel)) ?_; first | (with_reducible assumption) | exact if_pos rfl | (refine Eq.trans (if_neg (by decide +kernel)) ?_; first | (with_reducible assumption) | exact if_pos rfl | (refine Eq.trans (if_neg (by decide +kernel)) ?_; first | assumption | exact if_pos rfl | with_unfolding_all rfl) | with_unfolding_all rfl) | with_unfolding_all rfl) | with_unfolding_all rfl) | with_unfolding_all rfl) | with_unfolding_all rfl) | with_unfolding_all rfl) (by first | (with_reducible assumption) | exact if_pos rfl | (refine Eq.trans (if_neg (by decide +kernel)) ?_; first | (with_reducible assumption) | exact if_pos rfl | (refine Eq.trans (if_neg (by decide +kernel)) ?_; first | (with_reducible assumption) | exact if_pos rfl | (refine Eq.trans (if_neg (by decide +kernel)) ?_; first | (with_reducible assumption) | exact if_pos rfl | (refine Eq.trans (if_neg (by decide +kernel)) ?_; first | (with_reducible assumption) | exact if_pos rfl | (refine Eq.trans (if_neg (by decide +kernel)) ?_; first | (with_reducible assumption) | exact if_pos rfl | (refine Eq.trans (if_neg (by decide +kernel)) ?_; first | assumption | exact if_pos rfl | with_unfolding_all rfl) | with_unfolding_all rfl) | with_unfolding_all rfl) | with_unfolding_all rfl) | with_unfolding_all rfl) | with_unfolding_all rfl) | with_unfolding_all rfl) (by omega)
    | exact LoopStepU.intro (by assumption) (cb_drop (by assumption) fun p hp => .tail _ (.tail _ hp)) x9 ⟨rfl, Eq.trans (by first | (with_reducible assumption) | exact if_pos rfl | (refine Eq.trans (if_neg (by decide +kernel)) ?_; first | (with_reducible assumption) | exact if_pos rfl | (refine Eq.trans (if_neg (by decide +kernel)) ?_; first | (with_reducible assumption) | exact if_pos rfl | (refine Eq.trans (if_neg (by decide +kernel)) ?_; first | (with_reducible assumption) | exact if_pos rfl | (refine Eq.trans (if_neg (by decide +kernel)) ?_; first | (with_reducible assumption) | exact if_pos rfl | (refine Eq.trans (if_neg (by decide +kernel)) ?_; first | (with_reducible assumption) | exact if_pos rfl | (refine Eq.trans (if_neg (by decide +kernel)) ?_; first | assumption | exact if_pos rfl | with_unfolding_all rfl) | with_unfolding_all rfl) | with_unfolding_all rfl) | with_unfolding_all rfl) | with_unfolding_all rfl) | with_unfolding_all rfl) | with_unfolding_all rfl) w7.symm, Eq.trans (by first | (with_reducible assumption) | exact if_pos rfl | (refine Eq.trans (if_neg (by decide +kernel)) ?_; first | (with_reducible assumption) | exact if_pos rfl | (refine Eq.trans (if_neg (by decide +kernel)) ?_; first | (with_reducible assumption) | exact if_pos rfl | (refine Eq.trans (if_neg (by decide +kernel)) ?_; first | (with_reducible assumption) | exact if_pos rfl | (refine Eq.trans (if_neg (by decide +kernel)) ?_; first | (with_reducible assumption) | exact if_pos rfl | (refine Eq.trans (if_neg (by decide +kernel)) ?_; first | (with_reducible assumption) | exact if_pos rfl | (refine Eq.trans (if_neg (by decide +kernel)) ?_; first | assumption | exact if_pos rfl | with_unfolding_all rfl) | with_unfolding_all rfl) | with_unfolding_all rfl) | with_unfolding_all rfl) | with_unfolding_all rfl) | with_unfolding_all rfl) | with_unfolding_all rfl) f7.symm⟩
    | (refine hq9 _ _ ?_; k_steps; done)

end Mine
theorem PySem.Challenge.cw_nz0311_01_holds : PySem.Challenge.rw_nz0311_01.Holds :=
  Mine.law_all

