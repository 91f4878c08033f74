import PyProof.Rows.All
import Wide.All
import OpenK.AllK
import Wide.FinOn
import PySem.Challenge.RW_nz0317_01

section
open PySem PySem.W PyProof.Rows
set_option Elab.async false
set_option maxRecDepth 100000
namespace Mine
/- The head compiles to 79 MB, nearly all of it equations that the library's speed-up lays for the largest constants (quadratic in their width). A name that stands already is passed over: these rows let the kernel read those constants as they are. -/
def plainC : Str := Str.ofString "a"
theorem plainC_eq : plainC = plainC := rfl
name_quick tw9281505961123710691 for plainC by plainC_eq
name_quick tw8075568018651887793 for plainC by plainC_eq
name_quick tw8516911021179611081 for plainC by plainC_eq
name_quick tw5752458178927563391 for plainC by plainC_eq
name_quick tw11338058730775890440 for plainC by plainC_eq
name_quick tw3435035524344395430 for plainC by plainC_eq
name_quick tw947111536369973478 for plainC by plainC_eq
name_quick tw970078002132370370 for plainC by plainC_eq
name_quick tw425412329055275883 for plainC by plainC_eq
name_quick tw16317912014791525384 for plainC by plainC_eq
name_quick tw383478444716035976 for plainC by plainC_eq
name_quick tw14979626087600564940 for plainC by plainC_eq
name_quick tw149229942828012714 for plainC by plainC_eq
name_quick tw14127431949159616355 for plainC by plainC_eq
name_quick tw9059911441173222669 for plainC by plainC_eq
name_quick tw2502411970723609615 for plainC by plainC_eq
name_quick tw8488268690174267210 for plainC by plainC_eq
name_quick tw14778209649434054790 for plainC by plainC_eq
name_quick tw4978915544186085027 for plainC by plainC_eq
name_quick tw6792406925840432001 for plainC by plainC_eq
name_quick tw3577408171920636059 for plainC by plainC_eq
name_quick tw14091826243799074199 for plainC by plainC_eq
name_quick tw6242409422312979302 for plainC by plainC_eq
name_quick tw12945968074294007009 for plainC by plainC_eq
name_quick tw14323765505736481980 for plainC by plainC_eq
name_quick tw3619232141914619222 for plainC by plainC_eq
name_quick tw8658103293671471659 for plainC by plainC_eq
name_quick tw17863021456227041891 for plainC by plainC_eq
name_quick tw5758256569797452207 for plainC by plainC_eq
name_quick tw15542503528162795033 for plainC by plainC_eq
name_quick tw5823794197072137003 for plainC by plainC_eq
name_quick tw3118938333895590913 for plainC by plainC_eq
name_quick tw6363645014702824404 for plainC by plainC_eq
name_quick tw17026713947507217902 for plainC by plainC_eq
name_quick tw16176465441171805009 for plainC by plainC_eq
name_quick tw505943868828395459 for plainC by plainC_eq
name_quick tw11939915149646268982 for plainC by plainC_eq
name_quick tw1706496860858754268 for plainC by plainC_eq
name_quick tw2364824441312284604 for plainC by plainC_eq
name_quick tw136631920214876835 for plainC by plainC_eq
name_quick tw2193789692954389824 for plainC by plainC_eq
name_quick tw16593013826814733010 for plainC by plainC_eq
name_quick tw7094674258960923220 for plainC by plainC_eq
name_quick tw3131671291697673992 for plainC by plainC_eq
name_quick tw13236226663087606529 for plainC by plainC_eq
name_quick tw2169543709445408213 for plainC by plainC_eq
name_quick tw7140130562030077042 for plainC by plainC_eq
name_quick tw14973007898608030118 for plainC by plainC_eq
name_quick tw6250672158363226905 for plainC by plainC_eq
name_quick tw7469732015759309437 for plainC by plainC_eq
name_quick tw12182807814244774211 for plainC by plainC_eq
name_quick tw10379131730601215995 for plainC by plainC_eq
name_quick tw470574548607681690 for plainC by plainC_eq
name_quick tw2478078296215019888 for plainC by plainC_eq
name_quick tw15900120412870309639 for plainC by plainC_eq
name_quick tw16417370028952169744 for plainC by plainC_eq
name_quick tw10029231156530900338 for plainC by plainC_eq
name_quick tw4071324889030633612 for plainC by plainC_eq
name_quick tw5345256250457102556 for plainC by plainC_eq
name_quick tw9626621113073979434 for plainC by plainC_eq
name_quick tw17111948838632640456 for plainC by plainC_eq
name_quick tw12945451867199242903 for plainC by plainC_eq
name_quick tw757081541053455785 for plainC by plainC_eq
name_quick tw8098380416015320538 for plainC by plainC_eq
name_quick tw13335737130258781183 for plainC by plainC_eq
name_quick tw12393455550290869266 for plainC by plainC_eq
name_quick tw10887116778572429059 for plainC by plainC_eq
name_quick tw17352973434858128600 for plainC by plainC_eq
name_quick tw4039474712603431140 for plainC by plainC_eq
name_quick tw5862295025349918931 for plainC by plainC_eq
name_quick tw1218959903707654005 for plainC by plainC_eq
name_quick tw282004115355043989 for plainC by plainC_eq
name_quick tw9787396351842916947 for plainC by plainC_eq
name_quick tw11636919720809706868 for plainC by plainC_eq
name_quick tw9396933662098498411 for plainC by plainC_eq
name_quick tw4292500188555128830 for plainC by plainC_eq
name_quick tw383695940523520267 for plainC by plainC_eq
name_quick tw266219710123235626 for plainC by plainC_eq
name_quick tw1617757218408452269 for plainC by plainC_eq
name_quick tw7585139358526817783 for plainC by plainC_eq
name_quick tw1763209079605825380 for plainC by plainC_eq
name_quick tw11161088081135249708 for plainC by plainC_eq
name_quick tw16350708796919097252 for plainC by plainC_eq
name_quick tw12898947447245864913 for plainC by plainC_eq
name_quick tw4405960384096086239 for plainC by plainC_eq
name_quick tw6550987210724342151 for plainC by plainC_eq
name_quick tw11519604305632133818 for plainC by plainC_eq
name_quick tw11817470609975844035 for plainC by plainC_eq
name_quick tw16942194440817826258 for plainC by plainC_eq
name_quick tw12635813782599140982 for plainC by plainC_eq
name_quick tw3470799630455053000 for plainC by plainC_eq
name_quick tw13145125596335152023 for plainC by plainC_eq
name_quick tw973662469405803806 for plainC by plainC_eq
name_quick tw2902314222560053993 for plainC by plainC_eq
name_quick tw14311459727803291754 for plainC by plainC_eq
name_quick tw4748654258956052638 for plainC by plainC_eq
name_quick tw3436264866546951355 for plainC by plainC_eq
name_quick tw6909570525239066004 for plainC by plainC_eq
name_quick tw17274371674624000324 for plainC by plainC_eq
name_quick tw8119918657739134586 for plainC by plainC_eq
name_quick tw3442601649717412197 for plainC by plainC_eq
name_quick tw1503297043503765363 for plainC by plainC_eq
name_quick tw15376083050721069600 for plainC by plainC_eq
name_quick tw17888162413812561239 for plainC by plainC_eq
name_quick tw2401699919119007470 for plainC by plainC_eq
name_quick tw4549333791460862111 for plainC by plainC_eq
name_quick tw13512673800721320934 for plainC by plainC_eq
name_quick tw7401281599722004195 for plainC by plainC_eq
name_quick tw1370275717833778536 for plainC by plainC_eq
name_quick tw17532718790514356516 for plainC by plainC_eq
name_quick tw6662432510661729299 for plainC by plainC_eq
name_quick tw7286323032743288035 for plainC by plainC_eq
name_quick tw11625766737575182897 for plainC by plainC_eq
name_quick tw5732905514179830355 for plainC by plainC_eq
name_quick tw18345786424863182364 for plainC by plainC_eq
name_quick tw16643379632663270332 for plainC by plainC_eq
name_quick tw12850107946570832962 for plainC by plainC_eq
name_quick tw7483462131439158144 for plainC by plainC_eq
name_quick tw10015664371746657536 for plainC by plainC_eq
name_quick tw16697116713213952808 for plainC by plainC_eq
name_quick tw7323676302269181137 for plainC by plainC_eq
name_quick tw6722154040420286063 for plainC by plainC_eq
name_quick tw10323183001455561277 for plainC by plainC_eq
name_quick tw12450158673883907302 for plainC by plainC_eq
name_quick tw2460228577881660442 for plainC by plainC_eq
name_quick tw10424941004445345732 for plainC by plainC_eq
name_quick tw13789449189825218787 for plainC by plainC_eq
name_quick tw15034313371233782410 for plainC by plainC_eq
name_quick tw7581352650102555174 for plainC by plainC_eq
name_quick tw5189142188285759775 for plainC by plainC_eq
name_quick tw3766158894648301139 for plainC by plainC_eq
name_quick tw11863081143760314161 for plainC by plainC_eq
name_quick tw3039592710220408265 for plainC by plainC_eq
name_quick tw6090905460779295987 for plainC by plainC_eq
name_quick tw951843321253372498 for plainC by plainC_eq
name_quick tw1055568401681811165 for plainC by plainC_eq
name_quick tw9458956999447867950 for plainC by plainC_eq
name_quick tw10314498396905981064 for plainC by plainC_eq
name_quick tw6380047634161181297 for plainC by plainC_eq
name_quick tw4552823106982906706 for plainC by plainC_eq
name_quick tw5706481520468235054 for plainC by plainC_eq
name_quick tw7365555872484859036 for plainC by plainC_eq
name_quick tw13615603153576403970 for plainC by plainC_eq
name_quick tw10528696920762540405 for plainC by plainC_eq
name_quick tw7802139600951554647 for plainC by plainC_eq
name_quick tw6019396324639902685 for plainC by plainC_eq
name_quick tw6654550962395885724 for plainC by plainC_eq
name_quick tw11838138170533393997 for plainC by plainC_eq
name_quick tw10073347824450446311 for plainC by plainC_eq
name_quick tw5976474108018559520 for plainC by plainC_eq
name_quick tw4904739604578439355 for plainC by plainC_eq
name_quick tw18101931140130867144 for plainC by plainC_eq
name_quick tw14023627001141898710 for plainC by plainC_eq
name_quick tw5697894365363955025 for plainC by plainC_eq
name_quick tw14326252917377295143 for plainC by plainC_eq
name_quick tw18260038339965228139 for plainC by plainC_eq
name_quick tw7619357645376055252 for plainC by plainC_eq
name_quick tw5200128776193632040 for plainC by plainC_eq
name_quick tw12371321757623732685 for plainC by plainC_eq
name_quick tw9674257727999782656 for plainC by plainC_eq
name_quick tw183835017167291270 for plainC by plainC_eq
name_quick tw16432479971616331241 for plainC by plainC_eq
name_quick tw13002492023102617099 for plainC by plainC_eq
name_quick tw5076957145309523181 for plainC by plainC_eq
name_quick tw3386650904741475044 for plainC by plainC_eq
name_quick tw8376441433122354887 for plainC by plainC_eq
name_quick tw17975652961387846372 for plainC by plainC_eq
name_quick tw15980859228951719591 for plainC by plainC_eq
name_quick tw16049961110935095269 for plainC by plainC_eq
name_quick tw1092655722715705105 for plainC by plainC_eq
name_quick tw9931943479562821362 for plainC by plainC_eq
name_quick tw15112985482279097393 for plainC by plainC_eq
name_quick tw6059929106960060952 for plainC by plainC_eq
name_quick tw14553827428707814869 for plainC by plainC_eq
name_quick tw11270796479367742343 for plainC by plainC_eq
name_quick tw8537084889766193716 for plainC by plainC_eq
name_quick tw17280976486791472633 for plainC by plainC_eq
name_quick tw3152983702415266003 for plainC by plainC_eq
name_quick tw9467589175468403638 for plainC by plainC_eq
name_quick tw17476080006546285661 for plainC by plainC_eq
name_quick tw18056578402003937789 for plainC by plainC_eq
name_quick tw11853533878840232495 for plainC by plainC_eq
name_quick tw14530364306720264245 for plainC by plainC_eq
name_quick tw9236875199018929784 for plainC by plainC_eq
name_quick tw11543547407058413889 for plainC by plainC_eq
name_quick tw1735497430108182060 for plainC by plainC_eq
name_quick tw15823609455315575823 for plainC by plainC_eq
name_quick tw14112274594779413971 for plainC by plainC_eq
name_quick tw6148621092414575339 for plainC by plainC_eq
name_quick tw17730428716208468724 for plainC by plainC_eq
name_quick tw16018607276475445134 for plainC by plainC_eq
name_quick tw11420187438672877268 for plainC by plainC_eq
name_quick tw18220123701641295943 for plainC by plainC_eq
name_quick tw1414301608579184545 for plainC by plainC_eq
name_quick tw151948405760981731 for plainC by plainC_eq
name_quick tw3282434896037501709 for plainC by plainC_eq
name_quick tw6679490504615227074 for plainC by plainC_eq
name_quick tw7275051467321613617 for plainC by plainC_eq
name_quick tw1702518465993881591 for plainC by plainC_eq
name_quick tw4319705520415482375 for plainC by plainC_eq
name_quick tw12825359941727978080 for plainC by plainC_eq
name_quick tw1962928258387122110 for plainC by plainC_eq
name_quick tw716658179208862652 for plainC by plainC_eq
name_quick tw8224813933742928703 for plainC by plainC_eq
name_quick tw704327219915372674 for plainC by plainC_eq
name_quick tw9800571698397750058 for plainC by plainC_eq
name_quick tw16979880578912567463 for plainC by plainC_eq
name_quick tw189603312586018693 for plainC by plainC_eq
name_quick tw13642483538084851733 for plainC by plainC_eq
name_quick tw11445135464325071761 for plainC by plainC_eq
name_quick tw17001327861769816259 for plainC by plainC_eq
name_quick tw16947794391021106201 for plainC by plainC_eq
name_quick tw12392613427281201732 for plainC by plainC_eq
name_quick tw7581816359482902497 for plainC by plainC_eq
name_quick tw3209381107111851631 for plainC by plainC_eq
name_quick tw6711915476519705758 for plainC by plainC_eq
name_quick tw3820604794100220378 for plainC by plainC_eq
name_quick tw13526986893379352335 for plainC by plainC_eq
name_quick tw16741492637210864865 for plainC by plainC_eq
name_quick tw878741703135273975 for plainC by plainC_eq
name_quick tw8450942572126056277 for plainC by plainC_eq
name_quick tw219737044198020058 for plainC by plainC_eq
name_quick tw8708707556590381134 for plainC by plainC_eq
name_quick tw2599325451414397859 for plainC by plainC_eq
name_quick tw16296994325663420285 for plainC by plainC_eq
name_quick tw7504490480230193789 for plainC by plainC_eq
name_quick tw14073706353221006472 for plainC by plainC_eq
name_quick tw1156252341971683116 for plainC by plainC_eq
name_quick tw8989982439271903415 for plainC by plainC_eq
name_quick tw441327347791068078 for plainC by plainC_eq
name_quick tw18416463498863911781 for plainC by plainC_eq
name_quick tw8032284361305108907 for plainC by plainC_eq
name_quick tw16494616584097029746 for plainC by plainC_eq
name_quick tw16439824349840649037 for plainC by plainC_eq
name_quick tw12813236842856870187 for plainC by plainC_eq
name_quick tw16655555454665732581 for plainC by plainC_eq
name_quick tw18350330562280901221 for plainC by plainC_eq
name_quick tw13915792640404377917 for plainC by plainC_eq
name_quick tw8400853705098224536 for plainC by plainC_eq
name_quick tw667198328695590252 for plainC by plainC_eq
name_quick tw16792545251062261874 for plainC by plainC_eq
name_quick tw6004533443673955352 for plainC by plainC_eq
name_quick tw11186114360453789277 for plainC by plainC_eq
name_quick tw13678640442995254988 for plainC by plainC_eq
name_quick tw2958062672499776758 for plainC by plainC_eq
name_quick tw6929956602132211858 for plainC by plainC_eq
name_quick tw16846860572762119324 for plainC by plainC_eq
name_quick tw5068434257544371817 for plainC by plainC_eq
name_quick tw1402947280878808549 for plainC by plainC_eq
name_quick tw16145008321745377990 for plainC by plainC_eq
name_quick tw2627984346626558326 for plainC by plainC_eq
name_quick tw3560238982266916124 for plainC by plainC_eq
name_quick tw17774800907425398282 for plainC by plainC_eq
name_quick tw17344680358763864322 for plainC by plainC_eq
name_quick tw7392212959928792091 for plainC by plainC_eq
name_quick tw4658958612460137192 for plainC by plainC_eq
name_quick tw6683783046931543321 for plainC by plainC_eq
name_quick tw13559156169165276386 for plainC by plainC_eq
name_quick tw17164873540382356111 for plainC by plainC_eq
name_quick tw14305139224198610471 for plainC by plainC_eq
name_quick tw9673203406766833760 for plainC by plainC_eq
name_quick tw17913803186225011329 for plainC by plainC_eq
name_quick tw10487160056961263569 for plainC by plainC_eq
name_quick tw14971970265804392439 for plainC by plainC_eq
name_quick tw4527066259768149269 for plainC by plainC_eq
name_quick tw16349804527192203551 for plainC by plainC_eq
name_quick tw7250012664060256230 for plainC by plainC_eq
name_quick tw14223099787259518943 for plainC by plainC_eq
name_quick tw930746551332336609 for plainC by plainC_eq
name_quick tw15894407043143930727 for plainC by plainC_eq
name_quick tw17827458813498177553 for plainC by plainC_eq
name_quick tw17765544955259793912 for plainC by plainC_eq
name_quick tw16414604833108395602 for plainC by plainC_eq
name_quick tw5349121933718820234 for plainC by plainC_eq
name_quick tw10833955939284561965 for plainC by plainC_eq
name_quick tw16817318245366136608 for plainC by plainC_eq
name_quick tw12233582284571471492 for plainC by plainC_eq
name_quick tw10352308551163946355 for plainC by plainC_eq
name_quick tw2862820112641550484 for plainC by plainC_eq
name_quick tw8860024209350480642 for plainC by plainC_eq
name_quick tw17000458434675057986 for plainC by plainC_eq
name_quick tw11462045893675790159 for plainC by plainC_eq
name_quick tw2948108419219029167 for plainC by plainC_eq
name_quick tw8579058602437062094 for plainC by plainC_eq
name_quick tw7397068168572129948 for plainC by plainC_eq
name_quick tw16531745337717519161 for plainC by plainC_eq
name_quick tw5978237884098788730 for plainC by plainC_eq
name_quick tw17672482021469178181 for plainC by plainC_eq
name_quick tw15195428891847259777 for plainC by plainC_eq
name_quick tw11452132507678324671 for plainC by plainC_eq
name_quick tw3362959441861295915 for plainC by plainC_eq
name_quick tw2315820567201803617 for plainC by plainC_eq
name_quick tw2039238271031011813 for plainC by plainC_eq
name_quick tw7276740287692124622 for plainC by plainC_eq
name_quick tw3093977132361051618 for plainC by plainC_eq
name_quick tw8253183596043897158 for plainC by plainC_eq
name_quick tw347637069881736656 for plainC by plainC_eq
name_quick tw6967401301877209104 for plainC by plainC_eq
name_quick tw13254397897704925713 for plainC by plainC_eq
name_quick tw8017206721242287953 for plainC by plainC_eq
name_quick tw6434265647005701932 for plainC by plainC_eq
name_quick tw1139862187096482527 for plainC by plainC_eq
name_quick tw13200701876752130231 for plainC by plainC_eq
name_quick tw325292655437039998 for plainC by plainC_eq
name_quick tw9300948228871686676 for plainC by plainC_eq
name_quick tw13912434898499826684 for plainC by plainC_eq
name_quick tw856264945809894966 for plainC by plainC_eq
name_quick tw9691624938235723451 for plainC by plainC_eq
name_quick tw5357591511691535388 for plainC by plainC_eq
name_quick tw6589095468515690095 for plainC by plainC_eq
name_quick tw16180582048198870337 for plainC by plainC_eq
name_quick tw17988542015724977305 for plainC by plainC_eq
name_quick tw6135381517318000843 for plainC by plainC_eq
name_quick tw11566699232636054958 for plainC by plainC_eq
name_quick tw7299951869573292228 for plainC by plainC_eq
name_quick tw2334299552400917057 for plainC by plainC_eq
name_quick tw8047484207015712433 for plainC by plainC_eq
name_quick tw15806122291839087668 for plainC by plainC_eq
name_quick tw3094477031063562474 for plainC by plainC_eq
name_quick tw2670528217467546775 for plainC by plainC_eq
name_quick tw17517737089405305841 for plainC by plainC_eq
name_quick tw3315324234476444515 for plainC by plainC_eq
name_quick tw5032809538720368765 for plainC by plainC_eq
name_quick tw8424611434330503625 for plainC by plainC_eq
name_quick tw6426273055680023932 for plainC by plainC_eq
name_quick tw460243522976405022 for plainC by plainC_eq
name_quick tw15560853006256673968 for plainC by plainC_eq
name_quick tw14126943448341045398 for plainC by plainC_eq
name_quick tw14714103240675001986 for plainC by plainC_eq
name_quick tw10010936943081839664 for plainC by plainC_eq
name_quick tw17069979004554194336 for plainC by plainC_eq
name_quick tw4090926877573551719 for plainC by plainC_eq
name_quick tw7198390536060210744 for plainC by plainC_eq
name_quick tw12835720964997663042 for plainC by plainC_eq
name_quick tw12821735335276811757 for plainC by plainC_eq
name_quick tw2408619945344806742 for plainC by plainC_eq
name_quick tw10948738476641704880 for plainC by plainC_eq
name_quick tw1886563365779066154 for plainC by plainC_eq
name_quick tw17018628822417861297 for plainC by plainC_eq
name_quick tw13215998728584607739 for plainC by plainC_eq
set_option maxHeartbeats 8000000 in
open_top hd for PySem.Challenge.rw_nz0317_01
end Mine
end

section
open PySem PySem.W PySem.Spec PySem.Calls PyProof.Rows
set_option Elab.async false
set_option maxRecDepth 100000
namespace Mine

/-- what stands when `led` is hidden -/
abbrev gOf (h : Heap) (led : List (Addr × Obj)) : Heap := hideAll h (led.map (·.1))

/-- a def's contract: called with `vs` where the ledger holds `led` and Pre holds of the rest, it gives a value and another ledger by R -/
def Tells (w : World) (f : Addr) (need : Nat) (vs : List Value) (led : List (Addr × Obj)) (Pre : Heap → Prop) (R : Value → List (Addr × Obj) → Prop) : Prop :=
  ∀ (mean : ExcName → Option Value) (mg mb : Str → Option Value) (dp un : Nat) (gd : Option (List Code)) (cn : Str) (cs : Scope) (a : Addr) (ccd : Value) (cl : List (Str × Addr)) (outer : List Env)
    (A₀ : Around) (base h₀ : Heap) (L : Addr) (m : Str → Option Value) (s : Shared) (P : Result → Shared → Prop),
    Below A₀ base outer h₀ → Fr h₀ L s.heap m → (hd.heap_39 w.params).In h₀ → News h₀ L s.heap led → Top hd.view_39 (looseW hd.view_39 [Str.ofString "PostError"]) mean mg mb h₀ → cs.kind = .function →
    Pre (gOf s.heap led) → dp + need < recursionLimit → un + 8 * need < cLine →
    (∀ v led' h' tk', R v led' → Fr h₀ L h' m → (gOf s.heap led).StaysIn h' → News (gOf s.heap led) L h' led' → P (.ok (.ret v)) { s with heap := h', toks := tk' }) →
    codeAny (model Challenge.rw_nz0317_01.row.prog w) (ktrTop dp un gd cn cs L a ccd cl outer) (.call (.ref f) ⟨vs, []⟩) P s

/-- a body's end -/
def Done (g : Heap) (L : Addr) (R : Value → List (Addr × Obj) → Prop) (s : Shared) (fl : Flow) (s' : Shared) : Prop :=
  ∃ m' led' h' tk', s' = { s with heap := h', toks := tk' } ∧ Fr g L h' m' ∧ News g L h' led' ∧ R (match fl with | .ret v => v | _ => .none) led'

theorem Done.intro {g : Heap} {L : Addr} {R : Value → List (Addr × Obj) → Prop} {s : Shared} {fl : Flow} {m' : Str → Option Value} {led' : List (Addr × Obj)} {h' : Heap} {tk' : Nat}
    (F : Fr g L h' m') (N : News g L h' led') (hR : R (match fl with | .ret v => v | _ => .none) led') : Done g L R s fl { s with heap := h', toks := tk' } :=
  ⟨m', led', h', tk', rfl, F, N, hR⟩

theorem news_sub {h₀ h : Heap} {L : Addr} {l l' : List (Addr × Obj)} (N : News h₀ L h l) (hs : ∀ p ∈ l', p ∈ l) : News h₀ L h l' := fun p hp => N p (hs p hp)

/-- a def's contract by the walk of its body -/
theorem tells_def {w : World} {f : Addr} {n : Nat} {vs : List Value} {led : List (Addr × Obj)} {Pre : Heap → Prop} {R : Value → List (Addr × Obj) → Prop}
    {name qual : Str} {params : Arguments} {body : List Stmt} {scope : Scope} {dV kV doc pm cdv ct oc : Value} {an od : Option Addr} {osl : Array (Option Value)} {binds : List (Str × Value)}
    (ho : (hd.heap_39 w.params).lookup f = some ⟨oc, od, .func (fnOf name qual params body scope dV kV doc pm an cdv ct), osl⟩) (hcd : codeIn (hd.heap_39 w.params) cdv qual = true)
    (hbind : ∀ s : Shared, (hd.heap_39 w.params).In s.heap → BindsTo s (fnOf name qual params body scope dV kV doc pm an cdv ct) ⟨vs, []⟩ binds) (hloc : ∀ y ∈ binds, scope.names.lookup y.1 = some .local)
    (hco : scope.isCoroutine = false) (hgen : scope.isGenerator = false) (hk : scope.kind = .function) (hcell : ∀ x ∈ scope.names, x.2 ≠ .cell)
    (h : ∀ (mean : ExcName → Option Value) (mg mb : Str → Option Value) (dp un : Nat) (gd : Option (List Code)) (outer : List Env) (A₀ : Around) (base g : Heap) (L : Addr) (s : Shared),
      Below A₀ base outer g → Fr g L s.heap (fun y => binds.reverse.lookup y) → (hd.heap_39 w.params).In g → News g L s.heap led → Top hd.view_39 (looseW hd.view_39 [Str.ofString "PostError"]) mean mg mb g →
      Pre g → dp + n < recursionLimit → un + 8 * n < cLine →
      wpAny (model Challenge.rw_nz0317_01.row.prog w) (ktrTop dp un gd qual scope L f cdv [] outer) (execs body (envOf qual scope L f cdv)) (Done g L R s) (fun _ _ => False) s) : Tells w f (n + 1) vs led Pre R := by
  intro mean mg mb dp un gd cn cs a ccd cl outer A₀ base h₀ L m s P B F X N T hcs hpre hd hu ret
  obtain ⟨FG, BG, st, _⟩ := groundX (A := ktrTop dp un gd cn cs L a ccd cl outer) (env := envX cn cs L a ccd cl) (R := fun _ _ => True) B F N rfl rfl hcs
  refine codeAny_call_def (fd := fnOf name qual params body scope dV kV doc pm an cdv ct) (body := body) (binds := binds) (by show dp < _; omega) (X.keeps F.keep _ _ ho) rfl (T.nolimit.keeps F.keep) (codeRec_of (X.keeps F.keep) hcd) rfl (hbind s (X.keeps F.keep)) hcell hloc (fun h₁ hns hk₁ => ?_) hco hgen hk
  have FL : Fr (gOf s.heap led) s.heap.objs.size h₁ (fun x => binds.reverse.lookup x) := ⟨hns, fun b o e => hk₁ b o (of_hideAll _ e), Nat.le_of_eq (hideAll_size _ _)⟩
  have NL : News (gOf s.heap led) s.heap.objs.size h₁ led := fun p hp => ⟨hk₁ _ _ (N p hp).1, Nat.ne_of_lt (Heap.lt_size (N p hp).1), hideAll_none _ (List.mem_map_of_mem hp)⟩
  have W := h mean mg mb (dp + 1) (un + 3) gd (envX cn cs L a ccd cl :: outer) _ base (gOf s.heap led) s.heap.objs.size { s with heap := h₁, toks := s.toks + binds.length } BG FL (X.keeps st) NL (T.keeps st) hpre (by omega) (by omega)
  refine wpAny_mono W (fun fl s' hd => ?_) fun _ _ x => x.elim
  obtain ⟨m', led', h', tk', rfl, F', N', hR⟩ := hd
  obtain ⟨oL, es, ep, hL, hLd, hLk, hLf⟩ := FG.ns
  refine ret _ led' h' tk' hR ⟨⟨oL, es, ep, F'.keep L oL hL, hLd, hLk, hLf⟩, fun b o e => F'.keep b o (st b o e), F.above⟩ F'.keep fun p hp => ⟨(N' p hp).1, fun q => ?_, (N' p hp).2.2⟩
  have := (N' p hp).2.2
  rw [q, hL] at this; cases this

section
variable {w : World} {f : Addr} {need : Nat} {vs : List Value} {mean : ExcName → Option Value} {mg mb : Str → Option Value} {dp un : Nat} {gd : Option (List Code)} {cn : Str} {cs : Scope} {a : Addr} {ccd : Value} {cl : List (Str × Addr)} {outer : List Env}
    {A₀ : Around} {base h₀ : Heap} {L : Addr} {m : Str → Option Value} {s : Shared} {news : List (Addr × Obj)}

/-- News over the hidden heap is News over the frame's own -/
theorem news_back {led l : List (Addr × Obj)} {h h' : Heap} (F : Fr h₀ L h m) (N : News h₀ L h led) (N' : News (gOf h led) L h' l) : News h₀ L h' l := fun p hp => by
  refine ⟨(N' p hp).1, (N' p hp).2.1, ?_⟩
  cases q : h₀.get? p.1 with
  | none => rfl
  | some o =>
    have h1 := hideAll_get (led.map (·.1)) (F.keep _ _ q) fun hm => by
      obtain ⟨p', hp', e⟩ := List.mem_map.mp hm
      have := (N p' hp').2.2
      rw [e, q] at this; cases this
    rw [(N' p hp).2.2] at h1; cases h1

/-- a call that changes nothing that stood: it may make new things -/
theorem Tells.ro {Pre : Heap → Prop} {Rv : Value → List (Addr × Obj) → Prop} {P : Result → Shared → Prop} (C : Tells w f need vs [] Pre Rv)
    (B : Below A₀ base outer h₀) (F : Fr h₀ L s.heap m) (X : (hd.heap_39 w.params).In h₀) (N : News h₀ L s.heap news) (T : Top hd.view_39 (looseW hd.view_39 [Str.ofString "PostError"]) mean mg mb h₀) (hk : cs.kind = .function)
    (hp : Pre s.heap) (hd : dp + need < recursionLimit) (hu : un + 8 * need < cLine)
    (ret : ∀ v new h' tk', Rv v new → Fr h₀ L h' m → News h₀ L h' (new ++ news) → (∀ p ∈ new, ∀ q ∈ news, p.1 ≠ q.1) → P (.ok (.ret v)) { s with heap := h', toks := tk' }) :
    codeAny (model Challenge.rw_nz0317_01.row.prog w) (ktrTop dp un gd cn cs L a ccd cl outer) (.call (.ref f) ⟨vs, []⟩) P s := by
  have NL : News h₀ L s.heap [] := News.nil
  refine C _ _ _ _ _ _ _ _ _ _ _ _ _ _ _ _ _ _ _ B F X NL T hk hp hd hu ?_
  rintro v led' h' tk' hR F' st N'
  have NB := news_back F NL N'
  have key : ∀ q ∈ news, h'.get? q.1 = some q.2 := fun q hq => st _ _ (N q hq).1
  have ne : ∀ p ∈ led', ∀ q ∈ news, p.1 ≠ q.1 := fun p hp q hq e => by
    have h2 : s.heap.get? p.1 = none := (N' p hp).2.2
    rw [e, (N q hq).1] at h2; cases h2
  refine ret v led' h' tk' hR F' (fun p hp => ?_) ne
  rcases List.mem_append.mp hp with hp | hp
  · exact NB p hp
  · exact ⟨key p hp, (N p hp).2.1, (N p hp).2.2⟩

/-- a call of a method that turns one object's dict, and may make new things -/
theorem Tells.upd {x dx : Addr} {ox D : Obj} {D' : Tok → Obj} {new : Value → List (Addr × Obj) → Prop} {news' : Tok → List (Addr × Obj)} {P : Result → Shared → Prop}
    (C : Tells w f need vs [(x, ox), (dx, D)] (fun _ => True) (fun v l => ∃ nw t, l = nw ++ [(x, ox), (dx, D' t)] ∧ (∀ p ∈ nw, p.1 ≠ x ∧ p.1 ≠ dx) ∧ new v nw))
    (B : Below A₀ base outer h₀) (F : Fr h₀ L s.heap m) (X : (hd.heap_39 w.params).In h₀) (N : News h₀ L s.heap news) (T : Top hd.view_39 (looseW hd.view_39 [Str.ofString "PostError"]) mean mg mb h₀) (hk : cs.kind = .function)
    (hx : (x, ox) ∈ news) (U : ∀ t, Upd dx D (D' t) news (news' t)) (hd : dp + need < recursionLimit) (hu : un + 8 * need < cLine)
    (ret : ∀ v nw t h' tk', new v nw → Fr h₀ L h' m → News h₀ L h' (nw ++ news' t) → (∀ p ∈ nw, ∀ q ∈ news' t, p.1 ≠ q.1) → P (.ok (.ret v)) { s with heap := h', toks := tk' }) :
    codeAny (model Challenge.rw_nz0317_01.row.prog w) (ktrTop dp un gd cn cs L a ccd cl outer) (.call (.ref f) ⟨vs, []⟩) P s := by
  have hdx : (dx, D) ∈ news := by
    obtain ⟨pre, post, e, _⟩ := (U 0).split
    rw [e]; simp
  have NL : News h₀ L s.heap [(x, ox), (dx, D)] := news_sub N fun p hp => by
    rcases List.mem_cons.mp hp with rfl | hp
    · exact hx
    · rw [List.mem_singleton.mp hp]; exact hdx
  refine C _ _ _ _ _ _ _ _ _ _ _ _ _ _ _ _ _ _ _ B F X NL T hk trivial hd hu ?_
  rintro v led' h' tk' ⟨nw, t, rfl, hne, hR⟩ F' st N'
  have NB := news_back F NL N'
  obtain ⟨pre, post, e, e', n1, n2⟩ := (U t).split
  have old : ∀ q ∈ news, q.1 ≠ dx → h'.get? q.1 = some q.2 := fun q hq hqd => by
    by_cases hqx : q.1 = x
    · have h1 := (N q hq).1
      have h2 : s.heap.get? x = some ox := (N _ hx).1
      rw [hqx, h2] at h1
      have h3 : h'.get? x = some ox := (N' (x, ox) (by simp)).1
      rw [hqx, h3]; exact h1
    · refine st _ _ (hideAll_get _ (N q hq).1 ?_)
      simp [hqx, hqd]
  have mem' : ∀ q ∈ news' t, (q = (dx, D' t)) ∨ (q ∈ news ∧ q.1 ≠ dx) := fun q hq => by
    rw [e'] at hq
    rw [e]
    rcases List.mem_append.mp hq with hq | hq
    · exact .inr ⟨List.mem_append_left _ hq, n1 q hq⟩
    · rcases List.mem_cons.mp hq with rfl | hq
      · exact .inl rfl
      · exact .inr ⟨List.mem_append_right _ (.tail _ hq), n2 q hq⟩
  refine ret v nw t h' tk' hR F' (fun p hp => ?_) ?_
  · rcases List.mem_append.mp hp with hp | hp
    · exact NB p (List.mem_append_left _ hp)
    · rcases mem' p hp with rfl | ⟨h1, h2⟩
      · exact NB _ (by simp)
      · exact ⟨old p h1 h2, (N p h1).2⟩
  · intro p hp q hq eq
    rcases mem' q hq with rfl | ⟨h1, h2⟩
    · exact (hne p hp).2 eq
    · by_cases hqx : q.1 = x
      · exact (hne p hp).1 (eq.trans hqx)
      · have h3 := hideAll_get ([(x, ox), (dx, D)].map (·.1)) (N q h1).1 (by simp [hqx, h2])
        have h4 := (N' p (List.mem_append_left _ hp)).2.2
        rw [eq, h3] at h4; cases h4
end
end Mine
end

section
open PySem PySem.W PySem.Spec PySem.Calls PyProof.Rows
set_option Elab.async false
set_option maxRecDepth 100000
namespace Mine
open Builtin in
theorem gives_bytes_contains (b : Array UInt8) (i : Int) (t u : Tok) (h0 : 0 ≤ i) (h1 : i < 256) : Gives («bytes.__contains__» ⟨[.bytes b t, .int i u], []⟩) (.val (.bool (b.contains i.toNat.toUInt8))) := by
  refine .of_wp fun M A E s Q hq => ?_
  show wpAny M A (Bytes.containsIn "bytes.__contains__" (.bytes b t) (.int i u) >>= fun r => ret (.bool r)) _ E s
  refine wpAny_bind ?_
  unfold Bytes.containsIn
  refine wpAny_bind (wpAny_attempt (wpAny_pure ?_))
  rw [KBy.buffer_eq]
  refine wpAny_bind (wpAny_pure ?_)
  show wpAny M A (if (decide (i < 0) || decide (i ≥ 256)) = true then _ else pure _) _ E s
  rw [if_neg (by simp; omega)]
  exact wpAny_pure (wpAny_pure ⟨_, rfl, hq⟩)
theorem in_bytes {prog : Program} {w : World} {A : Around} {E : Value → Shared → Prop} {s : Shared} {b : Array UInt8} {i : Int} {t u : Tok} {Q : Value → Shared → Prop} (h0 : 0 ≤ i) (h1 : i < 256)
    (h : Q (.bool (b.contains i.toNat.toUInt8)) s) : wpAny (model prog w) A (compareOp .In (.int i u) (.bytes b t)) Q E s :=
  in_gives (typeIs_bytes s b t) FB.slot_bytes_contains FB.entry_bytes_contains (FB.args_bytes_contains_2 _ _) (gives_bytes_contains b i t u h0 h1) h
theorem notIn_bytes {prog : Program} {w : World} {A : Around} {E : Value → Shared → Prop} {s : Shared} {b : Array UInt8} {i : Int} {t u : Tok} {Q : Value → Shared → Prop} (h0 : 0 ≤ i) (h1 : i < 256)
    (h : Q (.bool (!(b.contains i.toNat.toUInt8))) s) : wpAny (model prog w) A (compareOp .NotIn (.int i u) (.bytes b t)) Q E s :=
  notIn_gives (typeIs_bytes s b t) FB.slot_bytes_contains FB.entry_bytes_contains (FB.args_bytes_contains_2 _ _) (gives_bytes_contains b i t u h0 h1) h
end Mine
end

section
open PySem PySem.W PySem.Spec PySem.Calls PyProof.Rows
set_option Elab.async false
set_option maxRecDepth 100000
namespace Mine

/-- what pyIter makes of xv: an iterator over n items by P -/
def ItSrc (prog : Program) (w : World) (A : Around) (xv : Value) (s₁ : Shared) (as : List Addr) (n : Nat) (P : Nat → Value → Prop) : Prop :=
  ∀ (Q : Value → Shared → Prop) (E : Value → Shared → Prop),
    (∀ (o : Obj) (St : Nat → Heap → Prop) (fp : List Addr), (∀ b ∈ fp, b = s₁.heap.objs.size ∨ (b ∈ as ∧ b < s₁.heap.objs.size)) → Walks prog w A s₁.heap.objs.size fp [s₁.heap.objs.size] n P St → St 0 (s₁.heap.push o) →
      Q (.ref s₁.heap.objs.size) { s₁ with heap := s₁.heap.push o }) → wpAny (model prog w) A (pyIter xv) Q E s₁

section
variable {prog : Program} {w : World} {A : Around} {s : Shared}
theorem ItSrc.str {x : Str} {t : Tok} (hh : A.handled = none) : ItSrc prog w A (.str x t) s [] x.cps.size (SignAt x) := fun _ _ h =>
  wpAny_pyIter_str fun o St W hst => h o St _ (fun _ hb => .inl (List.mem_singleton.mp hb)) (W A hh) hst
theorem ItSrc.bytes {b : Array UInt8} {t : Tok} (hh : A.handled = none) : ItSrc prog w A (.bytes b t) s [] b.size (fun i v => ∃ c u, b[i]? = some c ∧ v = .int (c.toNat : Int) u) := fun _ _ h =>
  KBw.pyIter_bytes (h _ _ _ (fun _ hb => .inl (List.mem_singleton.mp hb)) (KBw.walks hh _ b t) ⟨_, Heap.get?_push_size _ rfl, rfl, rfl⟩)
theorem ItSrc.list {a : Addr} {its : Array Value} (hh : A.handled = none) (hl : s.heap.IsList a its) : ItSrc prog w A (.ref a) s [a] its.size (fun i v => its[i]? = some v) := fun _ _ h => by
  have hlt : a < s.heap.objs.size := by obtain ⟨_, e, _⟩ := hl; exact Heap.lt_size e
  refine wpAny_pyIter_list hl (h _ _ _ (fun b hb => ?_) (Walks.list hh _ a (Nat.ne_of_lt hlt) its) ⟨⟨_, Heap.get?_push_size _ rfl, rfl, rfl⟩, hl.push _⟩)
  rcases List.mem_cons.mp hb with rfl | hb
  · exact .inl rfl
  · exact .inr ⟨hb, List.mem_singleton.mp hb ▸ hlt⟩
theorem ItSrc.tup {a : Addr} {its : Array Value} (hh : A.handled = none) (hl : s.heap.IsTuple a its) : ItSrc prog w A (.ref a) s [a] its.size (fun i v => its[i]? = some v) := fun _ _ h => by
  have hlt : a < s.heap.objs.size := by obtain ⟨_, e, _⟩ := hl; exact Heap.lt_size e
  refine wpAny_pyIter_tuple hl (h _ _ _ (fun b hb => ?_) (Walks.tuple hh _ a (Nat.ne_of_lt hlt) its) ⟨⟨_, Heap.get?_push_size _ rfl, rfl, rfl⟩, hl.push _⟩)
  rcases List.mem_cons.mp hb with rfl | hb
  · exact .inl rfl
  · exact .inr ⟨hb, List.mem_singleton.mp hb ▸ hlt⟩
theorem ItSrc.range {r : Addr} {a b : Int} {t u v : Tok} {n : Nat} (hh : A.handled = none) (hr : IsRange s.heap r a b 1 t u v) (hsm : Builtin.Range.small a b 1 = true) (hn : Builtin.Range.rangeSize a b 1 = ((n : Nat) : Int)) :
    ItSrc prog w A (.ref r) s [] n (fun i v => ∃ t, v = .int (a + (i : Int)) t) := fun _ _ h => by
  refine wpAny_pyIter_range hr hsm (h _ _ _ (fun _ hb => .inl (List.mem_singleton.mp hb)) (LCg.range_walks hh a n) ?_)
  show IsRangeIter _ _ _ _ _
  rw [hn]; simpa using Heap.get?_push_size _ rfl

variable {E : Value → Shared → Prop} {env : Env} {h₀ : Heap} {L : Addr} {m : Str → Option Value}
/-- the tests of a comprehension's clause -/
abbrev testsOf (ifs : List Expr) (cenv : Env) : Sem Bool := forIn ifs true fun c r => if r = true then do let ok ← isTrue c cenv (eval c cenv); pure (ForInStep.yield ok) else pure (ForInStep.yield r)

/-- a list comprehension whose tests and element keep all that stands -/
theorem comp_keep {elt iter : Expr} {x : Str} {px : Pos} {ifs : List Expr} {scope : Scope} {cl : List (Str × Addr)} {pos : Pos} {Q : Value → Shared → Prop}
    (hclos : closureFor scope env = pure cl) (hcell : ∀ y ∈ scope.names, y.2 ≠ .cell) (hkind : scope.kind = .function)
    (hnames : ∀ y ∈ scope.names, y.2 = .local → scope.names.lookup y.1 = some .local) (hx : scope.names.lookup x = some .local)
    (h : wpAny (model prog w) A (eval iter env) (fun xv s₁ => ∃ news as n P, ∃ (p : Value → Bool) (G : Value → Value → Prop), Fr h₀ L s₁.heap m ∧ News h₀ L s₁.heap news ∧ ItSrc prog w A xv s₁ as n P ∧ n ≤ sizeLine ∧
      (∀ C i v s₂ m₂ (E' : Value → Shared → Prop), P i v → Fr h₀ L s₂.heap m → News h₀ L s₂.heap news → s₂.heap.Ns C m₂ → m₂ x = some v →
        wpAny (model prog w) A (testsOf ifs (compEnvC scope cl C env)) (fun ok s₃ => ok = p v ∧ Keeps s₂ s₃) E' s₂) ∧
      (∀ C i v s₂ m₂ (E' : Value → Shared → Prop), P i v → p v = true → Fr h₀ L s₂.heap m → News h₀ L s₂.heap news → s₂.heap.Ns C m₂ → m₂ x = some v →
        wpAny (model prog w) A (eval elt (compEnvC scope cl C env)) (fun y s₃ => G v y ∧ Keeps s₂ s₃) E' s₂) ∧
      (∀ D nn (vs ys : List Value) h' tk, vs.length = n → (∀ (j : Nat) v, vs[j]? = some v → P j v) → Paired G (vs.filter p) ys → Fr h₀ L h' m → News h₀ L h' ((D, { cls := .type "list", data := .seq ys.toArray nn }) :: news) → (∀ q ∈ news, q.1 ≠ D) →
        Q (.ref D) { s₁ with heap := h', toks := tk })) E s)
    (hs : ∀ x, foldedSetIterable iter env x = pure x := by intro _; rfl) :
    wpAny (model prog w) A (eval (.ListComp elt [⟨.Name x px, iter, ifs, 0⟩] scope pos) env) Q E s := by
  rw [eval_ListComp]
  refine wpAny_comprehension_free (use := none) rfl hs hclos hkind hnames (wpAny_mono h (fun xv s₁ h₁ => ?_) fun _ _ e => e)
  obtain ⟨news, as, n, P, p, G, F, N, src, hsz, htests, helt, hQ⟩ := h₁
  refine src _ _ fun o St fp hfp W hst => ?_
  have up : ∀ (h' : Heap), (∀ b o', b ∉ [s₁.heap.objs.size] → (s₁.heap.push o).get? b = some o' → h'.get? b = some o') → ∀ b o', s₁.heap.get? b = some o' → h'.get? b = some o' :=
    fun h' hk b o' e => hk b o' (old_not_new e) (Heap.get?_push_of_some _ e)
  refine comp_block_walkC (RR := fun acc C => compPost (model prog w) A E none Q acc C) W hsz p G hcell hkind hx hst (fun b hb => ?_) ⟨?_, ?_⟩ ?_
  · show b < (s₁.heap.push o).objs.size
    rw [Heap.size_push]
    rcases hfp b hb with rfl | hb
    · exact Nat.lt_succ_self _
    · exact Nat.lt_succ_of_lt hb.2
  · intro C i v s₃ m₃ E' hC hP hn hm hk htk
    exact htests C i v s₃ m₃ E' hP (F.keeps (up _ hk)) (N.grown (up _ hk)) hn hm
  · intro C i v s₃ m₃ E' hC hP hp hn hm hk htk
    exact helt C i v s₃ m₃ E' hP hp (F.keeps (up _ hk)) (N.grown (up _ hk)) hn hm
  · intro D C h' tk m' ys vs hD hC hDC hn hl hpl hlen hP hF hk
    obtain ⟨nn, hpl⟩ := hpl
    have hD1 : s₁.heap.get? D = none := by
      cases q : s₁.heap.get? D with
      | none => rfl
      | some o' => have := Heap.get?_push_of_some o q; dsimp only at hD; rw [this] at hD; cases hD
    have hC1 : s₁.heap.get? C = none := by
      cases q : s₁.heap.get? C with
      | none => rfl
      | some o' => have := Heap.get?_push_of_some o q; dsimp only at hC; rw [this] at hC; cases hC
    refine ⟨m', hn, fun h'' hs'' => ?_⟩
    have k2 : ∀ b o', s₁.heap.get? b = some o' → h''.get? b = some o' := fun b o' e => hs''.extBut b o' (by rintro rfl; rw [hC1] at e; cases e) (up h' hk b o' e)
    have F2 := F.keeps k2
    have N2 := N.grown k2
    have hDo : h''.get? D = some { cls := .type "list", data := .seq ys nn } := hs''.extBut _ _ hDC hpl
    refine hQ D nn vs ys.toList h'' tk hlen hP hF F2 (fun q hq => ?_) (fun q hq e => ?_)
    · rcases List.mem_cons.mp hq with rfl | hq
      · refine ⟨by simpa using hDo, ?_, ?_⟩
        · rintro rfl
          obtain ⟨oL, _, _, hL, _⟩ := F.ns
          rw [hL] at hD1; cases hD1
        · cases q : h₀.get? D with
          | none => rfl
          | some o' => rw [F.keep _ _ q] at hD1; cases hD1
      · exact N2 q hq
    · have := (N q hq).1
      rw [e, hD1] at this; cases this

/-- a loop's turn comes to its end -/
def ForPost (h₀ : Heap) (L : Addr) (Jn : (Str → Option Value) → List (Addr × Obj) → Prop) (own : List (Addr × Obj)) (I : Addr) (s₁ : Shared) (Q : Flow → Shared → Prop) (f : Flow) (s₂ : Shared) : Prop :=
  match f with
  | .ret v => Q (.ret v) s₂
  | .brk => Q .next s₂
  | _ => ∃ h' tk m' nx', s₂ = { s₁ with heap := h', toks := tk } ∧ Fr h₀ L h' m' ∧ News h₀ L h' (nx' ++ own) ∧ (∀ p ∈ nx', p.1 ≠ I) ∧ Jn m' nx'

theorem for_src {x : Str} {body : List Stmt} {Q : Flow → Shared → Prop} {xv : Value} {as : List Addr} {n : Nat} {P : Nat → Value → Prop} {news : List (Addr × Obj)} {m₀ : Str → Option Value}
    (J : Nat → (Str → Option Value) → List (Addr × Obj) → Prop) (src : ItSrc prog w A xv s as n P) (has : ∀ a ∈ as, (h₀.get? a).isSome)
    (F : Fr h₀ env.locals s.heap m₀) (N : News h₀ env.locals s.heap news) (hJ : J 0 m₀ news)
    (turn : ∀ i v m₁ nx h tk own I, i < n → P i v → J i m₁ nx → (∀ p ∈ own, p.1 = I) → (∀ p ∈ nx, p.1 ≠ I) → Fr h₀ env.locals h (fun y => if y = x then some v else m₁ y) → News h₀ env.locals h (nx ++ own) →
      wpAny (model prog w) A (execs body env) (ForPost h₀ env.locals (J (i + 1)) own I { s with heap := h, toks := tk } Q) E { s with heap := h, toks := tk })
    (done : ∀ m₁ nx h tk, J n m₁ nx → Fr h₀ env.locals h m₁ → News h₀ env.locals h nx → Q .next { s with heap := h, toks := tk }) :
    wpAny (model prog w) A (pyIter xv) (fun it s₂ => LoopAtV prog w A h₀ env x body Q E it s₂) E s := by
  refine src _ _ fun o St fp hfp W hst => ?_
  have hI0 : h₀.get? s.heap.objs.size = none := by
    cases q : h₀.get? s.heap.objs.size with
    | none => rfl
    | some o' => exact absurd (Heap.lt_size (F.keep _ _ q)) (Nat.lt_irrefl _)
  have hLI : env.locals ≠ s.heap.objs.size := Nat.ne_of_lt F.ns.lt
  have hL0 : h₀.get? env.locals = none := Heap.get?_none_of_le F.above
  refine ⟨s.heap.objs.size, fp, [s.heap.objs.size], n, P, St, m₀, news, J, rfl, W, ?_, ?_, ?_, hst, F.push _, fun p hp => ⟨Heap.get?_push_of_some _ (N p hp).1, (N p hp).2⟩, hJ, ?_, ?_⟩
  · intro hm
    rcases hfp _ hm with e | ⟨e, _⟩
    · exact hLI e
    · have := has _ e; rw [hL0] at this; cases this
  · intro b hb
    rw [List.mem_singleton.mp hb]; exact hI0
  · intro p hp hI
    exact absurd (Heap.lt_size (N p hp).1) ((List.mem_singleton.mp hI) ▸ Nat.lt_irrefl _)
  · rintro i v m₁ nx s₁ own ⟨hh', tk', rfl⟩ hin hP hJi hoff hown hat hmem _ F₁ N₁
    have ho : ∀ p ∈ own, p.1 = s.heap.objs.size := fun p hp => by
      rcases hfp _ (hown p hp) with e | ⟨e, _⟩
      · exact e
      · have h1 := has _ e
        have h2 := (N₁ p (List.mem_append_left _ hp)).2.2
        rw [h2] at h1; cases h1
    have N₂ : News h₀ env.locals hh' (nx ++ own) := fun p hp => N₁ p ((List.mem_append.mp hp).elim (fun h => List.mem_append.mpr (.inr h)) fun h => List.mem_append.mpr (.inl h))
    refine wpAny_mono (turn i v m₁ nx hh' tk' own s.heap.objs.size hin hP hJi ho (fun p hp e => hoff p hp (List.mem_singleton.mpr e)) F₁ N₂) (fun f s₂ p => ?_) fun _ _ e => e
    have fin : ∀ {s₂ : Shared}, (∃ h' tk m' nx', s₂ = { s with heap := h', toks := tk } ∧ Fr h₀ env.locals h' m' ∧ News h₀ env.locals h' (nx' ++ own) ∧ (∀ p ∈ nx', p.1 ≠ s.heap.objs.size) ∧ J (i + 1) m' nx') →
        LoopStepU h₀ env.locals [s.heap.objs.size] own (J (i + 1)) { s with heap := hh', toks := tk' } .next s₂ := by
      rintro _ ⟨h', tk, m', nx', rfl, F', N', hn, hm⟩
      exact ⟨rfl, h', tk, m', nx', rfl, F', fun p hp => N' p ((List.mem_append.mp hp).elim (fun h => List.mem_append.mpr (.inr h)) fun h => List.mem_append.mpr (.inl h)), fun p hp hq => hn p hp (List.mem_singleton.mp hq), hm⟩
    cases f with
    | ret v => exact .ret p
    | brk => exact .brk p
    | next => exact .next (fin p)
    | cont => exact .cont (fin p)
  · rintro h' tk m' nx F' N' _ hJn
    exact done m' nx h' tk hJn F' N'
end
/-- the same, and the iterator stands in the heap while it is asked -/
def ItSrcA (prog : Program) (w : World) (A : Around) (xv : Value) (s₁ : Shared) (as : List Addr) (n : Nat) (P : Nat → Value → Prop) : Prop :=
  ∀ (Q : Value → Shared → Prop) (E : Value → Shared → Prop),
    (∀ (o : Obj) (St : Nat → Heap → Prop) (fp : List Addr), s₁.heap.objs.size ∈ fp → (∀ b ∈ fp, b = s₁.heap.objs.size ∨ (b ∈ as ∧ b < s₁.heap.objs.size)) → (∀ i h, St i h → ∃ o, h.get? s₁.heap.objs.size = some o) → Walks prog w A s₁.heap.objs.size fp [s₁.heap.objs.size] n P St → St 0 (s₁.heap.push o) →
      Q (.ref s₁.heap.objs.size) { s₁ with heap := s₁.heap.push o }) → wpAny (model prog w) A (pyIter xv) Q E s₁
theorem ItSrcA.list {prog : Program} {w : World} {A : Around} {s : Shared} {a : Addr} {its : Array Value} (hh : A.handled = none) (hl : s.heap.IsList a its) : ItSrcA prog w A (.ref a) s [a] its.size (fun i v => its[i]? = some v) := fun _ _ h => by
  have hlt : a < s.heap.objs.size := by obtain ⟨_, e, _⟩ := hl; exact Heap.lt_size e
  refine wpAny_pyIter_list hl (h _ _ _ ?_ (fun b hb => ?_) ?_ (Walks.list hh _ a (Nat.ne_of_lt hlt) its) ⟨⟨_, Heap.get?_push_size _ rfl, rfl, rfl⟩, hl.push _⟩)
  · simp
  · rcases List.mem_cons.mp hb with rfl | hb
    · exact .inl rfl
    · exact .inr ⟨hb, List.mem_singleton.mp hb ▸ hlt⟩
  · rintro i h' ⟨⟨o, ho, _⟩, _⟩
    exact ⟨o, ho⟩
theorem for_srcA {prog : Program} {w : World} {A : Around} {s : Shared} {E : Value → Shared → Prop} {env : Env} {h₀ : Heap} {x : Str} {body : List Stmt} {Q : Flow → Shared → Prop} {xv : Value} {as : List Addr} {n : Nat} {P : Nat → Value → Prop} {news : List (Addr × Obj)} {m₀ : Str → Option Value}
    (J : Nat → (Str → Option Value) → List (Addr × Obj) → Prop) (src : ItSrcA prog w A xv s as n P) (has : ∀ a ∈ as, (h₀.get? a).isSome)
    (F : Fr h₀ env.locals s.heap m₀) (N : News h₀ env.locals s.heap news) (hJ : J 0 m₀ news)
    (turn : ∀ i v m₁ nx h tk own I, i < n → P i v → J i m₁ nx → (∃ o, (I, o) ∈ own) → (∀ p ∈ own, p.1 = I) → (∀ p ∈ nx, p.1 ≠ I) → Fr h₀ env.locals h (fun y => if y = x then some v else m₁ y) → News h₀ env.locals h (nx ++ own) →
      wpAny (model prog w) A (execs body env) (ForPost h₀ env.locals (J (i + 1)) own I { s with heap := h, toks := tk } Q) E { s with heap := h, toks := tk })
    (done : ∀ m₁ nx h tk, J n m₁ nx → Fr h₀ env.locals h m₁ → News h₀ env.locals h nx → Q .next { s with heap := h, toks := tk }) :
    wpAny (model prog w) A (pyIter xv) (fun it s₂ => LoopAtV prog w A h₀ env x body Q E it s₂) E s := by
  refine src _ _ fun o St fp hin hfp hsome W hst => ?_
  have hI0 : h₀.get? s.heap.objs.size = none := by
    cases q : h₀.get? s.heap.objs.size with
    | none => rfl
    | some o' => exact absurd (Heap.lt_size (F.keep _ _ q)) (Nat.lt_irrefl _)
  have hLI : env.locals ≠ s.heap.objs.size := Nat.ne_of_lt F.ns.lt
  have hL0 : h₀.get? env.locals = none := Heap.get?_none_of_le F.above
  refine ⟨s.heap.objs.size, fp, [s.heap.objs.size], n, P, St, m₀, news, J, rfl, W, ?_, ?_, ?_, hst, F.push _, fun p hp => ⟨Heap.get?_push_of_some _ (N p hp).1, (N p hp).2⟩, hJ, ?_, ?_⟩
  · intro hm
    rcases hfp _ hm with e | ⟨e, _⟩
    · exact hLI e
    · have := has _ e; rw [hL0] at this; cases this
  · intro b hb
    rw [List.mem_singleton.mp hb]; exact hI0
  · intro p hp hI
    exact absurd (Heap.lt_size (N p hp).1) ((List.mem_singleton.mp hI) ▸ Nat.lt_irrefl _)
  · rintro i v m₁ nx s₁ own ⟨hh', tk', rfl⟩ hi hP hJi hoff hown hat hmem hst' F₁ N₁
    have ho : ∀ p ∈ own, p.1 = s.heap.objs.size := fun p hp => by
      rcases hfp _ (hown p hp) with e | ⟨e, _⟩
      · exact e
      · have h1 := has _ e
        have h2 := (N₁ p (List.mem_append_left _ hp)).2.2
        rw [h2] at h1; cases h1
    have N₂ : News h₀ env.locals hh' (nx ++ own) := fun p hp => N₁ p ((List.mem_append.mp hp).elim (fun h => List.mem_append.mpr (.inr h)) fun h => List.mem_append.mpr (.inl h))
    obtain ⟨oI, hoI⟩ := hsome _ _ hst'
    refine wpAny_mono (turn i v m₁ nx hh' tk' own s.heap.objs.size hi hP hJi ⟨oI, hmem _ hin hI0 oI hoI⟩ ho (fun p hp e => hoff p hp (List.mem_singleton.mpr e)) F₁ N₂) (fun f s₂ p => ?_) fun _ _ e => e
    have fin : ∀ {s₂ : Shared}, (∃ h' tk m' nx', s₂ = { s with heap := h', toks := tk } ∧ Fr h₀ env.locals h' m' ∧ News h₀ env.locals h' (nx' ++ own) ∧ (∀ p ∈ nx', p.1 ≠ s.heap.objs.size) ∧ J (i + 1) m' nx') →
        LoopStepU h₀ env.locals [s.heap.objs.size] own (J (i + 1)) { s with heap := hh', toks := tk' } .next s₂ := by
      rintro _ ⟨h', tk, m', nx', rfl, F', N', hn, hm⟩
      exact ⟨rfl, h', tk, m', nx', rfl, F', fun p hp => N' p ((List.mem_append.mp hp).elim (fun h => List.mem_append.mpr (.inr h)) fun h => List.mem_append.mpr (.inl h)), fun p hp hq => hn p hp (List.mem_singleton.mp hq), hm⟩
    cases f with
    | ret v => exact .ret p
    | brk => exact .brk p
    | next => exact .next (fin p)
    | cont => exact .cont (fin p)
  · rintro h' tk m' nx F' N' _ hJn
    exact done m' nx h' tk hJn F' N'
theorem led_swap {h₀ h : Heap} {L D E : Addr} {o o' : Obj} {dat own : List (Addr × Obj)} (N : News h₀ L h ((E, o') :: (D, o) :: (dat ++ own))) : News h₀ L h (((D, o) :: (E, o') :: dat) ++ own) := fun p hp => by
  refine N p ?_
  simp only [List.cons_append, List.mem_cons, List.mem_append] at hp ⊢
  rcases hp with h | h | h | h
  · exact .inr (.inl h)
  · exact .inl h
  · exact .inr (.inr (.inl h))
  · exact .inr (.inr (.inr h))
theorem allLt_mem {d : Addr} : ∀ {l : List (Addr × Obj)}, AllLt d l → ∀ p ∈ l, p.1 < d
  | [], _, _, h => nomatch h
  | q :: l, h, p, hp => by
    rcases List.mem_cons.mp hp with rfl | hp
    · exact h.1
    · exact allLt_mem h.2 p hp
end Mine
end

section
open PySem PySem.W PySem.Spec PySem.Calls PyProof.Rows
set_option Elab.async false
set_option maxRecDepth 100000
namespace Mine
/-- the octets from i up to j -/
def cut (b : Array UInt8) (i j : Nat) : Array UInt8 := ((b.toList.drop i).take (j - i)).toArray
theorem cut_size (b : Array UInt8) (i j : Nat) (h : j ≤ b.size) : (cut b i j).size = j - i := by
  simp only [cut, List.size_toArray, List.length_take, List.length_drop, Array.length_toList]; omega
theorem cut_le (b : Array UInt8) (i j : Nat) : (cut b i j).size ≤ b.size := by
  simp only [cut, List.size_toArray, List.length_take, List.length_drop, Array.length_toList]; omega
section
variable {prog : Program} {w : World} {A : Around} {E : Value → Shared → Prop} {s : Shared} {value slice : PySem.Expr} {b c : Array UInt8} {x y : Str} {t u : Tok} {i j : Int} {h₀ : Heap} {L : Addr} {m : PySem.Str → Option Value} {news : List (Addr × Obj)} {Q : Value → Shared → Prop}
theorem len_bytes' (hz : b.size ≤ 16777216) (h : ∀ t' k, Q (.int (b.size : Int) t') { s with toks := k }) : wpAny (model prog w) A (call (.builtin "len") [.bytes b t]) Q E s :=
  len_bytes (by omega) (h _ _)
theorem len_str' (hz : x.cps.size ≤ 16777216) (h : ∀ t' k, Q (.int (x.cps.size : Int) t') { s with toks := k }) : wpAny (model prog w) A (call (.builtin "len") [.str x t]) Q E s :=
  P.len_str (by have : x.length = x.cps.size := rfl; omega) (h _ _)
theorem item_bytes' (hz : b.size ≤ 16777216) (h0 : 0 ≤ i) (h1 : i < (b.size : Int)) (h : ∀ t' k, Q (.int ((b.toList.getD i.toNat 0).toNat : Int) t') { s with toks := k })
    (hs : subscripted slice false (.bytes b t) (.int i u) = operate [.bytes b t, .int i u] (getItem (.bytes b t) (.int i u)) := by with_unfolding_all rfl)
    (ht : ∀ r, letTemporaryGo value (.bytes b t) r = pure () := by intro _; with_unfolding_all rfl) : wpAny (model prog w) A (subscriptTail value slice (.bytes b t) (.int i u)) Q E s := by
  have e : b.toList.toArray = b := Array.toArray_toList
  have g : wpAny (model prog w) A (getItem (.bytes b.toList.toArray t) (.int i u)) Q E s :=
    getItem_bytes (l := b.toList) (by simpa using Nat.le_trans hz (by decide)) h0 (by simpa using h1) (h _ _)
  rw [e] at g
  exact tail_of_ItemOn ⟨"bytes", _, FB.slot_bytes_getitem.lookup, typeIs_bytes _ _ _, g⟩ hs ht
theorem item_str' (hz : x.cps.size ≤ 16777216) (h0 : 0 ≤ i) (h1 : i < (x.cps.size : Int)) (h : ∀ t' k, Q (.str ⟨#[x.cps.getD i.toNat 0]⟩ t') { s with toks := k })
    (hs : subscripted slice false (.str x t) (.int i u) = operate [.str x t, .int i u] (getItem (.str x t) (.int i u)) := by with_unfolding_all rfl)
    (ht : ∀ r, letTemporaryGo value (.str x t) r = pure () := by intro _; with_unfolding_all rfl) : wpAny (model prog w) A (subscriptTail value slice (.str x t) (.int i u)) Q E s := by
  have hl : i.toNat < x.cps.size := by omega
  have g : wpAny (model prog w) A (getItem (.str x t) (.int i u)) Q E s := by
    refine P.getItem_str (c := x.cps.getD i.toNat 0) (by simp; omega) ?_ (h _ _)
    have hn : ¬ i < 0 := by omega
    have e : seqIndex? i x.length = some i.toNat := by
      have h3 : i < (x.length : Int) := h1
      simp [seqIndex?, hn, h0, h3]
    rw [e]; simp [hl]
  exact tail_of_ItemOn ⟨"str", _, F.slot_str_getitem.lookup, typeIs_str _ _ _, g⟩ hs ht
theorem add_str' (hz : x.cps.size + y.cps.size ≤ 16777216) (h : ∀ t' tk, Q (.str (x ++ y) t') { s with toks := tk }) : wpAny (model prog w) A (binaryOp .Add (.str x t) (.str y u)) Q E s :=
  add_str h (by rw [sizeLine_eq]; exact hz)
theorem add_bytes' (hz : b.size + c.size ≤ 16777216) (h : ∀ t' k, Q (.bytes (b ++ c) t') { s with toks := k }) : wpAny (model prog w) A (binaryOp .Add (.bytes b t) (.bytes c u)) Q E s :=
  KBy.add_bytes hz h
theorem item_bytesN {k : Nat} (hz : b.size ≤ 16777216) (h1 : k < b.size) (h : ∀ t' tk, Q (.int ((b.toList.getD k 0).toNat : Int) t') { s with toks := tk })
    (hs : subscripted slice false (.bytes b t) (.int (k : Int) u) = operate [.bytes b t, .int (k : Int) u] (getItem (.bytes b t) (.int (k : Int) u)) := by with_unfolding_all rfl)
    (ht : ∀ r, letTemporaryGo value (.bytes b t) r = pure () := by intro _; with_unfolding_all rfl) : wpAny (model prog w) A (subscriptTail value slice (.bytes b t) (.int (k : Int) u)) Q E s :=
  item_bytes' hz (by omega) (by omega) h hs ht
theorem item_strN {k : Nat} (hz : x.cps.size ≤ 16777216) (h1 : k < x.cps.size) (h : ∀ t' tk, Q (.str ⟨#[x.cps.getD k 0]⟩ t') { s with toks := tk })
    (hs : subscripted slice false (.str x t) (.int (k : Int) u) = operate [.str x t, .int (k : Int) u] (getItem (.str x t) (.int (k : Int) u)) := by with_unfolding_all rfl)
    (ht : ∀ r, letTemporaryGo value (.str x t) r = pure () := by intro _; with_unfolding_all rfl) : wpAny (model prog w) A (subscriptTail value slice (.str x t) (.int (k : Int) u)) Q E s :=
  item_str' hz (by omega) (by omega) h hs ht
theorem slice_bytes' (hF : Fr h₀ L s.heap m) (hN : News h₀ L s.heap news) {ui uj : Tok} (h0 : 0 ≤ i) (h1 : 0 ≤ j) (hz : b.size ≤ 16777216)
    (h : ∀ h' t' k, Fr h₀ L h' m → News h₀ L h' news → Q (.bytes (cut b i.toNat j.toNat) t') { s with heap := h', toks := k })
    (hs : subscripted slice false (.bytes b t) (.ref s.heap.objs.size) = operate [.ref s.heap.objs.size, .bytes b t] (getItem (.bytes b t) (.ref s.heap.objs.size)) := by with_unfolding_all rfl)
    (ht : ∀ r, letTemporaryGo value (.bytes b t) r = pure () := by intro _; with_unfolding_all rfl) :
    wpAny (model prog w) A (subscriptTail value slice (.bytes b t) (.ref s.heap.objs.size)) Q E { s with heap := s.heap.push { cls := .type "slice", data := .fields #[.int i ui, .int j uj, .none] } } := by
  have e : KBy.picked b (some i) (some j) = cut b i.toNat j.toNat := by
    rw [KBc.picked_eq]
    have hi : clipAt b.size i = min i.toNat b.size := by have := clipAt_nat b.size i.toNat; rwa [Int.toNat_of_nonneg h0] at this
    have hj : clipAt b.size j = min j.toNat b.size := by have := clipAt_nat b.size j.toNat; rwa [Int.toNat_of_nonneg h1] at this
    simp only [Option.elim, hi, hj, cut]
    congr 1
    by_cases hb : i.toNat ≤ b.size
    · rw [Nat.min_eq_left hb]
      by_cases hc : j.toNat ≤ b.size
      · rw [Nat.min_eq_left hc]
      · rw [Nat.min_eq_right (by omega), List.take_of_length_le (by simp), List.take_of_length_le (by simp; omega)]
    · have hb' : b.size ≤ i.toNat := by omega
      rw [Nat.min_eq_right hb', List.drop_of_length_le (l := b.toList) (i := i.toNat) (by simpa using hb'), List.drop_of_length_le (l := b.toList) (i := b.size) (by simp)]
      simp
  refine KBc.slice_K hF hN rfl (.int _ _) (.int _ _) (by rw [KBw.ints_length]; exact hz) (fun h' t' k F' N' _ => ?_) hs ht
  rw [e]; exact h h' t' k F' N'
theorem slice_bytes0 (hF : Fr h₀ L s.heap m) (hN : News h₀ L s.heap news) {uj : Tok} (h1 : 0 ≤ j) (hz : b.size ≤ 16777216)
    (h : ∀ h' t' k, Fr h₀ L h' m → News h₀ L h' news → Q (.bytes (cut b 0 j.toNat) t') { s with heap := h', toks := k })
    (hs : subscripted slice false (.bytes b t) (.ref s.heap.objs.size) = operate [.ref s.heap.objs.size, .bytes b t] (getItem (.bytes b t) (.ref s.heap.objs.size)) := by with_unfolding_all rfl)
    (ht : ∀ r, letTemporaryGo value (.bytes b t) r = pure () := by intro _; with_unfolding_all rfl) :
    wpAny (model prog w) A (subscriptTail value slice (.bytes b t) (.ref s.heap.objs.size)) Q E { s with heap := s.heap.push { cls := .type "slice", data := .fields #[.none, .int j uj, .none] } } := by
  have e : KBy.picked b none (some j) = cut b 0 j.toNat := by
    rw [KBc.picked_eq]
    have hj : clipAt b.size j = min j.toNat b.size := by have := clipAt_nat b.size j.toNat; rwa [Int.toNat_of_nonneg h1] at this
    simp only [Option.elim, hj, cut]
    congr 1
    by_cases hc : j.toNat ≤ b.size
    · rw [Nat.min_eq_left hc]
    · rw [Nat.min_eq_right (by omega), List.take_of_length_le (by simp), List.take_of_length_le (by simp; omega)]
  refine KBc.slice_K hF hN rfl .none (.int _ _) (by rw [KBw.ints_length]; exact hz) (fun h' t' k F' N' _ => ?_) hs ht
  rw [e]; exact h h' t' k F' N'
end
end Mine
end

section
open PySem PySem.W PySem.Spec PySem.Calls PyProof.Rows
set_option Elab.async false
set_option maxRecDepth 100000
namespace Mine
/-- a Wire: its address, its dict's, the octets that it reads, the tokens that stay -/
structure Wr where
  x : Addr
  dx : Addr
  d : Array UInt8
  td : Tok
  k1 : Tok
  k2 : Tok
abbrev wobj (W : Wr) : Obj := instObj 426 W.dx
abbrev wdict (w : World) (W : Wr) (p : Nat) (t : Tok) : Obj := dictOf [⟨PyData.keyHash w.params (Str.ofString "data"), .str (Str.ofString "data") W.k1, .bytes W.d W.td⟩, ⟨PyData.keyHash w.params (Str.ofString "at"), .str (Str.ofString "at") W.k2, .int (p : Int) t⟩] 2
abbrev wled (w : World) (W : Wr) (p : Nat) (t : Tok) : List (Addr × Obj) := [(W.x, wobj W), (W.dx, wdict w W p t)]
/-- a Wire method's contract: at p, with the further arguments vs: it ends at q, makes nothing that stays, and gives a value by Rv -/
def WT (w : World) (W : Wr) (f : Addr) (need : Nat) (vs : List Value) (p q : Nat) (Rv : Value → Prop) : Prop :=
  ∀ tp, Tells w f need (.ref W.x :: vs) (wled w W p tp) (fun _ => True) (fun v l => ∃ nw t, l = nw ++ wled w W q t ∧ (∀ r ∈ nw, r.1 ≠ W.x ∧ r.1 ≠ W.dx) ∧ nw = [] ∧ Rv v)
theorem wr_ne {w : World} {W : Wr} {p : Nat} {t : Tok} {h₀ h : Heap} {L : Addr} (N : News h₀ L h (wled w W p t)) : W.x ≠ W.dx := fun e => by
  have h1 := (N _ (.head _)).1
  have h2 := (N _ (.tail _ (.head _))).1
  dsimp only at h1 h2
  rw [e, h2] at h1
  cases h1
section
variable {w : World} {W : Wr} {f : Addr} {need : Nat} {vs : List Value} {p q : Nat} {Rv : Value → Prop} {mean : ExcName → Option Value} {mg mb : Str → Option Value} {dp un : Nat} {gd : Option (List Code)} {cn : Str} {cs : Scope} {a : Addr} {ccd : Value} {cl : List (Str × Addr)} {outer : List Env}
    {A₀ : Around} {base h₀ : Heap} {L : Addr} {m : Str → Option Value} {s : Shared} {news : List (Addr × Obj)} {news' : Tok → List (Addr × Obj)} {tp : Tok} {P : Result → Shared → Prop}
theorem WT.call (C : WT w W f need vs p q Rv)
    (B : Below A₀ base outer h₀) (F : Fr h₀ L s.heap m) (X : (hd.heap_39 w.params).In h₀) (N : News h₀ L s.heap news) (T : Top hd.view_39 (looseW hd.view_39 [Str.ofString "PostError"]) mean mg mb h₀) (hk : cs.kind = .function)
    (hx : (W.x, wobj W) ∈ news) (U : ∀ t, Upd W.dx (wdict w W p tp) (wdict w W q t) news (news' t)) (hd : dp + need < recursionLimit) (hu : un + 8 * need < cLine)
    (ret : ∀ v t h' tk', Rv v → Fr h₀ L h' m → News h₀ L h' (news' t) → P (.ok (.ret v)) { s with heap := h', toks := tk' }) :
    codeAny (model Challenge.rw_nz0317_01.row.prog w) (ktrTop dp un gd cn cs L a ccd cl outer) (.call (.ref f) ⟨.ref W.x :: vs, []⟩) P s := by
  refine Tells.upd (new := fun v nw => nw = [] ∧ Rv v) (C tp) B F X N T hk hx U hd hu ?_
  rintro v nw t h' tk' ⟨rfl, hv⟩ F' N' _
  exact ret v t h' tk' hv F' N'
end
/-- a contract of a call that reads the Wire and hands back data -/
def WD (w : World) (W : Wr) (f : Addr) (need : Nat) (p q : Nat) (d : Dat) : Prop :=
  ∀ tp, Tells w f need [.ref W.x] (wled w W p tp) (fun _ => True) (fun v l => ∃ nw t, l = nw ++ wled w W q t ∧ (∀ r ∈ nw, r.1 ≠ W.x ∧ r.1 ≠ W.dx) ∧ DatIn nw v d)
section
variable {w : World} {W : Wr} {f : Addr} {need : Nat} {p q : Nat} {d : Dat} {mean : ExcName → Option Value} {mg mb : Str → Option Value} {dp un : Nat} {gd : Option (List Code)} {cn : Str} {cs : Scope} {a : Addr} {ccd : Value} {cl : List (Str × Addr)} {outer : List Env}
    {A₀ : Around} {base h₀ : Heap} {L : Addr} {m : Str → Option Value} {s : Shared} {news : List (Addr × Obj)} {news' : Tok → List (Addr × Obj)} {tp : Tok} {P : Result → Shared → Prop}
theorem WD.call (C : WD w W f need p q d)
    (B : Below A₀ base outer h₀) (F : Fr h₀ L s.heap m) (X : (hd.heap_39 w.params).In h₀) (N : News h₀ L s.heap news) (T : Top hd.view_39 (looseW hd.view_39 [Str.ofString "PostError"]) mean mg mb h₀) (hk : cs.kind = .function)
    (hx : (W.x, wobj W) ∈ news) (U : ∀ t, Upd W.dx (wdict w W p tp) (wdict w W q t) news (news' t)) (hd : dp + need < recursionLimit) (hu : un + 8 * need < cLine)
    (ret : ∀ v nw t h' tk', DatIn nw v d → Fr h₀ L h' m → News h₀ L h' (nw ++ news' t) → (∀ p ∈ nw, ∀ q ∈ news' t, p.1 ≠ q.1) → P (.ok (.ret v)) { s with heap := h', toks := tk' }) :
    codeAny (model Challenge.rw_nz0317_01.row.prog w) (ktrTop dp un gd cn cs L a ccd cl outer) (.call (.ref f) ⟨[.ref W.x], []⟩) P s :=
  Tells.upd (new := fun v nw => DatIn nw v d) (C tp) B F X N T hk hx U hd hu ret
end
/-- a plain function's contract: it makes nothing that stays -/
def FT (w : World) (f : Addr) (need : Nat) (vs : List Value) (Pre : Heap → Prop) (Rv : Value → Prop) : Prop :=
  Tells w f need vs [] Pre (fun v l => l = [] ∧ Rv v)
section
variable {w : World} {f : Addr} {need : Nat} {vs : List Value} {Pre : Heap → Prop} {Rv : Value → Prop} {mean : ExcName → Option Value} {mg mb : Str → Option Value} {dp un : Nat} {gd : Option (List Code)} {cn : Str} {cs : Scope} {a : Addr} {ccd : Value} {cl : List (Str × Addr)} {outer : List Env}
    {A₀ : Around} {base h₀ : Heap} {L : Addr} {m : Str → Option Value} {s : Shared} {news : List (Addr × Obj)} {P : Result → Shared → Prop}
theorem FT.call (C : FT w f need vs Pre Rv)
    (B : Below A₀ base outer h₀) (F : Fr h₀ L s.heap m) (X : (hd.heap_39 w.params).In h₀) (N : News h₀ L s.heap news) (T : Top hd.view_39 (looseW hd.view_39 [Str.ofString "PostError"]) mean mg mb h₀) (hk : cs.kind = .function)
    (hp : Pre s.heap) (hd : dp + need < recursionLimit) (hu : un + 8 * need < cLine)
    (ret : ∀ v h' tk', Rv v → Fr h₀ L h' m → News h₀ L h' news → P (.ok (.ret v)) { s with heap := h', toks := tk' }) :
    codeAny (model Challenge.rw_nz0317_01.row.prog w) (ktrTop dp un gd cn cs L a ccd cl outer) (.call (.ref f) ⟨vs, []⟩) P s := by
  refine Tells.ro C B F X N T hk hp hd hu ?_
  rintro v new h' tk' ⟨rfl, hv⟩ F' N' _
  exact ret v h' tk' hv F' N'
end
section
variable {w : World} {f : Addr} {need : Nat} {vs : List Value} {Pre : Heap → Prop} {Rv : Value → Prop} {mean : ExcName → Option Value} {mg mb : Str → Option Value} {dp un : Nat} {gd : Option (List Code)} {cn : Str} {cs : Scope} {a : Addr} {ccd : Value} {cl : List (Str × Addr)} {outer : List Env}
    {A₀ : Around} {base h₀ : Heap} {L : Addr} {m : Str → Option Value} {s : Shared} {news : List (Addr × Obj)} {P : Result → Shared → Prop}
theorem FT.callK (C : FT w f need vs Pre Rv)
    (B : Below A₀ base outer h₀) (F : Fr h₀ L s.heap m) (X : (hd.heap_39 w.params).In h₀) (_N : News h₀ L s.heap news) (T : Top hd.view_39 (looseW hd.view_39 [Str.ofString "PostError"]) mean mg mb h₀) (hk : cs.kind = .function)
    (hp : Pre s.heap) (hd : dp + need < recursionLimit) (hu : un + 8 * need < cLine)
    (ret : ∀ v h' tk', Rv v → (∀ b o, s.heap.get? b = some o → h'.get? b = some o) → P (.ok (.ret v)) { s with heap := h', toks := tk' }) :
    codeAny (model Challenge.rw_nz0317_01.row.prog w) (ktrTop dp un gd cn cs L a ccd cl outer) (.call (.ref f) ⟨vs, []⟩) P s := by
  refine C _ _ _ _ _ _ _ _ _ _ _ _ _ _ _ _ _ _ _ B F X News.nil T hk hp hd hu ?_
  rintro v led' h' tk' ⟨rfl, hv⟩ F' st N'
  exact ret v h' tk' hv fun b o e => st b o (hideAll_get _ e (by simp))
end
/-- a function that makes data -/
def DT (w : World) (f : Addr) (need : Nat) (vs : List Value) (Pre : Heap → Prop) (d : Dat) : Prop :=
  Tells w f need vs [] Pre (fun v l => DatIn l v d)
section
variable {w : World} {f : Addr} {need : Nat} {vs : List Value} {Pre : Heap → Prop} {d : Dat} {mean : ExcName → Option Value} {mg mb : Str → Option Value} {dp un : Nat} {gd : Option (List Code)} {cn : Str} {cs : Scope} {a : Addr} {ccd : Value} {cl : List (Str × Addr)} {outer : List Env}
    {A₀ : Around} {base h₀ : Heap} {L : Addr} {m : Str → Option Value} {s : Shared} {news : List (Addr × Obj)} {P : Result → Shared → Prop}
theorem DT.call (C : DT w f need vs Pre d)
    (B : Below A₀ base outer h₀) (F : Fr h₀ L s.heap m) (X : (hd.heap_39 w.params).In h₀) (N : News h₀ L s.heap news) (T : Top hd.view_39 (looseW hd.view_39 [Str.ofString "PostError"]) mean mg mb h₀) (hk : cs.kind = .function)
    (hp : Pre s.heap) (hd : dp + need < recursionLimit) (hu : un + 8 * need < cLine)
    (ret : ∀ v new h' tk', DatIn new v d → Fr h₀ L h' m → News h₀ L h' (new ++ news) → (∀ p ∈ new, ∀ q ∈ news, p.1 ≠ q.1) → P (.ok (.ret v)) { s with heap := h', toks := tk' }) :
    codeAny (model Challenge.rw_nz0317_01.row.prog w) (ktrTop dp un gd cn cs L a ccd cl outer) (.call (.ref f) ⟨vs, []⟩) P s :=
  Tells.ro C B F X N T hk hp hd hu ret
end
section
variable {w : World} {f : Addr} {need : Nat} {vs : List Value} {Pre : Heap → Prop} {i j : Int} {mean : ExcName → Option Value} {mg mb : Str → Option Value} {dp un : Nat} {gd : Option (List Code)} {cn : Str} {cs : Scope} {a : Addr} {ccd : Value} {cl : List (Str × Addr)} {outer : List Env}
    {A₀ : Around} {base h₀ : Heap} {L : Addr} {m : Str → Option Value} {s : Shared} {news : List (Addr × Obj)} {P : Result → Shared → Prop}
theorem datIn_pair {new : List (Addr × Obj)} {v : Value} {i j : Int} (h : DatIn new v (.tuple [.int i, .int j])) : ∃ (r : Addr) (t u : Tok) (c : Nat), v = .ref r ∧ (r, ({ cls := .type "tuple", data := .seq #[.int i t, .int j u] c } : Obj)) ∈ new := by
  cases h with
  | @tuple r ws c _ hm hr =>
    cases hr with
    | cons h1 hr =>
      cases hr with
      | cons h2 hr =>
        cases hr
        cases h1
        cases h2
        exact ⟨_, _, _, _, rfl, hm⟩
/-- a call that hands back a pair of ints -/
theorem DT.callP (C : DT w f need vs Pre (.tuple [.int i, .int j]))
    (B : Below A₀ base outer h₀) (F : Fr h₀ L s.heap m) (X : (hd.heap_39 w.params).In h₀) (N : News h₀ L s.heap news) (T : Top hd.view_39 (looseW hd.view_39 [Str.ofString "PostError"]) mean mg mb h₀) (hk : cs.kind = .function)
    (hp : Pre s.heap) (hd : dp + need < recursionLimit) (hu : un + 8 * need < cLine)
    (ret : ∀ r t u c h' tk', Fr h₀ L h' m → News h₀ L h' ((r, { cls := .type "tuple", data := .seq #[.int i t, .int j u] c }) :: news) → (∀ q ∈ news, r ≠ q.1) → P (.ok (.ret (.ref r))) { s with heap := h', toks := tk' }) :
    codeAny (model Challenge.rw_nz0317_01.row.prog w) (ktrTop dp un gd cn cs L a ccd cl outer) (.call (.ref f) ⟨vs, []⟩) P s := by
  refine Tells.ro C B F X N T hk hp hd hu ?_
  intro v new h' tk' hv F' N' hne
  obtain ⟨r, t, u, c, rfl, hm⟩ := datIn_pair hv
  refine ret r t u c h' tk' F' (news_sub N' fun p hp => ?_) fun q hq => hne _ hm q hq
  rcases List.mem_cons.mp hp with rfl | hp
  · exact List.mem_append_left _ hm
  · exact List.mem_append_right _ hp
end
section
variable {w : World} {f : Addr} {need : Nat} {vs : List Value} {led : List (Addr × Obj)} {Pre : Heap → Prop} {R : Value → List (Addr × Obj) → Prop} {mean : ExcName → Option Value} {mg mb : Str → Option Value} {dp un : Nat} {gd : Option (List Code)} {cn : Str} {cs : Scope} {a : Addr} {ccd : Value} {cl : List (Str × Addr)} {outer : List Env}
    {A₀ : Around} {base h₀ : Heap} {L : Addr} {m : Str → Option Value} {s : Shared} {P : Result → Shared → Prop}
/-- a call that is handed the whole ledger -/
theorem Tells.all (C : Tells w f need vs led Pre R)
    (B : Below A₀ base outer h₀) (F : Fr h₀ L s.heap m) (X : (hd.heap_39 w.params).In h₀) (N : News h₀ L s.heap led) (T : Top hd.view_39 (looseW hd.view_39 [Str.ofString "PostError"]) mean mg mb h₀) (hk : cs.kind = .function)
    (hp : Pre (gOf s.heap led)) (hd : dp + need < recursionLimit) (hu : un + 8 * need < cLine)
    (ret : ∀ v led' h' tk', R v led' → Fr h₀ L h' m → News h₀ L h' led' → P (.ok (.ret v)) { s with heap := h', toks := tk' }) :
    codeAny (model Challenge.rw_nz0317_01.row.prog w) (ktrTop dp un gd cn cs L a ccd cl outer) (.call (.ref f) ⟨vs, []⟩) P s := by
  refine C _ _ _ _ _ _ _ _ _ _ _ _ _ _ _ _ _ _ _ B F X N T hk hp hd hu ?_
  intro v led' h' tk' hR F' st N'
  exact ret v led' h' tk' hR F' (news_back F N N')
end
/-- the walk stands still here -/
def AtStop (P : Prop) : Prop := P
theorem atStop {P : Prop} (h : AtStop P) : P := h
theorem goOn {P : Prop} (h : P) : AtStop P := h
section
variable {prog : Program} {w : World} {A : Around} {E : Value → Shared → Prop} {Q : Flow → Shared → Prop} {s : Shared} {env : Env} {h₀ : Heap} {L : Addr}
/-- a while whose turns leave the frame's names as they are -/
theorem while_same {test : Expr} {body : List Stmt} {pos : Pos} {m : Str → Option Value} {news : List (Addr × Obj)} (I : Nat → List (Addr × Obj) → Prop) (n₀ : Nat)
    (F : Fr h₀ L s.heap m) (N : News h₀ L s.heap news) (hI : I n₀ news)
    (turn : ∀ n news₁ h₁ tk₁, I n news₁ → Fr h₀ L h₁ m → News h₀ L h₁ news₁ →
      wpAny (model prog w) A (isTrue test env (eval test env)) (fun b s₂ =>
        if b = true then wpAny (model prog w) A (execs body env) (WhileStep2 h₀ L s (fun k m' l => m' = m ∧ I k l) Q n) E s₂ else Q .next s₂) E { s with heap := h₁, toks := tk₁ })
    (hE : PassesOwn (model prog w) A env E := by passes_own) :
    AtStop (wpAny (model prog w) A (exec (.While test body [] pos) env) Q E s) :=
  While_inv2 (fun k m' l => m' = m ∧ I k l) F N ⟨rfl, hI⟩ (fun n m₁ news₁ h₁ tk₁ F₁ N₁ j => by obtain ⟨rfl, j⟩ := j; exact turn n news₁ h₁ tk₁ j F₁ N₁) hE
theorem while_same1 {test : Expr} {body : List Stmt} {pos : Pos} {m : Str → Option Value} {D : Addr} {o₀ : Obj} {rest : List (Addr × Obj)} (I : Addr → Nat → List (Addr × Obj) → Prop) (n₀ : Nat)
    (F : Fr h₀ L s.heap m) (N : News h₀ L s.heap ((D, o₀) :: rest)) (hI : I D n₀ ((D, o₀) :: rest))
    (turn : ∀ n news₁ h₁ tk₁, I D n news₁ → Fr h₀ L h₁ m → News h₀ L h₁ news₁ →
      wpAny (model prog w) A (isTrue test env (eval test env)) (fun b s₂ =>
        if b = true then wpAny (model prog w) A (execs body env) (WhileStep2 h₀ L s (fun k m' l => m' = m ∧ I D k l) Q n) E s₂ else Q .next s₂) E { s with heap := h₁, toks := tk₁ })
    (hE : PassesOwn (model prog w) A env E := by passes_own) :
    AtStop (wpAny (model prog w) A (exec (.While test body [] pos) env) Q E s) := while_same (I D) n₀ F N hI turn hE
theorem while_by {test : Expr} {body : List Stmt} {pos : Pos} {m : Str → Option Value} {news : List (Addr × Obj)} (J : Nat → (Str → Option Value) → List (Addr × Obj) → Prop) (n₀ : Nat)
    (F : Fr h₀ L s.heap m) (N : News h₀ L s.heap news) (hI : J n₀ m news)
    (turn : ∀ n m₁ news₁ h₁ tk₁, J n m₁ news₁ → Fr h₀ L h₁ m₁ → News h₀ L h₁ news₁ →
      wpAny (model prog w) A (isTrue test env (eval test env)) (fun b s₂ =>
        if b = true then wpAny (model prog w) A (execs body env) (WhileStep2 h₀ L s J Q n) E s₂ else Q .next s₂) E { s with heap := h₁, toks := tk₁ })
    (hE : PassesOwn (model prog w) A env E := by passes_own) :
    AtStop (wpAny (model prog w) A (exec (.While test body [] pos) env) Q E s) :=
  While_inv2 J F N hI (fun n m₁ news₁ h₁ tk₁ F₁ N₁ j => turn n m₁ news₁ h₁ tk₁ j F₁ N₁) hE
theorem while_end {J : Nat → (Str → Option Value) → List (Addr × Obj) → Prop} {n n' tk : Nat} {h' : Heap} {m₂ : Str → Option Value} {news₂ : List (Addr × Obj)} (F : Fr h₀ L h' m₂) (N : News h₀ L h' news₂) (hn : n' < n) (hJ : J n' m₂ news₂) :
    WhileStep2 h₀ L s J Q n .next { s with heap := h', toks := tk } := ⟨h', tk, m₂, news₂, n', rfl, F, N, hn, hJ⟩
end
theorem cut_pre (b o : Array UInt8) (p : Nat) : (cut b p (p + o.size)).toList = (b.toList.drop p).take o.size := by
  simp [cut]
end Mine
end

section
open PySem PySem.W PySem.Spec PySem.Calls PyProof.Rows
set_option Elab.async false
set_option maxRecDepth 100000
namespace Mine
section
variable {prog : Program} {w : World} {A : Around} {E : Value → Shared → Prop} {s : Shared} {env : Env} {h₀ : Heap} {x : Str} {body : List Stmt} {Q : Flow → Shared → Prop} {xv : Value} {as : List Addr} {n : Nat} {P : Nat → Value → Prop} {news : List (Addr × Obj)} {m₀ : Str → Option Value}
/-- a for whose turns leave the frame's other names as they are -/
theorem for_same {L : Addr} (I : Nat → List (Addr × Obj) → Prop) (src : ItSrc prog w A xv s as n P) (has : ∀ a ∈ as, (h₀.get? a).isSome)
    (F : Fr h₀ L s.heap m₀) (N : News h₀ L s.heap news) (hJ : I 0 news)
    (turn : ∀ i v nx h tk own J, i < n → P i v → I i nx → (∀ p ∈ own, p.1 = J) → (∀ p ∈ nx, p.1 ≠ J) → Fr h₀ L h (fun y => if y = x then some v else m₀ y) → News h₀ L h (nx ++ own) →
      wpAny (model prog w) A (execs body env) (ForPost h₀ L (fun m l => (∀ y, y ≠ x → m y = m₀ y) ∧ I (i + 1) l) own J { s with heap := h, toks := tk } Q) E { s with heap := h, toks := tk })
    (done : ∀ (u : Str → Option Value) nx h tk, I n nx → Fr h₀ L h (fun z => if z = x then u z else m₀ z) → News h₀ L h nx → Q .next { s with heap := h, toks := tk }) (hL : env.locals = L := by rfl) :
    AtStop (wpAny (model prog w) A (pyIter xv) (fun it s₂ => LoopAtV prog w A h₀ env x body Q E it s₂) E s) := by
  subst hL
  refine for_src (fun i m l => (∀ y, y ≠ x → m y = m₀ y) ∧ I i l) src has F N ⟨fun _ _ => rfl, hJ⟩ ?_ ?_
  · rintro i v m₁ nx h tk own J hi hP ⟨hm, hI⟩ ho hnx F₁ N₁
    have e : (fun y => if y = x then some v else m₁ y) = fun y => if y = x then some v else m₀ y := by
      funext y
      by_cases hy : y = x
      · simp [hy]
      · simp [hy, hm y hy]
    rw [e] at F₁
    exact turn i v nx h tk own J hi hP hI ho hnx F₁ N₁
  · rintro m₁ nx h tk ⟨hm, hI⟩ F₁ N₁
    have e : m₁ = fun z => if z = x then m₁ z else m₀ z := by
      funext y
      by_cases hy : y = x
      · simp [hy]
      · simp [hy, hm y hy]
    rw [e] at F₁
    exact done m₁ nx h tk hI F₁ N₁
theorem for_same1 {L D : Addr} {o₀ : Obj} {rest : List (Addr × Obj)} (I : Addr → Nat → List (Addr × Obj) → Prop) (src : ItSrcA prog w A xv s as n P) (has : ∀ a ∈ as, (h₀.get? a).isSome)
    (F : Fr h₀ L s.heap m₀) (N : News h₀ L s.heap ((D, o₀) :: rest)) (hJ : I D 0 ((D, o₀) :: rest))
    (turn : ∀ i v nx h tk own J, i < n → P i v → I D i nx → (∃ o, (J, o) ∈ own) → (∀ p ∈ own, p.1 = J) → (∀ p ∈ nx, p.1 ≠ J) → Fr h₀ L h (fun y => if y = x then some v else m₀ y) → News h₀ L h (nx ++ own) →
      wpAny (model prog w) A (execs body env) (ForPost h₀ L (fun m l => (∀ y, y ≠ x → m y = m₀ y) ∧ I D (i + 1) l) own J { s with heap := h, toks := tk } Q) E { s with heap := h, toks := tk })
    (done : ∀ (u : Str → Option Value) nx h tk, I D n nx → Fr h₀ L h (fun z => if z = x then u z else m₀ z) → News h₀ L h nx → Q .next { s with heap := h, toks := tk }) (hL : env.locals = L := by rfl) :
    AtStop (wpAny (model prog w) A (pyIter xv) (fun it s₂ => LoopAtV prog w A h₀ env x body Q E it s₂) E s) := by
  subst hL
  refine for_srcA (fun i m l => (∀ y, y ≠ x → m y = m₀ y) ∧ I D i l) src has F N ⟨fun _ _ => rfl, hJ⟩ ?_ ?_
  · rintro i v m₁ nx h tk own J hi hP ⟨hm, hI⟩ hJo ho hnx F₁ N₁
    have e : (fun y => if y = x then some v else m₁ y) = fun y => if y = x then some v else m₀ y := by
      funext y
      by_cases hy : y = x
      · simp [hy]
      · simp [hy, hm y hy]
    rw [e] at F₁
    exact turn i v nx h tk own J hi hP hI hJo ho hnx F₁ N₁
  · rintro m₁ nx h tk ⟨hm, hI⟩ F₁ N₁
    have e : m₁ = fun z => if z = x then m₁ z else m₀ z := by
      funext y
      by_cases hy : y = x
      · simp [hy]
      · simp [hy, hm y hy]
    rw [e] at F₁
    exact done m₁ nx h tk hI F₁ N₁
theorem for_by {L : Addr} (J : Nat → (Str → Option Value) → List (Addr × Obj) → Prop) (src : ItSrc prog w A xv s as n P) (has : ∀ a ∈ as, (h₀.get? a).isSome)
    (F : Fr h₀ L s.heap m₀) (N : News h₀ L s.heap news) (hJ : J 0 m₀ news)
    (turn : ∀ i v m₁ nx h tk own I, i < n → P i v → J i m₁ nx → (∀ p ∈ own, p.1 = I) → (∀ p ∈ nx, p.1 ≠ I) → Fr h₀ L h (fun y => if y = x then some v else m₁ y) → News h₀ L h (nx ++ own) →
      wpAny (model prog w) A (execs body env) (ForPost h₀ L (J (i + 1)) own I { s with heap := h, toks := tk } Q) E { s with heap := h, toks := tk })
    (done : ∀ m₁ nx h tk, J n m₁ nx → Fr h₀ L h m₁ → News h₀ L h nx → Q .next { s with heap := h, toks := tk }) (hL : env.locals = L := by rfl) :
    AtStop (wpAny (model prog w) A (pyIter xv) (fun it s₂ => LoopAtV prog w A h₀ env x body Q E it s₂) E s) := by subst hL; exact for_src J src has F N hJ turn done
/-- a for whose turns store one name y besides -/
theorem for_acc {L : Addr} (y : Str) (val : Nat → Value → Prop) (I : Nat → List (Addr × Obj) → Prop) (src : ItSrc prog w A xv s as n P) (has : ∀ a ∈ as, (h₀.get? a).isSome)
    (F : Fr h₀ L s.heap m₀) (N : News h₀ L s.heap news) (hxy : x ≠ y) (hy : ∃ a, m₀ y = some a ∧ val 0 a) (hJ : I 0 news)
    (turn : ∀ i v a nx h tk own J, i < n → P i v → val i a → I i nx → (∀ p ∈ own, p.1 = J) → (∀ p ∈ nx, p.1 ≠ J) → Fr h₀ L h (fun z => if z = x then some v else if z = y then some a else m₀ z) → News h₀ L h (nx ++ own) →
      wpAny (model prog w) A (execs body env) (ForPost h₀ L (fun m l => (∃ a, m y = some a ∧ val (i + 1) a) ∧ (∀ z, z ≠ x → z ≠ y → m z = m₀ z) ∧ I (i + 1) l) own J { s with heap := h, toks := tk } Q) E { s with heap := h, toks := tk })
    (done : ∀ (u : Str → Option Value) a nx h tk, val n a → I n nx → Fr h₀ L h (fun z => if z = x then u z else if z = y then some a else m₀ z) → News h₀ L h nx → Q .next { s with heap := h, toks := tk }) (hL : env.locals = L := by rfl) :
    AtStop (wpAny (model prog w) A (pyIter xv) (fun it s₂ => LoopAtV prog w A h₀ env x body Q E it s₂) E s) := by
  subst hL
  refine for_src (fun i m l => (∃ a, m y = some a ∧ val i a) ∧ (∀ z, z ≠ x → z ≠ y → m z = m₀ z) ∧ I i l) src has F N ⟨hy, fun _ _ _ => rfl, hJ⟩ ?_ ?_
  · rintro i v m₁ nx h tk own J hi hP ⟨⟨a, ha, hv⟩, hm, hI⟩ ho hnx F₁ N₁
    have e : (fun z => if z = x then some v else m₁ z) = fun z => if z = x then some v else if z = y then some a else m₀ z := by
      funext z
      by_cases hz : z = x
      · simp [hz]
      · by_cases hz' : z = y
        · subst hz'; simp [hz, ha]
        · simp [hz, hz', hm z hz hz']
    rw [e] at F₁
    exact turn i v a nx h tk own J hi hP hv hI ho hnx F₁ N₁
  · rintro m₁ nx h tk ⟨⟨a, ha, hv⟩, hm, hI⟩ F₁ N₁
    have e : m₁ = fun z => if z = x then m₁ z else if z = y then some a else m₀ z := by
      funext z
      by_cases hz : z = x
      · simp [hz]
      · by_cases hz' : z = y
        · subst hz'; simp [hz, ha]
        · simp [hz, hz', hm z hz hz']
    rw [e] at F₁
    exact done m₁ a nx h tk hv hI F₁ N₁
theorem for_end {L : Addr} {Jn : (Str → Option Value) → List (Addr × Obj) → Prop} {own nx' : List (Addr × Obj)} {I : Addr} {h' : Heap} {tk : Nat} {m' : Str → Option Value} (F : Fr h₀ L h' m') (N : News h₀ L h' (nx' ++ own)) (hI : ∀ p ∈ nx', p.1 ≠ I) (hJ : Jn m' nx') :
    ForPost h₀ L Jn own I s Q .next { s with heap := h', toks := tk } := ⟨h', tk, m', nx', rfl, F, N, hI, hJ⟩
theorem s_star : Str.ofString "*" = ⟨#[42]⟩ := by decide
theorem s_zero : Str.ofString "0" = ⟨#[48]⟩ := by decide
theorem s_nine : Str.ofString "9" = ⟨#[57]⟩ := by decide
theorem s_colon : Str.ofString ":" = ⟨#[58]⟩ := by decide
theorem s_comma : Str.ofString "," = ⟨#[44]⟩ := by decide
theorem size_range {n : Nat} : Builtin.Range.rangeSize 0 (n : Int) 1 = (n : Int) := by
  unfold Builtin.Range.rangeSize
  rw [if_pos (by decide)]
  split <;> omega
section
variable {Q : Flow → Shared → Prop} {L : Addr} {m₀ : Str → Option Value} {news : List (Addr × Obj)}
def Acc2 (y₁ y₂ : Str) (v₁ v₂ : Nat → Value → Prop) (I : Nat → List (Addr × Obj) → Prop) (K : Nat) (m₀ : Str → Option Value) (k : Nat) (m : Str → Option Value) (l : List (Addr × Obj)) : Prop :=
  ∃ i, i ≤ K ∧ k = K - i ∧ (∃ a, m y₁ = some a ∧ v₁ i a) ∧ (∃ a, m y₂ = some a ∧ v₂ i a) ∧ (∀ z, z ≠ y₁ → z ≠ y₂ → m z = m₀ z) ∧ I i l
/-- a while of K turns at most that stores two names -/
theorem while_acc2 {test : Expr} {wbody : List Stmt} {pos : Pos} (y₁ y₂ : Str) (v₁ v₂ : Nat → Value → Prop) (I : Nat → List (Addr × Obj) → Prop) (K : Nat) (hy : y₁ ≠ y₂)
    (F : Fr h₀ L s.heap m₀) (N : News h₀ L s.heap news) (h1 : ∃ a, m₀ y₁ = some a ∧ v₁ 0 a) (h2 : ∃ a, m₀ y₂ = some a ∧ v₂ 0 a) (hI : I 0 news)
    (turn : ∀ i a₁ a₂ nx h tk, i ≤ K → v₁ i a₁ → v₂ i a₂ → I i nx → Fr h₀ L h (fun z => if z = y₁ then some a₁ else if z = y₂ then some a₂ else m₀ z) → News h₀ L h nx →
      wpAny (model prog w) A (isTrue test env (eval test env)) (fun b s₂ =>
        if b = true then wpAny (model prog w) A (execs wbody env) (WhileStep2 h₀ L s (Acc2 y₁ y₂ v₁ v₂ I K m₀) Q (K - i)) E s₂ else Q .next s₂) E { s with heap := h, toks := tk })
    (hE : PassesOwn (model prog w) A env E := by passes_own) :
    AtStop (wpAny (model prog w) A (exec (.While test wbody [] pos) env) Q E s) := by
  refine while_by (Acc2 y₁ y₂ v₁ v₂ I K m₀) K F N ⟨0, Nat.zero_le _, rfl, h1, h2, fun _ _ _ => rfl, hI⟩ ?_ hE
  rintro n m₁ nx h tk ⟨i, hi, rfl, ⟨a₁, e1, g1⟩, ⟨a₂, e2, g2⟩, hm, hl⟩ F₁ N₁
  have e : m₁ = fun z => if z = y₁ then some a₁ else if z = y₂ then some a₂ else m₀ z := by
    funext z
    by_cases hz : z = y₁
    · subst hz; simp [e1]
    · by_cases hz' : z = y₂
      · subst hz'; simp [hz, e2]
      · simp [hz, hz', hm z hz hz']
  rw [e] at F₁
  exact turn i a₁ a₂ nx h tk hi g1 g2 hl F₁ N₁
theorem acc2_end {y₁ y₂ : Str} {v₁ v₂ : Nat → Value → Prop} {I : Nat → List (Addr × Obj) → Prop} {K i tk : Nat} {h' : Heap} {m₂ : Str → Option Value} {nx : List (Addr × Obj)} (F : Fr h₀ L h' m₂) (N : News h₀ L h' nx) (hn : i < K)
    (h1 : ∃ a, m₂ y₁ = some a ∧ v₁ (i + 1) a) (h2 : ∃ a, m₂ y₂ = some a ∧ v₂ (i + 1) a) (hm : ∀ z, z ≠ y₁ → z ≠ y₂ → m₂ z = m₀ z) (hI : I (i + 1) nx) :
    WhileStep2 h₀ L s (Acc2 y₁ y₂ v₁ v₂ I K m₀) Q (K - i) .next { s with heap := h', toks := tk } :=
  while_end F N (show K - (i + 1) < K - i by omega) ⟨i + 1, hn, rfl, h1, h2, hm, hI⟩
end
section
variable {Q : Flow → Shared → Prop} {L : Addr} {m₀ : Str → Option Value} {news : List (Addr × Obj)}
def Loose3 (y l₁ l₂ : Str) (I : Nat → Value → List (Addr × Obj) → Prop) (K : Nat) (m₀ : Str → Option Value) (k : Nat) (m : Str → Option Value) (l : List (Addr × Obj)) : Prop :=
  ∃ i, i ≤ K ∧ k = K - i ∧ (∃ a, m y = some a ∧ I i a l) ∧ (∀ z, z ≠ y → z ≠ l₁ → z ≠ l₂ → m z = m₀ z)
/-- a while of K turns at most that stores one name that counts and two that do not -/
theorem while_loose3 {test : Expr} {wbody : List Stmt} {pos : Pos} {D : Addr} {o₀ : Obj} {rest : List (Addr × Obj)} (y l₁ l₂ : Str) (I : Addr → Nat → Value → List (Addr × Obj) → Prop) (K : Nat)
    (F : Fr h₀ L s.heap m₀) (N : News h₀ L s.heap ((D, o₀) :: rest)) (h1 : ∃ a, m₀ y = some a ∧ I D 0 a ((D, o₀) :: rest))
    (turn : ∀ i a (u : Str → Option Value) nx h tk, i ≤ K → I D i a nx → Fr h₀ L h (fun z => if z = y then some a else if z = l₁ then u z else if z = l₂ then u z else m₀ z) → News h₀ L h nx →
      wpAny (model prog w) A (isTrue test env (eval test env)) (fun b s₂ =>
        if b = true then wpAny (model prog w) A (execs wbody env) (WhileStep2 h₀ L s (Loose3 y l₁ l₂ (I D) K m₀) Q (K - i)) E s₂ else Q .next s₂) E { s with heap := h, toks := tk })
    (hE : PassesOwn (model prog w) A env E := by passes_own) :
    AtStop (wpAny (model prog w) A (exec (.While test wbody [] pos) env) Q E s) := by
  refine while_by (Loose3 y l₁ l₂ (I D) K m₀) K F N ⟨0, Nat.zero_le _, rfl, h1, fun _ _ _ _ => rfl⟩ ?_ hE
  rintro n m₁ nx h tk ⟨i, hi, rfl, ⟨a, e1, g1⟩, hm⟩ F₁ N₁
  have e : m₁ = fun z => if z = y then some a else if z = l₁ then m₁ z else if z = l₂ then m₁ z else m₀ z := by
    funext z
    by_cases hz : z = y
    · subst hz; simp [e1]
    · by_cases hz1 : z = l₁
      · subst hz1; simp [hz]
      · by_cases hz2 : z = l₂
        · subst hz2; simp [hz, hz1]
        · simp [hz, hz1, hz2, hm z hz hz1 hz2]
  rw [e] at F₁
  exact turn i a m₁ nx h tk hi g1 F₁ N₁
theorem loose3_end {y l₁ l₂ : Str} {I : Nat → Value → List (Addr × Obj) → Prop} {K i tk : Nat} {h' : Heap} {m₂ : Str → Option Value} {nx : List (Addr × Obj)} (F : Fr h₀ L h' m₂) (N : News h₀ L h' nx) (hn : i < K)
    (h1 : ∃ a, m₂ y = some a ∧ I (i + 1) a nx) (hm : ∀ z, z ≠ y → z ≠ l₁ → z ≠ l₂ → m₂ z = m₀ z) :
    WhileStep2 h₀ L s (Loose3 y l₁ l₂ I K m₀) Q (K - i) .next { s with heap := h', toks := tk } :=
  while_end F N (show K - (i + 1) < K - i by omega) ⟨i + 1, hn, rfl, h1, hm⟩
end
theorem one_eq {c d : Nat} : ((⟨#[c]⟩ : Str) == ⟨#[d]⟩) = true ↔ c = d := by
  rw [beq_iff_eq]; simp
theorem one_ne {c d : Nat} : ((⟨#[c]⟩ : Str) == ⟨#[d]⟩) = false ↔ c ≠ d := by
  rw [beq_eq_false_iff_ne]; simp
theorem one_lt {c d : Nat} : (⟨#[c]⟩ : Str).cps.toList < (⟨#[d]⟩ : Str).cps.toList ↔ c < d := by
  show [c] < [d] ↔ c < d
  constructor
  · intro h
    cases h with
    | rel h => exact h
    | cons h => cases h
  · intro h; exact List.Lex.rel h
theorem one_lt' {c d : Nat} : (#[c] : Array Nat).toList < (#[d] : Array Nat).toList ↔ c < d := one_lt
theorem one_lt2 {c d : Nat} : [c] < [d] ↔ c < d := one_lt
theorem small_range {n : Nat} (h : n ≤ 1000000) : Builtin.Range.small 0 (n : Int) 1 = true := by
  unfold Builtin.Range.small
  rw [size_range]
  have f : ∀ z : Int, -1 ≤ z → z ≤ 1000000 → Builtin.Range.rangeFitsLong z = true := fun z h0 h1 => by
    unfold Builtin.Range.rangeFitsLong
    rw [Bool.and_eq_true, decide_eq_true_eq, decide_eq_true_eq]
    omega
  rw [f 0 (by decide) (by decide), f n (by omega) (by omega), f 1 (by decide) (by decide)]
  rw [if_pos (by decide), f ((n : Int) + (1 - 1)) (by omega) (by omega)]
  simp
theorem ItSrc.upto {r : Addr} {t u v : Tok} {n : Nat} (hh : A.handled = none) (hr : IsRange s.heap r 0 (n : Int) 1 t u v) (hn : n ≤ 1000000) :
    ItSrc prog w A (.ref r) s [] n (fun i v => ∃ t, v = .int (i : Int) t) := by
  have h := ItSrc.range (prog := prog) (w := w) (n := n) hh hr (small_range hn) size_range
  intro Q E hq
  refine h Q E fun o St fp hfp W hst => hq o St fp hfp ?_ hst
  refine { W with item := ?_ }
  intro i s' Q' E' hi st hQ
  exact W.item i s' Q' E' hi st fun v h' t' hv st' hk => hQ v h' t' (by obtain ⟨t, rfl⟩ := hv; exact ⟨t, by rw [Int.zero_add]⟩) st' hk
end
section
variable {prog : Program} {w : World} {A : Around} {s : Shared} {E : Value → Shared → Prop} {env : Env} {h₀ : Heap} {L : Addr} {m : Str → Option Value}
/-- a comprehension, with the frame told first -/
theorem comp_by {elt iter : Expr} {x : Str} {px : Pos} {ifs : List Expr} {scope : Scope} {cl : List (Str × Addr)} {pos : Pos} {Q : Value → Shared → Prop} (p : Value → Bool) (G : Value → Value → Prop)
    (_F : Fr h₀ L s.heap m)
    (h : wpAny (model prog w) A (eval iter env) (fun xv s₁ => AtStop (∃ news as n P, Fr h₀ L s₁.heap m ∧ News h₀ L s₁.heap news ∧ ItSrc prog w A xv s₁ as n P ∧ n ≤ sizeLine ∧
      (∀ C i v s₂ m₂ (E' : Value → Shared → Prop), P i v → Fr h₀ L s₂.heap m → News h₀ L s₂.heap news → s₂.heap.Ns C m₂ → m₂ x = some v →
        wpAny (model prog w) A (testsOf ifs (compEnvC scope cl C env)) (fun ok s₃ => ok = p v ∧ Keeps s₂ s₃) E' s₂) ∧
      (∀ C i v s₂ m₂ (E' : Value → Shared → Prop), P i v → p v = true → Fr h₀ L s₂.heap m → News h₀ L s₂.heap news → s₂.heap.Ns C m₂ → m₂ x = some v →
        wpAny (model prog w) A (eval elt (compEnvC scope cl C env)) (fun y s₃ => AtStop (G v y ∧ Keeps s₂ s₃)) E' s₂) ∧
      (∀ D nn (vs ys : List Value) h' tk, vs.length = n → (∀ (j : Nat) v, vs[j]? = some v → P j v) → Paired G (vs.filter p) ys → Fr h₀ L h' m → News h₀ L h' ((D, { cls := .type "list", data := .seq ys.toArray nn }) :: news) → (∀ q ∈ news, q.1 ≠ D) →
        Q (.ref D) { s₁ with heap := h', toks := tk }))) E s)
    (hclos : closureFor scope env = pure cl := by with_unfolding_all rfl) (hcell : ∀ y ∈ scope.names, y.2 ≠ .cell := by decide) (hkind : scope.kind = .function := by rfl)
    (hnames : ∀ y ∈ scope.names, y.2 = .local → scope.names.lookup y.1 = some .local := by decide) (hx : scope.names.lookup x = some .local := by rfl)
    (hs : ∀ x, foldedSetIterable iter env x = pure x := by intro _; rfl) :
    AtStop (wpAny (model prog w) A (eval (.ListComp elt [⟨.Name x px, iter, ifs, 0⟩] scope pos) env) Q E s) := by
  refine comp_keep (h₀ := h₀) (L := L) (m := m) hclos hcell hkind hnames hx (wpAny_mono h (fun xv s₁ h₁ => ?_) fun _ _ e => e) hs
  obtain ⟨news, as, n, P, h⟩ := h₁
  exact ⟨news, as, n, P, p, G, h⟩
end
theorem keeps_rfl {s : Shared} {k : Nat} : Keeps s { s with toks := k } := ⟨_, _, rfl, fun _ _ h => h⟩
theorem keeps_same {s : Shared} : Keeps s s := ⟨_, _, rfl, fun _ _ h => h⟩
theorem strs_of {α : Type} {R : α → Value → Prop} {G : Value → Value → Prop} (f : α → Str) (hr : ∀ a v y, R a v → G v y → ∃ t, y = .str (f a) t) : ∀ (l : List α) (vs ys : List Value), vs.length = l.length →
    (∀ (j : Nat) v, vs[j]? = some v → ∃ a, l[j]? = some a ∧ R a v) → Paired G (vs.filter fun _ => true) ys → StrsAre ys (l.map f)
  | [], [], ys, _, _, h => by
    cases h; exact .nil
  | a :: l, v :: vs, ys, hl, hP, h => by
    rw [List.filter_cons_of_pos rfl] at h
    cases h with
    | cons h1 h2 =>
      obtain ⟨a', ha, hR⟩ := hP 0 v rfl
      cases ha
      obtain ⟨t, rfl⟩ := hr a _ _ hR h1
      exact .cons _ _ (strs_of f hr l vs _ (Nat.succ.inj hl) (fun j v hv => hP (j + 1) v hv) h2)
  | [], _ :: _, _, hl, _, _ => nomatch hl
  | _ :: _, [], _, hl, _, _ => nomatch hl
theorem ints_of {α : Type} {R : α → Value → Prop} {G : Value → Value → Prop} (f : α → Int) (hr : ∀ a v y, R a v → G v y → ∃ t, y = .int (f a) t) : ∀ (l : List α) (vs ys : List Value), vs.length = l.length →
    (∀ (j : Nat) v, vs[j]? = some v → ∃ a, l[j]? = some a ∧ R a v) → Paired G (vs.filter fun _ => true) ys → IntsAre ys (l.map f)
  | [], [], ys, _, _, h => by
    cases h; exact .nil
  | a :: l, v :: vs, ys, hl, hP, h => by
    rw [List.filter_cons_of_pos rfl] at h
    cases h with
    | cons h1 h2 =>
      obtain ⟨a', ha, hR⟩ := hP 0 v rfl
      cases ha
      obtain ⟨t, rfl⟩ := hr a _ _ hR h1
      exact .cons _ _ (ints_of f hr l vs _ (Nat.succ.inj hl) (fun j v hv => hP (j + 1) v hv) h2)
  | [], _ :: _, _, hl, _, _ => nomatch hl
  | _ :: _, [], _, hl, _, _ => nomatch hl
theorem sum_ones {α : Type} (f : α → Str) (h : ∀ a, (f a).length = 1) : ∀ l : List α, ((l.map f).map (·.length)).sum = l.length
  | [] => rfl
  | a :: l => by simp only [List.map_cons, List.sum_cons, List.length_cons, h, sum_ones f h l]; omega
theorem str_ext {x y : Str} (h : x.cps.toList = y.cps.toList) : x = y := by
  cases x; cases y; simp only [Str.mk.injEq]; exact Array.toList_inj.mp h
theorem str_app (x y : Str) : (x ++ y).cps.toList = x.cps.toList ++ y.cps.toList := Array.toList_append
theorem join_ones : ∀ l : List Nat, (Txt.join ⟨#[]⟩ (l.map fun c => (⟨#[c]⟩ : Str))).cps.toList = l := by
  intro l
  show (Builtin.Str.glued _ _).cps.toList = l
  rw [StrLaws.glued_eq_join]
  induction l with
  | nil => rfl
  | cons a l ih =>
    cases l with
    | nil => rfl
    | cons b r =>
      show ((⟨#[a]⟩ : Str) ++ (⟨#[]⟩ : Str) ++ Str.join ⟨#[]⟩ ((b :: r).map fun c => (⟨#[c]⟩ : Str))).cps.toList = _
      rw [str_app, str_app, ih]
      rfl
theorem arr_getD {α : Type} {a : Array α} {i : Nat} {d : α} (h : i < a.size) : a.getD i d ∈ a.toList := by
  simp [Array.getD, h]
theorem mem_getD {α : Type} {l : List α} {i : Nat} {d : α} (h : i < l.length) : l.getD i d ∈ l := by
  rw [List.getD_eq_getElem?_getD, List.getElem?_eq_getElem h]
  exact List.getElem_mem h
end Mine
end

section
open PySem PySem.W PySem.Spec PySem.Calls PyProof.Rows PySem.NumText
set_option Elab.async false
set_option maxRecDepth 100000
namespace Mine
/-- a number's figures -/
def dg (n : Nat) : List Nat := (Nat.toDigits 10 n).map Char.toNat
theorem dg_str (n : Nat) : (Str.ofString (toString (n : Int))).cps.toList = dg n := KIN.signs_num n
theorem dg_val (n : Nat) : digitsVal (dg n) = n := KIN.val_back n
theorem dg_small {n : Nat} (h : n < 10) : dg n = [48 + n] := by
  unfold dg
  rw [Nat.toDigits_of_lt_base h]
  have : ∀ d : Nat, d < 10 → (Nat.digitChar d).toNat = 48 + d := by decide
  simp [this n h]
theorem dg_big {n : Nat} (h : 10 ≤ n) : dg n = dg (n / 10) ++ [48 + n % 10] := by
  unfold dg
  rw [Nat.toDigits_of_base_le (by decide) h, List.map_append]
  have : ∀ d : Nat, d < 10 → (Nat.digitChar d).toNat = 48 + d := by decide
  simp [this (n % 10) (Nat.mod_lt n (by decide))]
theorem dg_all (n : Nat) : ∀ c ∈ dg n, 48 ≤ c ∧ c ≤ 57 := by
  induction n using Nat.strongRecOn with
  | _ n ih =>
    intro c hc
    by_cases h : n < 10
    · rw [dg_small h] at hc
      have := List.mem_singleton.mp hc
      omega
    · rw [dg_big (by omega)] at hc
      rcases List.mem_append.mp hc with hc | hc
      · exact ih (n / 10) (by omega) c hc
      · have := List.mem_singleton.mp hc
        have := Nat.mod_lt n (show 0 < 10 by decide)
        omega
theorem dg_pos (n : Nat) : 0 < (dg n).length := by
  by_cases h : n < 10
  · rw [dg_small h]; exact Nat.one_pos
  · rw [dg_big (by omega), List.length_append]
    show 0 < _ + 1
    omega
theorem dg_head (n : Nat) (hn : 0 < n) : (dg n).getD 0 0 ≠ 48 := by
  induction n using Nat.strongRecOn with
  | _ n ih =>
    by_cases h : n < 10
    · rw [dg_small h]; show 48 + n ≠ 48; omega
    · rw [dg_big (by omega)]
      have hp := dg_pos (n / 10)
      have e : (dg (n / 10) ++ [48 + n % 10]).getD 0 0 = (dg (n / 10)).getD 0 0 := by
        rw [List.getD_eq_getElem?_getD, List.getD_eq_getElem?_getD, List.getElem?_append_left hp]
      rw [e]
      exact ih (n / 10) (by omega) (by omega)
theorem dg_len : ∀ (k n : Nat), n < 10 ^ (k + 1) → (dg n).length ≤ k + 1
  | 0, n, h => by
    rw [dg_small (by simpa using h)]; exact Nat.le_refl _
  | k + 1, n, h => by
    by_cases hn : n < 10
    · rw [dg_small hn]; show 1 ≤ _; omega
    · rw [dg_big (by omega), List.length_append]
      have := dg_len k (n / 10) (by rw [Nat.pow_succ] at h; omega)
      show _ + 1 ≤ _
      omega
theorem digitsVal_snoc' (l : List Nat) (c : Nat) : digitsVal (l ++ [c]) = digitsVal l * 10 + (c - 48) := digitsVal_snoc l c
theorem digitsVal_le (l r : List Nat) : digitsVal l ≤ digitsVal (l ++ r) := by
  unfold digitsVal
  rw [List.foldl_append]
  generalize l.foldl (fun acc c => acc * 10 + (c - 48)) 0 = a
  induction r generalizing a with
  | nil => exact Nat.le_refl _
  | cons c r ih => exact Nat.le_trans (by omega) (ih (a * 10 + (c - 48)))
theorem digitsVal_take (l : List Nat) (i : Nat) (h : i < l.length) : digitsVal (l.take (i + 1)) = digitsVal (l.take i) * 10 + (l.getD i 0 - 48) := by
  rw [List.take_add_one, List.getElem?_eq_getElem h]
  rw [show (some l[i]).toList = [l[i]] from rfl, digitsVal_snoc', List.getD_eq_getElem?_getD, List.getElem?_eq_getElem h]
  rfl
theorem digitsVal_take_le (l : List Nat) (i : Nat) : digitsVal (l.take i) ≤ digitsVal l := by
  have := digitsVal_le (l.take i) (l.drop i)
  rwa [List.take_append_drop] at this
end Mine
namespace Mine
/-- the heap bears the datum at v -/
def DatH (h : Heap) (v : Value) (d : Dat) : Prop := ∃ led, (∀ p ∈ led, h.get? p.1 = some p.2) ∧ DatIn led v d
theorem DatH.keeps {h h' : Heap} {v : Value} {d : Dat} (D : DatH h v d) (k : ∀ b o, h.get? b = some o → h'.get? b = some o) : DatH h' v d := by
  obtain ⟨led, hl, hd⟩ := D
  exact ⟨led, fun p hp => k _ _ (hl p hp), hd⟩
theorem DatH.of_news {h₀ h : Heap} {L : Addr} {news l : List (Addr × Obj)} {v : Value} {d : Dat} (N : News h₀ L h news) (D : DatIn l v d) (sub : ∀ p ∈ l, p ∈ news) : DatH h v d :=
  ⟨l, fun p hp => (N p (sub p hp)).1, D⟩
theorem DatH.int {h : Heap} {v : Value} {i : Int} (D : DatH h v (.int i)) : ∃ t, v = .int i t := by
  obtain ⟨led, hl, hd⟩ := D
  cases hd; exact ⟨_, rfl⟩
theorem DatH.str {h : Heap} {v : Value} {x : Str} (D : DatH h v (.str x)) : ∃ t, v = .str x t := by
  obtain ⟨led, hl, hd⟩ := D
  cases hd; exact ⟨_, rfl⟩
theorem datAll_at {led : List (Addr × Obj)} : ∀ {vs : List Value} {ds : List Dat}, DatAll led vs ds → ∀ (j : Nat) v, vs[j]? = some v → ∃ d, ds[j]? = some d ∧ DatIn led v d
  | _, _, .nil, j, v, h => by simp at h
  | _, _, .cons h r, 0, v, e => by cases e; exact ⟨_, rfl, h⟩
  | _, _, .cons h r, j + 1, v, e => datAll_at r j v e
theorem DatH.tuple {h : Heap} {v : Value} {ds : List Dat} (D : DatH h v (.tuple ds)) :
    ∃ (r : Addr) (vs : List Value), v = .ref r ∧ h.IsTuple r vs.toArray ∧ vs.length = ds.length ∧ ∀ (j : Nat) u, vs[j]? = some u → ∃ d, ds[j]? = some d ∧ DatH h u d := by
  obtain ⟨led, hl, hd⟩ := D
  cases hd with
  | @tuple a vs n _ hm hr =>
    refine ⟨a, vs, rfl, ⟨_, hl _ hm, rfl, n, rfl⟩, PySem.W.DatAll.length hr, ?_⟩
    intro j u e
    obtain ⟨d, h1, h2⟩ := datAll_at hr j u e
    exact ⟨d, h1, led, hl, h2⟩
theorem DatH.list {h : Heap} {v : Value} {ds : List Dat} (D : DatH h v (.list ds)) :
    ∃ (r : Addr) (vs : List Value), v = .ref r ∧ h.IsList r vs.toArray ∧ vs.length = ds.length ∧ ∀ (j : Nat) u, vs[j]? = some u → ∃ d, ds[j]? = some d ∧ DatH h u d := by
  obtain ⟨led, hl, hd⟩ := D
  cases hd with
  | @list a vs n _ hm hr =>
    refine ⟨a, vs, rfl, ⟨_, hl _ hm, rfl, n, rfl⟩, PySem.W.DatAll.length hr, ?_⟩
    intro j u e
    obtain ⟨d, h1, h2⟩ := datAll_at hr j u e
    exact ⟨d, h1, led, hl, h2⟩
theorem DatH.pair {h : Heap} {v : Value} {a b : Int} (D : DatH h v (.tuple [.int a, .int b])) : ∃ r t u, v = .ref r ∧ h.IsTuple r #[.int a t, .int b u] := by
  obtain ⟨r, vs, rfl, hT, hl, hd⟩ := D.tuple
  match vs, hl with
  | [x, y], _ =>
    obtain ⟨d, h1, h2⟩ := hd 0 x rfl
    cases h1
    obtain ⟨t, rfl⟩ := h2.int
    obtain ⟨d, h1, h2⟩ := hd 1 y rfl
    cases h1
    obtain ⟨u, rfl⟩ := h2.int
    exact ⟨r, t, u, rfl, hT⟩
end Mine
end

section
open PySem PySem.W PySem.Spec PySem.Calls PyProof.Rows
set_option Elab.async false
set_option maxRecDepth 100000
namespace Mine
section
variable {prog : Program} {w : World} {A : Around} {E : Value → Shared → Prop} {s : Shared} {h₀ : Heap} {L D : Addr} {m : PySem.Str → Option Value} {news news' rest : List (Addr × Obj)} {Q : Value → Shared → Prop}
theorem len_listN {its : Array Value} {n : Nat} (N : News h₀ L s.heap news) (hm : (D, listOf its n) ∈ news) (hz : its.size ≤ 16777216) (h : ∀ t' k, Q (.int (its.size : Int) t') { s with toks := k }) : wpAny (model prog w) A (call (.builtin "len") [.ref D]) Q E s :=
  PyProof.Rows.len_list (N.isList hm) (by omega) (h _ _)
theorem len_last {vs : List Value} {u : Value} {n : Nat} (N : News h₀ L s.heap news) (hm : (D, listOf (vs ++ [u]).toArray n) ∈ news) (hz : vs.length ≤ 1000000) (h : ∀ t' k, Q (.int ((vs.length + 1 : Nat) : Int) t') { s with toks := k }) : wpAny (model prog w) A (call (.builtin "len") [.ref D]) Q E s := by
  refine len_listN N hm (by simp; omega) fun t' k => ?_
  have e : (vs ++ [u]).toArray.size = vs.length + 1 := by simp
  rw [e]; exact h t' k
theorem last_item {value slice : PySem.Expr} {vs : List Value} {u : Value} {n : Nat} {t : Tok} (N : News h₀ L s.heap news) (hm : (D, listOf (vs ++ [u]).toArray n) ∈ news) (h : Q u s)
    (hs : subscripted slice false (.ref D) (.int (-1) t) = operate [.ref D, .int (-1) t] (getItem (.ref D) (.int (-1) t)) := by with_unfolding_all rfl) :
    wpAny (model prog w) A (subscriptTail value slice (.ref D) (.int (-1) t)) Q E s := by
  have hl := N.isList hm
  refine tail_any hl.typeIs slot_list_getitem.lookup (wpAny_getItem_list_neg hl (by decide) (by simp; omega) (by decide) ?_ h) hs
  have e : ((-1 : Int) + ((vs ++ [u]).toArray.size : Int)).toNat = vs.length := by simp; omega
  rw [e]; simp
theorem tuple_push {vs : List Value} {v : Value} {n : Nat} (F : Fr h₀ L s.heap m) (N : News h₀ L s.heap news) (hm : (D, listOf (vs.toArray.push v) n) ∈ news) (hz : vs.length ≤ 10000)
    (h : ∀ E h', Fr h₀ L h' m → News h₀ L h' ((E, ({ cls := .type "tuple", data := .seq (vs ++ [v]).toArray } : Obj)) :: news) → (∀ p ∈ news, p.1 < E) → Q (.ref E) { s with heap := h' }) : wpAny (model prog w) A (call (.type "tuple") [.ref D]) Q E s :=
  kde_tupleOf F N (N.isList hm) (by simp; omega) (by simp) h
theorem tuple_of {vs : List Value} {n : Nat} (F : Fr h₀ L s.heap m) (N : News h₀ L s.heap news) (hm : (D, ({ cls := .type "list", data := .seq vs.toArray n } : Obj)) ∈ news) (hz : vs.length ≤ 10000)
    (h : ∀ E h', Fr h₀ L h' m → News h₀ L h' ((E, ({ cls := .type "tuple", data := .seq vs.toArray } : Obj)) :: news) → (∀ p ∈ news, p.1 < E) → Q (.ref E) { s with heap := h' }) : wpAny (model prog w) A (call (.type "tuple") [.ref D]) Q E s :=
  kde_tupleOf F N (N.isList hm) (by simp; omega) (by simp) h
theorem setL_last {v u : Value} : ∀ vs : List Value, ki_setL (vs ++ [u]) vs.length v = some (vs ++ [v])
  | [] => rfl
  | x :: vs => by
    show (match ki_setL (vs ++ [u]) vs.length v with | some q => some (x :: q) | none => none) = _
    rw [setL_last vs]; rfl
theorem set_last {vs : List Value} {u v : Value} {n : Nat} {t : Tok} {Q : Unit → Shared → Prop} (F : Fr h₀ L s.heap m) (N : News h₀ L s.heap news) (U : Upd D (listOf (vs ++ [u]).toArray n) (listOf (vs ++ [v]).toArray n) news news')
    (h : ∀ h', Fr h₀ L h' m → News h₀ L h' news' → Q () { s with heap := h' }) : wpAny (model prog w) A (setItem (.ref D) (.int (-1) t) v) Q E s := by
  refine ki_setNeg (j := vs.length) F N (by decide) (by decide) ?_ (setL_last vs) U h
  rw [seqIndex_neg (by decide) (by simp; omega)]
  congr 1
  simp; omega
end
theorem strs_dat {led : List (Addr × Obj)} : ∀ {vs : List Value} {xs : List Str}, StrsAre vs xs → DatAll led vs (xs.map Dat.str)
  | _, _, .nil => .nil
  | _, _, .cons _ _ h => .cons (.str _ _) (strs_dat h)
theorem strs_at : ∀ {vs : List Value} {xs : List Str}, StrsAre vs xs → ∀ (i : Nat) v, vs[i]? = some v → ∃ x t, xs[i]? = some x ∧ v = .str x t
  | _, _, .nil, i, v, h => by simp at h
  | _, _, .cons y t r, 0, v, h => by cases h; exact ⟨y, t, rfl, rfl⟩
  | _, _, .cons y t r, i + 1, v, h => strs_at r i v h
end Mine
end

section
open PySem PySem.W PySem.Spec PySem.Calls PyProof.Rows
set_option Elab.async false
set_option maxRecDepth 100000
namespace Mine
theorem all_dx {x dx : Addr} {nw : List (Addr × Obj)} (h : ∀ r ∈ nw, r.1 ≠ x ∧ r.1 ≠ dx) : ∀ p ∈ nw, p.1 ≠ dx := fun p hp => (h p hp).2
/-- the octets from p on -/
def AtP (W : Wr) (p : Nat) (l : List UInt8) : Prop := W.d.toList.drop p = l
section
variable {W : Wr} {p : Nat} {c : UInt8} {l R : List UInt8}
theorem AtP.tail (h : AtP W p (c :: l)) : AtP W (p + 1) l := by
  have := congrArg List.tail h
  simpa [AtP, List.tail_drop] using this
theorem AtP.app (h : AtP W p (R ++ l)) : AtP W (p + R.length) l := by
  show W.d.toList.drop (p + R.length) = l
  rw [← List.drop_drop, show W.d.toList.drop p = R ++ l from h, List.drop_left]
theorem AtP.size (h : AtP W p l) (hl : 0 < l.length) : p + l.length = W.d.size := by
  have := congrArg List.length (show W.d.toList.drop p = l from h)
  simp only [List.length_drop, Array.length_toList] at this
  omega
theorem AtP.get {i : Nat} (h : AtP W p l) : W.d.toList.getD (p + i) 0 = l.getD i 0 := by
  rw [← (show W.d.toList.drop p = l from h), List.getD_eq_getElem?_getD, List.getD_eq_getElem?_getD, List.getElem?_drop]
theorem AtP.cut_ (h : AtP W p (R ++ l)) : cut W.d p (p + R.length) = R.toArray := by
  unfold cut
  rw [show W.d.toList.drop p = R ++ l from h, Nat.add_sub_cancel_left, List.take_left]
theorem AtP.run (h : AtP W p (R ++ c :: l)) (P : Int → Bool) (hR : ∀ c ∈ R, P c.toNat = true) (hc : P c.toNat = false) :
    p + R.length ≤ W.d.size ∧ (∀ i, p ≤ i → i < p + R.length → P (W.d.toList.getD i 0).toNat = true) ∧ (p + R.length < W.d.size → P (W.d.toList.getD (p + R.length) 0).toNat = false) := by
  have hs := h.size (by simp; omega)
  simp only [List.length_append, List.length_cons] at hs
  refine ⟨by omega, fun i h1 h2 => ?_, fun _ => ?_⟩
  · have e := AtP.get (i := i - p) h
    rw [show p + (i - p) = i by omega] at e
    rw [e, List.getD_eq_getElem?_getD, List.getElem?_append_left (by omega), ← List.getD_eq_getElem?_getD]
    exact hR _ (mem_getD (by omega))
  · rw [AtP.get h, List.getD_eq_getElem?_getD, List.getElem?_append_right (Nat.le_refl _), Nat.sub_self]
    exact hc
end
end Mine
end

section
open PySem PySem.W PySem.Spec PySem.Calls PyProof.Rows
set_option Elab.async false
set_option maxRecDepth 100000
namespace Mine
namespace JB
open Builtin
theorem slot_join : Slot "bytes" "join" "bytes.join" :=
  .of (owner := "bytes") (n := "join") (by rw [typeLookup_type, builtinLookup_eq_fast]; kernel_rfl) (by decide +kernel) (by decide +kernel) (by decide +kernel)
    (by first | exact .inl (by decide +kernel) | exact .inr (by decide +kernel)) (by rw [isSubtype_type]; kernel_rfl)
theorem type_join : typeOf (.builtin "bytes.join") = pure (.type "method_descriptor") := by show builtinType _ = _; rw [builtinType_eq_fast]; kernel_rfl
theorem entry_join : entryFor table "bytes.join" = some Builtin.«bytes.join» := entryFor_of_tree (by kernel_rfl)
theorem args_join_2 (a b : Value) : argsOk "bytes.join" ⟨[a, b], []⟩ := by
  unfold argsOk; rw [signature?_of (id := "bytes.join") (n := ['n', 'i', 'o', 'j']) (o := ['s', 'e', 't', 'y', 'b']) (by kernel_rfl) FB.owner_bytes]; kernel_rfl
theorem getm_join {M : Model} {A : Around} {E : Value → Shared → Prop} {s : Shared} {b : Array UInt8} {t : Tok} {pl : Sem Bool} {Q : Value × List Value → Shared → Prop} (h : Q (.builtin "bytes.join", [.bytes b t]) s) : wpAny M A (getMethod (.bytes b t) "join" pl) Q E s := by
  with_reducible exact KBd.method_of (.bytes b t) (typeIs_bytes _ _ _) slot_join type_join (by intro _ x; cases x) h
theorem buffer_eqF {id : String} {b : Array UInt8} {t : Tok} {full : Bool} : Bytes.buffer? id (.bytes b t) full = pure (some b) := by
  unfold Bytes.buffer?
  rw [KBy.special_eq KBy.look_buffer, KBy.own_buffer, KBy.own_release]
  kernel_rfl
theorem take_eq {id : String} {b : Array UInt8} {t : Tok} : Bytes.takeBuffer? id (.bytes b t) 0 = pure (some (b, none)) := by
  unfold Bytes.takeBuffer?
  rw [KBy.special_eq KBy.look_buffer, KBy.own_buffer, buffer_eqF]
  kernel_rfl
theorem takeQ_eq {id : String} {b : Array UInt8} {t : Tok} : Bytes.takeBufferQuiet? id (.bytes b t) 0 = pure (some (b, none)) := by
  unfold Bytes.takeBufferQuiet?
  rw [take_eq]
  rfl
/-- values that are bytes -/
inductive BytesAre : List Value → List (Array UInt8) → Prop
  | nil : BytesAre [] []
  | cons (b : Array UInt8) (t : Tok) {vs : List Value} {bs : List (Array UInt8)} : BytesAre vs bs → BytesAre (.bytes b t :: vs) (b :: bs)
theorem BytesAre.length : ∀ {vs : List Value} {bs : List (Array UInt8)}, BytesAre vs bs → vs.length = bs.length
  | _, _, .nil => rfl
  | _, _, .cons b t h => by simp [h.length]
theorem BytesAre.get : ∀ {vs : List Value} {bs : List (Array UInt8)}, BytesAre vs bs → ∀ i, i < vs.length → ∃ t, vs[i]? = some (.bytes (bs.getD i #[]) t)
  | _, _, .nil, i, h => nomatch h
  | _, _, .cons b t h, 0, _ => ⟨t, rfl⟩
  | _, _, .cons b t h, i + 1, hi => h.get i (Nat.lt_of_succ_lt_succ hi)
theorem letGo_eq {M : Model} {A : Around} {E : Value → Shared → Prop} : ∀ (taken : List (Value × Option Value)) (keep : List Value) (s : Shared) (Q : Unit → Shared → Prop), (∀ p ∈ taken, p.2 = none) → Q () s → wpAny M A (Bytes.joinLetGo taken keep) Q E s
  | [], keep, s, Q, _, h => wpAny_pure h
  | (x, w) :: rest, keep, s, Q, hn, h => by
    have hw : w = none := hn (x, w) (.head _)
    subst hw
    unfold Bytes.joinLetGo
    refine wpAny_bind ?_
    unfold letGo letGo
    refine wpAny_bind (wpAny_holding (wpAny_point (wpAny_pure ?_)))
    exact letGo_eq rest keep s Q (fun p hp => hn p (.tail _ hp)) h
theorem foldl_size (sep : Array UInt8) : ∀ (l : List (Array UInt8)) (k : Nat) (out : Array UInt8), ((l.zipIdx (k + 1)).foldl (fun out (x : Array UInt8 × Nat) => (if x.2 > 0 then out ++ sep else out) ++ x.1) out).size = l.foldl (fun a b => a + b.size) (out.size + sep.size * l.length)
  | [], k, out => by simp
  | b :: l, k, out => by
    simp only [List.zipIdx_cons, List.foldl_cons, List.length_cons]
    rw [foldl_size sep l (k + 1), if_pos (by omega)]
    congr 1
    simp only [Array.size_append, Nat.mul_succ]
    omega
theorem joined_size (sep : Array UInt8) (bs : List (Array UInt8)) : (Bytes.joined sep bs).size ≤ bs.foldl (fun a b => a + b.size) (sep.size * (bs.length - 1)) := by
  cases bs with
  | nil => simp [Bytes.joined]
  | cons b l =>
    unfold Bytes.joined
    simp only [List.zipIdx_cons, List.foldl_cons]
    rw [foldl_size sep l 0]
    refine Nat.le_of_eq ?_
    congr 1
    simp
    omega
theorem join_call {prog : Program} {w : World} {A : Around} {E : Value → Shared → Prop} {s : Shared} {D : Addr} {o : Obj} {vs : List Value} {bs : List (Array UInt8)} {sep : Array UInt8} {t : Tok} {n : Nat} {Q : Value → Shared → Prop}
    (hD : s.heap.get? D = some o) (hc : o.cls = .type "list") (hd : o.data = .seq vs.toArray n) (hv : BytesAre vs bs) (hz : bs.foldl (fun a b => a + b.size) (sep.size * (bs.length - 1)) ≤ 16777216)
    (h : ∀ t' k, Q (.bytes (Bytes.joined sep bs) t') { s with toks := k }) :
    wpAny (model prog w) A (call (.builtin "bytes.join") [.bytes sep t, .ref D]) Q E s := by
  refine wpAny_call (codeAny_call_builtin slot_join.plain entry_join (slot_join.check _ _ _ _ _ _ _ _ (typeIs_bytes _ _ _) (args_join_2 _ _) ?_))
  have hlen := hv.length
  have hT : s.TypeIs (.ref D) "list" := ⟨o, hD, hc⟩
  unfold Builtin.«bytes.join» Bytes.joinM
  refine wpAny_bind (wpAny_of_eq (a := (Value.bytes sep t, Value.ref D)) (by rfl) ?_)
  show wpAny _ _ (Bytes.joinItems (.ref D) >>= fun seq => _) _ _ s
  refine wpAny_bind ?_
  unfold Bytes.joinItems
  refine wpAny_bind (wpAny_typeOf hT (wpAny_pure ?_))
  show wpAny _ _ (seqItems? (.ref D) >>= fun x => _) _ _ s
  have items : ∀ (s' : Shared) (Q' : Option (Array Value) → Shared → Prop) (A' : Around) (E' : Value → Shared → Prop), s'.heap.get? D = some o → Q' (some vs.toArray) s' → wpAny (model prog w) A' (seqItems? (.ref D)) Q' E' s' := by
    intro s' Q' A' E' h1 h2
    show wpAny _ _ (load D >>= fun o => _) _ _ s'
    refine wpAny_bind (wpAny_load h1 ?_)
    rw [hd]
    exact wpAny_pure h2
  refine wpAny_bind (items s _ _ _ hD ?_)
  have hcase : (∃ b u, vs = [.bytes b u] ∧ bs = [b]) ∨ (vs = [] ∨ ∃ x y r, vs = x :: y :: r) := by
    cases hv with
    | nil => exact .inr (.inl rfl)
    | cons b u h1 => cases h1 with
      | nil => exact .inl ⟨b, u, rfl, rfl⟩
      | cons c v h2 => exact .inr (.inr ⟨_, _, _, rfl⟩)
  rcases hcase with ⟨b, u, rfl, rfl⟩ | hcase
  · show wpAny _ _ (typeOf (.bytes b u) >>= fun _ => _) _ _ s
    refine wpAny_bind (wpAny_typeOf (typeIs_bytes s b u) ?_)
    show wpAny _ _ (rule "bytes.join.one-item" >>= fun _ => _) _ _ s
    refine wpAny_bind (wpAny_rule (wpAny_pure ?_))
    have h9 := h u s.toks
    have e : Bytes.joined sep [b] = b := by simp [Bytes.joined]
    rw [e] at h9
    exact h9
  have start : ∀ (f : Nat → Array (Array UInt8) × List (Value × Option Value) → Sem (ForInStep (Array (Array UInt8) × List (Value × Option Value)))) (g : Array (Array UInt8) × List (Value × Option Value) → Sem Fin) (Q' : Fin → Shared → Prop) (E' : Value → Shared → Prop),
      (∀ i b, i < vs.length → (∀ p ∈ b.2, p.2 = none ∧ p.1.onHeap = false) → ∀ (Q'' : ForInStep (Array (Array UInt8) × List (Value × Option Value)) → Shared → Prop), (∀ t', Q'' (.yield (b.1.push (bs.getD i #[]), b.2 ++ [(.bytes (bs.getD i #[]) t', none)])) s) → wpAny (model prog w) A.in1 (f i b) Q'' E' s) →
      (∀ b, b.1 = bs.toArray → (∀ p ∈ b.2, p.2 = none ∧ p.1.onHeap = false) → wpAny (model prog w) A.in1 (g b) Q' E' s) →
      wpAny (model prog w) A.in1 (forIn [:vs.toArray.size] ((#[] : Array (Array UInt8)), ([] : List (Value × Option Value))) f >>= g) Q' E' s := by
    intro f g Q' E' hf hg
    refine wpAny_bind ?_
    rw [Std.Legacy.Range.forIn_eq_forIn_range']
    simp only [Std.Legacy.Range.size, Nat.sub_zero, Nat.add_sub_cancel, Nat.div_one, List.size_toArray]
    refine wpAny_forIn_list _ (fun rest b s' => s' = s ∧ ∃ i, i ≤ vs.length ∧ rest = List.range' i (vs.length - i) ∧ b.1 = (bs.take i).toArray ∧ (∀ p ∈ b.2, p.2 = none ∧ p.1.onHeap = false)) _ ?_ ?_ _ _ ⟨rfl, 0, Nat.zero_le _, rfl, by simp, fun p hp => nomatch hp⟩
    · rintro x rest b s' ⟨rfl, i, hi, hr, hb, ht⟩
      have hlt : i < vs.length := by
        rcases Nat.lt_or_ge i vs.length with h | h
        · exact h
        · rw [Nat.sub_eq_zero_of_le h] at hr; simp at hr
      obtain ⟨rfl, hrest⟩ : x = i ∧ rest = List.range' (i + 1) (vs.length - (i + 1)) := by
        have e : vs.length - i = (vs.length - (i + 1)) + 1 := by omega
        rw [e, List.range'_succ] at hr
        injection hr with h1 h2
        exact ⟨h1, h2⟩
      refine hf x b hlt ht _ fun t' => ⟨rfl, x + 1, hlt, hrest, ?_, ?_⟩
      · have hx : x < bs.length := by omega
        show b.1.push (bs.getD x #[]) = _
        rw [hb, List.take_succ, List.getElem?_eq_getElem hx, List.getD_eq_getElem?_getD, List.getElem?_eq_getElem hx]
        simp
      · intro p hp
        rcases List.mem_append.mp hp with hp | hp
        · exact ht p hp
        · rw [List.mem_singleton.mp hp]; exact ⟨rfl, rfl⟩
    · rintro b s' ⟨rfl, i, hi, hr, hb, ht⟩
      have hge : vs.length ≤ i := by
        rcases Nat.lt_or_ge i vs.length with h | h
        · have e : vs.length - i = (vs.length - (i + 1)) + 1 := by omega
          rw [e, List.range'_succ] at hr; cases hr
        · exact h
      refine hg b ?_ ht
      rw [hb, List.take_of_length_le (by omega)]
  rcases hcase with h0 | ⟨x, y, r, h0⟩
  · rw [h0]
    show wpAny _ _ (forIn [:(List.toArray ([] : List Value)).size] ((#[] : Array (Array UInt8)), ([] : List (Value × Option Value))) _ >>= _) _ _ s
    rw [← h0]
    refine start _ _ _ _ ?_ ?_
    · intro i b hi hb Q'' hQ
      obtain ⟨u, hu⟩ := hv.get i hi
      have hx : vs.toArray.getD i Value.none = .bytes (bs.getD i #[]) u := by
        simp only [Array.getD_eq_getD_getElem?, List.getElem?_toArray, hu, Option.getD_some]
      have hany : (b.snd.any fun x => x.fst.onHeap) = false := by
        rw [List.any_eq_false]
        intro p hp
        rw [(hb p hp).2]; simp
      refine wpAny_bind (items s _ _ _ hD ?_)
      dsimp only
      rw [hx, hany, if_neg (by decide)]
      refine wpAny_bind (wpAny_holding (wpAny_of_eq takeQ_eq ?_))
      dsimp only
      refine wpAny_bind (items s _ _ _ hD ?_)
      dsimp only
      rw [if_neg (by simp)]
      exact wpAny_pure (hQ u)
    · intro b hb ht
      refine wpAny_bind ?_
      unfold Bytes.payload
      refine wpAny_bind (wpAny_pure ?_)
      refine wpAny_pure ?_
      dsimp only
      rw [hb, KBy.tooLong_not (by simpa using hz), if_neg (by decide)]
      refine wpAny_bind (wpAny_mkBytes ?_ (Nat.le_trans (joined_size sep bs) (by rw [sizeLine_eq]; exact hz)))
      refine wpAny_bind (wpAny_holding (wpAny_point ?_))
      refine wpAny_bind (letGo_eq _ _ _ _ (fun p hp => (ht p hp).1) ?_)
      exact wpAny_pure (h _ _)
  · rw [h0]
    show wpAny _ _ (forIn [:(List.toArray (x :: y :: r)).size] ((#[] : Array (Array UInt8)), ([] : List (Value × Option Value))) _ >>= _) _ _ s
    rw [← h0]
    refine start _ _ _ _ ?_ ?_
    · intro i b hi hb Q'' hQ
      obtain ⟨u, hu⟩ := hv.get i hi
      have hx : vs.toArray.getD i Value.none = .bytes (bs.getD i #[]) u := by
        simp only [Array.getD_eq_getD_getElem?, List.getElem?_toArray, hu, Option.getD_some]
      have hany : (b.snd.any fun x => x.fst.onHeap) = false := by
        rw [List.any_eq_false]
        intro p hp
        rw [(hb p hp).2]; simp
      refine wpAny_bind (items s _ _ _ hD ?_)
      dsimp only
      rw [hx, hany, if_neg (by decide)]
      refine wpAny_bind (wpAny_holding (wpAny_of_eq takeQ_eq ?_))
      dsimp only
      refine wpAny_bind (items s _ _ _ hD ?_)
      dsimp only
      rw [if_neg (by simp)]
      exact wpAny_pure (hQ u)
    · intro b hb ht
      refine wpAny_bind ?_
      unfold Bytes.payload
      refine wpAny_bind (wpAny_pure ?_)
      refine wpAny_pure ?_
      dsimp only
      rw [hb, KBy.tooLong_not (by simpa using hz), if_neg (by decide)]
      refine wpAny_bind (wpAny_mkBytes ?_ (Nat.le_trans (joined_size sep bs) (by rw [sizeLine_eq]; exact hz)))
      refine wpAny_bind (wpAny_holding (wpAny_point ?_))
      refine wpAny_bind (letGo_eq _ _ _ _ (fun p hp => (ht p hp).1) ?_)
      exact wpAny_pure (h _ _)
end JB
end Mine
end

section
open PySem PySem.W PySem.Spec PySem.Calls PyProof.Rows
set_option Elab.async false
set_option maxRecDepth 100000
namespace Mine
/-- an iterator that stands in the heap, no sequence -/
def ItSrcB (prog : Program) (w : World) (A : Around) (xv : Value) (s₁ : Shared) (as : List Addr) (n : Nat) (P : Nat → Value → Prop) : Prop :=
  ∀ (Q : Value → Shared → Prop) (E : Value → Shared → Prop),
    (∀ (o : Obj) (St : Nat → Heap → Prop) (fp : List Addr), s₁.heap.objs.size ∈ fp → (∀ b ∈ fp, b = s₁.heap.objs.size ∨ (b ∈ as ∧ b < s₁.heap.objs.size)) → (∀ i h, St i h → ∃ o, h.get? s₁.heap.objs.size = some o ∧ ∀ a n, o.data ≠ .seq a n) →
      Walks prog w A s₁.heap.objs.size fp [s₁.heap.objs.size] n P St → St 0 (s₁.heap.push o) → Q (.ref s₁.heap.objs.size) { s₁ with heap := s₁.heap.push o }) → wpAny (model prog w) A (pyIter xv) Q E s₁
theorem ItSrcB.upto {prog : Program} {w : World} {A : Around} {s : Shared} {r : Addr} {t u v : Tok} {n : Nat} (hh : A.handled = none) (hr : IsRange s.heap r 0 (n : Int) 1 t u v) (hn : n ≤ 1000000) :
    ItSrcB prog w A (.ref r) s [] n (fun i v => ∃ t, v = .int (i : Int) t) := fun _ _ h => by
  refine wpAny_pyIter_range hr (small_range hn) (h _ (fun i h => IsRangeIter h s.heap.objs.size (0 + (i : Nat) * 1) ((n : Int) - (i : Nat)) 1) [s.heap.objs.size] (by simp) (fun _ hb => .inl (List.mem_singleton.mp hb)) (fun i h st => ⟨_, st, fun a n e => by cases e⟩) ?_ ?_)
  · let W := LCg.range_walks (prog := prog) (w := w) (A := A) (I := s.heap.objs.size) hh 0 n
    exact { sub := W.sub, frame := W.frame, done := W.done, self := W.self,
            item := fun i s Q E hi st hQ => W.item i s Q E hi st fun v h' tk hP => hQ v h' tk (by obtain ⟨t, rfl⟩ := hP; exact ⟨t, by rw [Int.zero_add]⟩) }
  · show IsRangeIter _ _ _ _ _
    rw [size_range]; simpa using Heap.get?_push_size _ rfl
/-- what a list comprehension has made so far: one new object an item -/
def MadeBy (h₁ : Heap) (L C D I : Addr) (G : Nat → Obj → Prop) (h : Heap) (new : List (Addr × Obj)) : Prop :=
  (∀ p ∈ new, h₁.get? p.1 = none ∧ p.1 ≠ L ∧ p.1 ≠ C ∧ p.1 ≠ D ∧ p.1 ≠ I ∧ h.get? p.1 = some p.2) ∧ ∀ (j : Nat) p, new[j]? = some p → G j p.2
abbrev refsOf (new : List (Addr × Obj)) : List Value := new.map fun p => .ref p.1
theorem MadeBy.keep {h₁ h h' : Heap} {L C D I : Addr} {G : Nat → Obj → Prop} {new : List (Addr × Obj)} (M : MadeBy h₁ L C D I G h new) (k : ∀ b o, b ≠ C → b ≠ I → b ≠ D → h.get? b = some o → h'.get? b = some o) : MadeBy h₁ L C D I G h' new :=
  ⟨fun p hp => by
    obtain ⟨a, l, b, c, d, e⟩ := M.1 p hp
    exact ⟨a, l, b, c, d, k _ _ b d c e⟩, M.2⟩
theorem MadeBy.snoc {h₁ h : Heap} {L C D I : Addr} {G : Nat → Obj → Prop} {new : List (Addr × Obj)} (M : MadeBy h₁ L C D I G h new) {T : Addr} {o : Obj} (a : h₁.get? T = none) (l : T ≠ L) (b : T ≠ C) (c : T ≠ D) (d : T ≠ I) (e : h.get? T = some o) (g : G new.length o) :
    MadeBy h₁ L C D I G h (new ++ [(T, o)]) := by
  refine ⟨fun p hp => ?_, fun j p hj => ?_⟩
  · rcases List.mem_append.mp hp with hp | hp
    · exact M.1 p hp
    · rw [List.mem_singleton.mp hp]; exact ⟨a, l, b, c, d, e⟩
  · rcases Nat.lt_trichotomy j new.length with h | h | h
    · rw [List.getElem?_append_left h] at hj; exact M.2 j p hj
    · subst h; simp at hj; subst hj; exact g
    · rw [List.getElem?_eq_none (by simp; omega)] at hj; cases hj
theorem gone {h : Heap} {a b : Addr} {o : Obj} (ha : h.get? a = none) (hb : h.get? b = some o) : a ≠ b := fun e => by rw [e, hb] at ha; cases ha
section
variable {prog : Program} {w : World} {A : Around} {R : Result → Shared → Prop} {s : Shared}
theorem loop_objs {elt iter : Expr} {x : Str} {px : Pos} {scope : Scope} {pos : Pos} {I D : Addr} {fp : List Addr} {n : Nat} {P : Nat → Value → Prop} {St : Nat → Heap → Prop} {cenv : Env} {m : Str → Option Value}
    {h₀ : Heap} {L : Addr} (W : Walks prog w A I fp [I] n P St) (G : Nat → Obj → Prop) (hkind : ∀ i o, G i o → o.cls = .type "tuple" ∧ ∃ a n, o.data = .seq a n) (hlive : ∀ i h, St i h → ∃ o, h.get? I = some o ∧ ∀ a n, o.data ≠ .seq a n)
    (hx : cenv.kindOf x = some .local) (hp : (cenv.scope.kind == .class || (cenv.scope.kind == .module && cenv.locals != cenv.globals)) = false)
    (hDC : D ≠ cenv.locals) (hDf : D ∉ fp) (hCf : cenv.locals ∉ fp) (hst : St 0 s.heap) (hacc : s.heap.PlainList D #[]) (hn : s.heap.Ns cenv.locals m)
    (helt : ∀ i v s₂ m₂, i < n → P i v → s₂.heap.Ns cenv.locals m₂ → m₂ x = some v → (∀ b o, b ≠ cenv.locals → b ≠ I → b ≠ D → s.heap.get? b = some o → s₂.heap.get? b = some o) →
      wpAny (model prog w) A (eval elt cenv) (fun y s₃ => (∃ T o, y = .ref T ∧ h₀.get? T = none ∧ T ≠ L ∧ s₃.heap.get? T = some o ∧ G i o) ∧ Keeps s₂ s₃) (notedBy (model prog w) A cenv fun e s' => R (.error e) s') s₂)
    (hR : ∀ h' tk m' new, h'.Ns cenv.locals m' → h'.PlainList D (refsOf new).toArray → new.length = n → MadeBy h₀ L cenv.locals D I G h' new →
      (∀ b o, b ≠ cenv.locals → b ≠ I → b ≠ D → s.heap.get? b = some o → h'.get? b = some o) → R (.ok .next) { s with heap := h', toks := tk })
    (hsz : n ≤ sizeLine) :
    codeAny (model prog w) A (.compLoop (.ListComp elt [⟨.Name x px, iter, [], 0⟩] scope pos) 0 (.ref I) (.ref D) cenv) R s := by
  have hIf : I ∈ fp := W.sub I (List.mem_singleton.mpr rfl)
  have hCI : cenv.locals ≠ I := fun e => hCf (e ▸ hIf)
  have hDI : D ≠ I := fun e => hDf (e ▸ hIf)
  refine codeAny_compLoop_tests
    (fun k s' => ∃ h' tk m' new, s' = { s with heap := h', toks := tk } ∧ St new.length h' ∧ h'.PlainList D (refsOf new).toArray ∧ h'.Ns cenv.locals m' ∧ MadeBy h₀ L cenv.locals D I G h' new ∧ new.length ≤ n ∧ k = n + 1 - new.length ∧
      (∀ b o, b ≠ cenv.locals → b ≠ I → b ≠ D → s.heap.get? b = some o → h'.get? b = some o)) ?_ (n + 1)
    ⟨s.heap, s.toks, m, [], rfl, hst, hacc, hn, ⟨(fun p hp => absurd hp List.not_mem_nil), fun j p hj => by simp at hj⟩, Nat.zero_le _, rfl, fun _ _ _ _ _ e => e⟩
  rintro k s' ⟨H, tk, m', new, rfl, hst', hacc', hn', hM, hi, rfl, hk⟩
  by_cases hlt : new.length < n
  · refine W.item new.length _ _ _ hlt hst' fun v h₁ tk₁ hPv hst₁ hk₁ => ?_
    have hk₁' : ∀ b o, b ≠ I → H.get? b = some o → h₁.get? b = some o := fun b o hb e => hk₁ b o (fun h => hb (List.mem_singleton.mp h)) e
    refine wpAny_assign_Name (wpAny_storeName_local hx (hn'.at' fun o e => hk₁' _ o hCI e) (fun h₂ hn₂ hs₂ => ?_) hp)
    have up₂ : ∀ b o, b ≠ cenv.locals → b ≠ I → H.get? b = some o → h₂.get? b = some o := fun b o hbC hbI e => hs₂.extBut b o hbC (hk₁' b o hbI e)
    have hst₂ : St (new.length + 1) h₂ := W.frame _ _ _ hst₁ fun b hb o e => hs₂.extBut b o (fun h => hCf (h ▸ hb)) e
    refine wpAny_pure ?_
    simp only [if_true]
    refine wpAny_mono (helt new.length v _ _ hlt hPv hn₂ (by simp) fun b o a1 a2 a3 e => up₂ b o a1 a2 (hk b o a1 a2 a3 e)) (fun y s₄ h₄ => ?_) fun _ _ e => e
    obtain ⟨⟨T, o, rfl, hT, hTL, hTo, hG⟩, h₄, tk₄, rfl, hk₄⟩ := h₄
    obtain ⟨ho1, oa, on, ho2⟩ := hkind _ _ hG
    have hTC : T ≠ cenv.locals := by
      rintro rfl
      obtain ⟨o', es, ep, hC1, hC2, _⟩ := hn₂
      have e := hk₄ _ _ hC1
      dsimp only at hTo
      rw [hTo] at e
      cases e
      rw [ho2] at hC2; cases hC2
    have hTD : T ≠ D := by
      rintro rfl
      obtain ⟨nn, hD1⟩ := hacc'
      have e := hk₄ _ _ (up₂ T _ hDC hDI hD1)
      dsimp only at hTo
      rw [hTo] at e
      cases e
      exact absurd (Value.type.inj ho1) (by decide)
    have hTI : T ≠ I := by
      rintro rfl
      obtain ⟨o', hI1, hI2⟩ := hlive _ _ hst₂
      have e := hk₄ _ _ hI1
      dsimp only at hTo
      rw [hTo] at e
      cases e
      exact hI2 _ _ ho2
    have hys : (refsOf new).toArray.size ≤ sizeLine := by simp; omega
    refine wpAny_list_append_plain (hsz := hys) ((hacc'.at fun o e => up₂ _ o hDC hDI e).at fun o e => hk₄ _ o e) fun h₅ hl₅ hs₅ => ?_
    have up₅ : ∀ b o, b ≠ D → h₂.get? b = some o → h₅.get? b = some o := fun b o hbD e => hs₅.extBut b o hbD (hk₄ b o e)
    have hlen : (new ++ [(T, o)]).length = new.length + 1 := by simp
    refine ⟨n + 1 - (new.length + 1), by omega, h₅, tk₄, _, new ++ [(T, o)], rfl, ?_, ?_, (hn₂.keeps hk₄).sameBut hs₅ (Ne.symm hDC), ?_, by omega, by rw [hlen], fun b o a1 a2 a3 e => up₅ b o a3 (up₂ b o a1 a2 (hk b o a1 a2 a3 e))⟩
    · rw [hlen]
      exact W.frame _ _ _ hst₂ fun b hb o e => up₅ b o (fun h => hDf (h ▸ hb)) e
    · have e : (refsOf (new ++ [(T, o)])).toArray = (refsOf new).toArray.push (.ref T) := by simp
      rw [e]; exact hl₅
    · exact (hM.keep fun b o a1 a2 a3 e => up₅ b o a3 (up₂ b o a1 a2 e)).snoc hT hTL hTC hTD hTI (hs₅.extBut T o hTD hTo) hG
  · have hin : new.length = n := by omega
    refine W.done _ _ _ (hin ▸ hst') fun h₁ tk₁ hk₁ => ?_
    have hk₁' : ∀ b o, b ≠ I → H.get? b = some o → h₁.get? b = some o := fun b o hb e => hk₁ b o (fun h => hb (List.mem_singleton.mp h)) e
    exact hR h₁ tk₁ m' new (hn'.at' fun o e => hk₁' _ o hCI e) (hacc'.at fun o e => hk₁' _ o hDI e) hin (hM.keep fun b o _ a2 _ e => hk₁' b o a2 e) fun b o a1 a2 a3 e => hk₁' b o a2 (hk b o a1 a2 a3 e)
end
section
variable {prog : Program} {w : World} {A : Around} {s : Shared} {E : Value → Shared → Prop} {env : Env} {h₀ : Heap} {L : Addr} {m : Str → Option Value}
/-- a list comprehension without a test whose element makes one new object -/
theorem comp_objs {elt iter : Expr} {x : Str} {px : Pos} {scope : Scope} {cl : List (Str × Addr)} {pos : Pos} {Q : Value → Shared → Prop} (G : Nat → Obj → Prop) (_F : Fr h₀ L s.heap m) (hgk : ∀ i o, G i o → o.cls = .type "tuple" ∧ ∃ a n, o.data = .seq a n)
    (h : wpAny (model prog w) A (eval iter env) (fun xv s₁ => AtStop (∃ news as n P, Fr h₀ L s₁.heap m ∧ News h₀ L s₁.heap news ∧ ItSrcB prog w A xv s₁ as n P ∧ n ≤ sizeLine ∧
      (∀ C i v s₂ m₂ (E' : Value → Shared → Prop), i < n → P i v → Fr h₀ L s₂.heap m → News h₀ L s₂.heap news → s₂.heap.Ns C m₂ → m₂ x = some v →
        wpAny (model prog w) A (eval elt (compEnvC scope cl C env)) (fun y s₃ => AtStop ((∃ T o, y = .ref T ∧ h₀.get? T = none ∧ T ≠ L ∧ s₃.heap.get? T = some o ∧ G i o) ∧ Keeps s₂ s₃)) E' s₂) ∧
      (∀ D nn (new : List (Addr × Obj)) h' tk, new.length = n → (∀ (j : Nat) p, new[j]? = some p → G j p.2) → Fr h₀ L h' m → News h₀ L h' ((D, { cls := .type "list", data := .seq (refsOf new).toArray nn }) :: (new ++ news)) →
        Q (.ref D) { s₁ with heap := h', toks := tk }))) E s)
    (hclos : closureFor scope env = pure cl := by with_unfolding_all rfl) (hcell : ∀ y ∈ scope.names, y.2 ≠ .cell := by decide) (hkind : scope.kind = .function := by rfl)
    (hnames : ∀ y ∈ scope.names, y.2 = .local → scope.names.lookup y.1 = some .local := by decide) (hx : scope.names.lookup x = some .local := by rfl)
    (hs : ∀ x, foldedSetIterable iter env x = pure x := by intro _; rfl) :
    AtStop (wpAny (model prog w) A (eval (.ListComp elt [⟨.Name x px, iter, [], 0⟩] scope pos) env) Q E s) := by
  show wpAny _ _ _ _ _ _
  rw [eval_ListComp]
  refine wpAny_comprehension_free (use := none) rfl hs hclos hkind hnames (wpAny_mono h (fun xv s₁ h₁ => ?_) fun _ _ e => e)
  obtain ⟨news, as, n, P, F, N, src, hsz, helt, hQ⟩ := h₁
  refine src _ _ fun o St fp hI hfp hlive W hst => ?_
  generalize hs2 : ({ s₁ with heap := s₁.heap.push o } : Shared) = s₂
  have hsz2 : s₂.heap.objs.size = s₁.heap.objs.size + 1 := by rw [← hs2]; exact Heap.size_push ..
  have old1 : ∀ b o', s₁.heap.get? b = some o' → s₂.heap.get? b = some o' := fun b o' e => by rw [← hs2]; exact Heap.get?_push_of_some _ e
  have hst2 : St 0 s₂.heap := by rw [← hs2]; exact hst
  refine wpAny_newObj_type (wpAny_newFunctionEnv hcell (by intro y hy; simp at hy) (fun h₂ hns₂ hsb₂ => ?_) hkind)
  dsimp only at hns₂ hsb₂ ⊢
  generalize hH : s₂.heap.push { cls := .type "list", dict := none, data := .seq ([] : List Value).toArray } = H at hns₂ hsb₂ ⊢
  have hC : H.objs.size = s₂.heap.objs.size + 1 := by rw [← hH, Heap.size_push]
  have hDC : s₂.heap.objs.size ≠ H.objs.size := by rw [hC]; exact Nat.ne_of_lt (Nat.lt_succ_self _)
  have fpl : ∀ b ∈ fp, b < s₂.heap.objs.size := fun b hb => by
    rcases hfp b hb with e | e
    · rw [hsz2, e]; exact Nat.lt_succ_self _
    · rw [hsz2]; exact Nat.lt_succ_of_lt e.2
  have hDf : s₂.heap.objs.size ∉ fp := fun hm => Nat.lt_irrefl _ (fpl _ hm)
  have hCf : H.objs.size ∉ fp := fun hm => by have := fpl _ hm; rw [hC] at this; exact Nat.lt_irrefl _ (Nat.lt_of_succ_lt this)
  have old : ∀ b o', s₂.heap.get? b = some o' → b ≠ H.objs.size ∧ b ≠ s₂.heap.objs.size ∧ h₂.get? b = some o' := fun b o' e => by
    have hb := Heap.lt_size e
    have n1 : b ≠ H.objs.size := by rw [hC]; exact Nat.ne_of_lt (Nat.lt_succ_of_lt hb)
    exact ⟨n1, Nat.ne_of_lt hb, hsb₂.extBut b o' n1 (Heap.get?_push_of_some _ (hH ▸ Heap.get?_push_of_some _ e))⟩
  have hacc : h₂.PlainList s₂.heap.objs.size #[] := ⟨_, hsb₂.extBut _ _ hDC (Heap.get?_push_of_some _ (hH ▸ Heap.get?_push_size _ rfl))⟩
  have hst₂ : St 0 h₂ := W.frame _ _ _ hst2 fun b _ o' e => (old b o' e).2.2
  have fresh : ∀ a, s₂.heap.objs.size ≤ a → s₁.heap.get? a = none := fun a ha => by
    cases e : s₁.heap.get? a with
    | none => rfl
    | some o' => exact absurd (Heap.lt_size (old1 a o' e)) (Nat.not_lt.mpr ha)
  have old3 : ∀ b o', s₁.heap.get? b = some o' → b ≠ H.objs.size ∧ b ≠ s₁.heap.objs.size ∧ b ≠ s₂.heap.objs.size ∧ h₂.get? b = some o' := fun b o' e => by
    obtain ⟨a1, a2, a3⟩ := old b o' (old1 b o' e)
    exact ⟨a1, Nat.ne_of_lt (Heap.lt_size e), a2, a3⟩
  have loop : ∀ s₃ : Shared, s₃ = { s₂ with heap := h₂, toks := s₂.toks + ([] : List (Str × Value)).length } →
      codeAny (model prog w) A (.compLoop (.ListComp elt [⟨.Name x px, iter, [], 0⟩] scope pos) 0 (.ref s₁.heap.objs.size) (.ref s₂.heap.objs.size) (compEnvC scope cl H.objs.size env))
        (compPost (model prog w) A E none Q (.ref s₂.heap.objs.size) H.objs.size) s₃ := by
    rintro s₃ rfl
    refine loop_objs (h₀ := h₀) (L := L) (cenv := compEnvC scope cl H.objs.size env) W G hgk hlive (lookup_relabel_local hx) (by simp [compEnvC, relabel, hkind]) hDC hDf hCf hst₂ hacc hns₂ ?_ ?_ hsz
    · intro i v s₃ m₃ hi hP hn hm hk
      have up : ∀ b o', s₁.heap.get? b = some o' → s₃.heap.get? b = some o' := fun b o' e => by
        obtain ⟨a1, a2, a3, a4⟩ := old3 b o' e
        exact hk b o' a1 a2 a3 a4
      exact helt _ i v s₃ m₃ _ hi hP (F.keeps up) (N.grown up) hn hm
    · intro h' tk m' new hn hpl hlen hM hk
      obtain ⟨nn, hpl⟩ := hpl
      refine ⟨m', hn, fun h'' hs'' => ?_⟩
      have up : ∀ b o', s₁.heap.get? b = some o' → h''.get? b = some o' := fun b o' e => by
        obtain ⟨a1, a2, a3, a4⟩ := old3 b o' e
        exact hs''.extBut b o' a1 (hk b o' a1 a2 a3 a4)
      have hD0 := fresh _ (Nat.le_refl _)
      have lone : ∀ T, s₁.heap.get? T = none → T ≠ L ∧ h₀.get? T = none := fun T hT => by
        constructor
        · rintro rfl
          obtain ⟨oL, _, _, hL, _⟩ := F.ns
          rw [hL] at hT; cases hT
        · cases q : h₀.get? T with
          | none => rfl
          | some o' => rw [F.keep _ _ q] at hT; cases hT
      have key := hQ s₂.heap.objs.size nn new h'' tk hlen hM.2 (F.keeps up) (fun q hq => ?_)
      · rw [← hs2] at key ⊢; exact key
      · rcases List.mem_cons.mp hq with rfl | hq
        · exact ⟨hs''.extBut _ _ hDC hpl, lone _ hD0⟩
        · rcases List.mem_append.mp hq with hq | hq
          · obtain ⟨b1, b6, b2, b3, b4, b5⟩ := hM.1 q hq
            exact ⟨hs''.extBut _ _ b2 b5, b6, b1⟩
          · exact N.grown up q hq
  exact codeAny_compStart_list (loop _ rfl) (W.self 0 _ _ _ hst₂ (loop _ rfl))
end
end Mine
end

section
open PySem PySem.W PySem.Spec PySem.Calls PyProof.Rows
set_option Elab.async false
set_option maxRecDepth 100000
namespace Mine
/-- a contract by the walk of a body some of whose names a comprehension keeps -/
theorem tells_defC {w : World} {f : Addr} {n : Nat} {vs : List Value} {led : List (Addr × Obj)} {Pre : Heap → Prop} {R : Value → List (Addr × Obj) → Prop}
    {name qual : Str} {params : Arguments} {body : List Stmt} {scope : Scope} {dV kV doc pm cdv ct oc : Value} {an od : Option Addr} {osl : Array (Option Value)} {binds : List (Str × Value)}
    (ho : (hd.heap_39 w.params).lookup f = some ⟨oc, od, .func (fnOf name qual params body scope dV kV doc pm an cdv ct), osl⟩) (hcd : codeIn (hd.heap_39 w.params) cdv qual = true)
    (hbind : ∀ s : Shared, (hd.heap_39 w.params).In s.heap → BindsTo s (fnOf name qual params body scope dV kV doc pm an cdv ct) ⟨vs, []⟩ binds)
    (hkind : (binds.all fun y => scope.names.lookup y.1 == some .local || scope.names.lookup y.1 == some .cell) = true) (hnd : ((cellsFrom 0 scope.names []).map (·.1)).Nodup)
    (hco : scope.isCoroutine = false) (hgen : scope.isGenerator = false) (hk : scope.kind = .function)
    (h : ∀ (mean : ExcName → Option Value) (mg mb : Str → Option Value) (dp un : Nat) (gd : Option (List Code)) (outer : List Env) (A₀ : Around) (base g : Heap) (L : Addr) (s : Shared) (cells : List (Addr × Obj)),
      Below A₀ base outer g → Fr g L s.heap (bindL (envOfC qual scope L f cdv).kindOf binds fun _ => none) → (hd.heap_39 w.params).In g → News g L s.heap (cells ++ led) →
      CellsAre (bindC (envOfC qual scope L f cdv).kindOf binds fun _ => none) (cellsFrom (L + 1) scope.names []) cells → (∀ p ∈ led, p.1 < L) → Top hd.view_39 (looseW hd.view_39 [Str.ofString "PostError"]) mean mg mb g →
      Pre g → dp + n < recursionLimit → un + 8 * n < cLine →
      wpAny (model Challenge.rw_nz0317_01.row.prog w) (ktrTop dp un gd qual scope L f cdv (cellsFrom (L + 1) scope.names []) outer) (execs body (envOfC qual scope L f cdv)) (Done g L R s) (fun _ _ => False) s) : Tells w f (n + 1) vs led Pre R := by
  intro mean mg mb dp un gd cn cs a ccd cl outer A₀ base h₀ L m s P B F X N T hcs hpre hd hu ret
  obtain ⟨FG, BG, st, _⟩ := groundX (A := ktrTop dp un gd cn cs L a ccd cl outer) (env := envX cn cs L a ccd cl) (R := fun _ _ => True) B F N rfl rfl hcs
  refine codeAny_call_function (by show dp < _; omega) (X.keeps F.keep _ _ ho) rfl hco hgen rfl (codeRec_of (X.keeps F.keep) hcd) (hbind s (X.keeps F.keep) _ _ _ _ ?_)
  refine wpAny_newFunctionEnv_cells hk (kindsX hkind _) fun env' he s' x => ?_
  subst he
  refine ⟨(T.nolimit.keeps F.keep).keeps x.toInCall.keep, codeAny_func ?_⟩
  obtain ⟨h₁, tk, rfl, _⟩ := x.done
  have hk₁ := x.toInCall.keep
  obtain ⟨cells, NC, Y⟩ := Cl.news (h₀ := s.heap) (Nat.le_refl _) fun n c hm => ⟨x.cell n c (lookup_of_mem_nodup (cellsFrom_names scope.names 0 (s.heap.objs.size + 1) [] [] rfl ▸ hnd) hm), x.above n c hm⟩
  have FL : Fr (gOf s.heap led) s.heap.objs.size h₁ (bindL (envOfC qual scope s.heap.objs.size f cdv).kindOf binds fun _ => none) := ⟨x.toInCall.ns, fun b o e => hk₁ b o (of_hideAll _ e), Nat.le_of_eq (hideAll_size _ _)⟩
  have NL : News (gOf s.heap led) s.heap.objs.size h₁ (cells ++ led) := fun p hp => by
    rcases List.mem_append.mp hp with hp | hp
    · refine ⟨(NC p hp).1, (NC p hp).2.1, ?_⟩
      cases q : (gOf s.heap led).get? p.1 with
      | none => rfl
      | some o => have := of_hideAll _ q; rw [(NC p hp).2.2] at this; cases this
    · exact ⟨hk₁ _ _ (N p hp).1, Nat.ne_of_lt (Heap.lt_size (N p hp).1), hideAll_none _ (List.mem_map_of_mem hp)⟩
  have W := h mean mg mb (dp + 1) (un + 3) gd (envX cn cs L a ccd cl :: outer) _ base (gOf s.heap led) s.heap.objs.size { s with heap := h₁, toks := tk } cells BG FL (X.keeps st) NL Y (fun p hp => Heap.lt_size (N p hp).1) (T.keeps st) hpre (by omega) (by omega)
  refine wpAny_mono W (fun fl s' hd => ?_) fun _ _ x => x.elim
  obtain ⟨m', led', h', tk', rfl, F', N', hR⟩ := hd
  obtain ⟨oL, es, ep, hL, hLd, hLk, hLf⟩ := FG.ns
  refine ret _ led' h' tk' hR ⟨⟨oL, es, ep, F'.keep L oL hL, hLd, hLk, hLf⟩, fun b o e => F'.keep b o (st b o e), F.above⟩ F'.keep fun p hp => ⟨(N' p hp).1, fun q => ?_, (N' p hp).2.2⟩
  have := (N' p hp).2.2
  rw [q, hL] at this; cases this
end Mine
end

section
open PySem PySem.W PySem.Spec PySem.Calls PyProof.Rows
set_option Elab.async false
set_option maxRecDepth 100000
namespace Mine
section
variable {w : World} {f : Addr} {need : Nat} {vs : List Value} {mean : ExcName → Option Value} {mg mb : Str → Option Value} {dp un : Nat} {gd : Option (List Code)} {cn : Str} {cs : Scope} {a : Addr} {ccd : Value} {cl : List (Str × Addr)} {outer : List Env}
    {A₀ : Around} {base h₀ : Heap} {L : Addr} {m : Str → Option Value} {s : Shared} {news : List (Addr × Obj)}
/-- a call of a maker: it fills the new object's dict, which stands at the ledger's head -/
theorem Tells.fill {x dx : Addr} {ox D : Obj} {RD : Value → Obj → Prop} {P : Result → Shared → Prop}
    (C : Tells w f need vs [(x, ox), (dx, D)] (fun _ => True) (fun v l => ∃ D', l = [(x, ox), (dx, D')] ∧ RD v D'))
    (B : Below A₀ base outer h₀) (F : Fr h₀ L s.heap m) (X : (hd.heap_39 w.params).In h₀) (N : News h₀ L s.heap ((x, ox) :: (dx, D) :: news)) (T : Top hd.view_39 (looseW hd.view_39 [Str.ofString "PostError"]) mean mg mb h₀) (hk : cs.kind = .function)
    (l1 : ∀ p ∈ news, p.1 < dx) (l2 : dx < x) (hd : dp + need < recursionLimit) (hu : un + 8 * need < cLine)
    (ret : ∀ v D' h' tk', RD v D' → Fr h₀ L h' m → News h₀ L h' ((x, ox) :: (dx, D') :: news) → P (.ok (.ret v)) { s with heap := h', toks := tk' }) :
    codeAny (model Challenge.rw_nz0317_01.row.prog w) (ktrTop dp un gd cn cs L a ccd cl outer) (.call (.ref f) ⟨vs, []⟩) P s := by
  have NL : News h₀ L s.heap [(x, ox), (dx, D)] := news_sub N fun p hp => by
    rcases List.mem_cons.mp hp with rfl | hp
    · exact .head _
    · rw [List.mem_singleton.mp hp]; exact .tail _ (.head _)
  refine C _ _ _ _ _ _ _ _ _ _ _ _ _ _ _ _ _ _ _ B F X NL T hk trivial hd hu ?_
  rintro v led' h' tk' ⟨D', rfl, hR⟩ F' st N'
  have NB := news_back F NL N'
  refine ret v D' h' tk' hR F' fun p hp => ?_
  rcases List.mem_cons.mp hp with rfl | hp
  · exact NB _ (.head _)
  rcases List.mem_cons.mp hp with rfl | hp
  · exact NB _ (.tail _ (.head _))
  · have h1 := N p (.tail _ (.tail _ hp))
    have h2 := l1 p hp
    refine ⟨st _ _ (hideAll_get _ h1.1 ?_), h1.2⟩
    simp only [List.map_cons, List.map_nil, List.mem_cons, List.not_mem_nil, or_false, not_or]
    exact ⟨Nat.ne_of_lt (Nat.lt_trans h2 l2), Nat.ne_of_lt h2⟩
end
end Mine
end

section
open PySem PySem.W PySem.Spec PySem.Calls PyProof.Rows
set_option Elab.async false
set_option maxRecDepth 100000
namespace Mine
/-- what the walk of a body shows, whoever called it -/
def BodyIs (w : World) (n : Nat) (binds : List (Str × Value)) (Pre : Heap → Prop) (R : Value → List (Addr × Obj) → Prop) (qual : Str) (scope : Scope) (body : List Stmt) : Prop :=
  ∀ (f : Addr) (cdv : Value) (mean : ExcName → Option Value) (mg mb : Str → Option Value) (dp un : Nat) (gd : Option (List Code)) (outer : List Env) (A₀ : Around) (base g : Heap) (L : Addr) (s : Shared),
      Below A₀ base outer g → Fr g L s.heap (fun y => binds.reverse.lookup y) → (hd.heap_39 w.params).In g → News g L s.heap [] → Top hd.view_39 (looseW hd.view_39 [Str.ofString "PostError"]) mean mg mb g →
      Pre g → dp + n < recursionLimit → un + 8 * n < cLine →
      wpAny (model Challenge.rw_nz0317_01.row.prog w) (ktrTop dp un gd qual scope L f cdv [] outer) (execs body (envOf qual scope L f cdv)) (Done g L R s) (fun _ _ => False) s
theorem body_one {w : World} {f : Addr} {n : Nat} {binds : List (Str × Value)} {Pre : Heap → Prop} {R : Value → List (Addr × Obj) → Prop} {name qual : Str} {params : Arguments} {body : List Stmt} {scope : Scope} {dV kV doc pm cdv ct oc : Value} {an od : Option Addr} {osl : Array (Option Value)}
    (ho : (hd.heap_39 w.params).lookup f = some ⟨oc, od, .func (fnOf name qual params body scope dV kV doc pm an cdv ct), osl⟩) (h : BodyIs w n binds Pre R qual scope body)
    {name' qual' : Str} {params' : Arguments} {body' : List Stmt} {scope' : Scope} {dV' kV' doc' pm' cdv' ct' oc' : Value} {an' od' : Option Addr} {osl' : Array (Option Value)}
    (ho' : (hd.heap_39 w.params).lookup f = some ⟨oc', od', .func (fnOf name' qual' params' body' scope' dV' kV' doc' pm' an' cdv' ct'), osl'⟩) : BodyIs w n binds Pre R qual' scope' body' := by
  rw [ho] at ho'
  have e := Option.some.inj ho'
  have e1 := congrArg Obj.data e
  dsimp only at e1
  have e2 := Data.func.inj e1
  have q1 := congrArg FuncData.qualname e2
  have q2 := congrArg FuncData.scope e2
  have q3 := congrArg FuncData.body e2
  simp only [fnOf] at q1 q2 q3
  cases q1
  cases q2
  cases q3
  exact h
end Mine
end

open PySem PySem.W PySem.Spec PySem.Calls PyProof.Rows
set_option Elab.async false
set_option maxRecDepth 100000
set_option maxHeartbeats 0
set_option linter.unusedVariables false
set_option linter.unusedSimpArgs false
namespace Mine
local macro_rules | `(tactic| walk_at "compareOp In int bytes") => `(tactic| (refine in_bytes (by omega) (by omega) ?_))
local macro_rules | `(tactic| walk_at "compareOp NotIn int bytes") => `(tactic| (refine notIn_bytes (by omega) (by omega) ?_))
local macro_rules | `(tactic| walk_at "compareOp Eq bytes bytes") => `(tactic| (refine eq_bytes ?_))
local macro_rules | `(tactic| walk_at "compareOp NotEq bytes bytes") => `(tactic| (refine ne_bytes ?_))
local macro_rules | `(tactic| walk_at "call builtin:len") => `(tactic| first | (with_reducible show wpAny _ _ (call (Value.builtin "len") [Value.str _ _]) _ _ _; refine len_str' (by omega) ?_; intro _ _) | (with_reducible show wpAny _ _ (call (Value.builtin "len") [Value.bytes _ _]) _ _ _; refine len_bytes' (by omega) ?_; intro _ _))
local macro_rules | `(tactic| walk_at "subscriptTail Name Name str int") => `(tactic| (with_reducible show wpAny _ _ (subscriptTail _ _ (Value.str _ _) (Value.int _ _)) _ _ _; (first | refine item_strN (by omega) (by omega) ?_ | refine item_str' (by omega) (by omega) (by omega) ?_); intro _ _))
local macro_rules | `(tactic| walk_at "subscriptTail") => `(tactic| (with_reducible show wpAny _ _ (subscriptTail _ _ (Value.bytes _ _) (Value.int _ _)) _ _ _; (first | refine item_bytesN (by omega) (by omega) ?_ | refine item_bytes' (by omega) (by omega) (by omega) ?_); intro _ _))
local macro_rules | `(tactic| walk_at "subscriptTail") => `(tactic| (k_here; (with_reducible show wpAny _ _ (subscriptTail _ (Expr.Slice _ _ none _) (Value.bytes _ _) (Value.ref _)) _ _ _); (with_reducible rename Fr _ _ _ _ => F'); (with_reducible rename News _ _ _ _ => N'); (first | refine slice_bytes' (s := ⟨_, _, _, _, _⟩) F' N' (by omega) (by omega) (by omega) ?_ | refine slice_bytes0 (s := ⟨_, _, _, _, _⟩) F' N' (by omega) (by omega) ?_); intro _ _ _ F' N'))
local macro_rules | `(tactic| walk_at "call builtin:chr") => `(tactic| refine PySem.P.chr_of_int (by (simp only [Bool.or_eq_false_iff, decide_eq_false_iff_not]; omega)) ?_)
local macro_rules | `(tactic| walk_at "eval ListComp") => `(tactic| k_extra "stopc")
local macro_rules | `(tactic| walk_at "binaryOp Add str str") => `(tactic| (refine add_str' (by omega) ?_; intro _ _))
local macro_rules | `(tactic| walk_at "binaryOp Add bytes bytes") => `(tactic| (refine add_bytes' (by omega) ?_; intro _ _))
local macro_rules | `(tactic| walk_at "exec For Name Name cons nil") => `(tactic| (k_extra "isstop"; k_here; (rename Fr _ _ _ _ => lF'); (with_unfolding_all refine' For_invVF lF' ?k1 ?k2 ?_; (case k1 => exact rfl); (case k2 => exact rfl); k_whole)))
local macro_rules | `(tactic| walk_at "wcall") => `(tactic| (refine wpAny_call ?_; refine' WT.call ?C ?B ?F ?X ?N ?T ?hk ?hx ?U ?d ?u ?ret; (case C => first | assumption | solve_by_elim); (case B => k_asm); (case F => k_asm); (case X => k_asm); (case N => k_asm); (case T => k_asm); (case hk => exact rfl); (case hx => k_mem); (case U => (intro t; k_upd)); (case d => omega); (case u => omega)))
local macro_rules | `(tactic| walk_at "fcall") => `(tactic| (refine wpAny_call ?_; refine' FT.call ?C ?B ?F ?X ?N ?T ?hk ?hp ?d ?u ?ret; (case C => first | assumption | solve_by_elim); (case B => k_asm); (case F => k_asm); (case X => k_asm); (case N => k_asm); (case T => k_asm); (case hk => exact rfl); (case hp => first | exact trivial | assumption); (case d => omega); (case u => omega)))
local macro_rules | `(tactic| walk_at "kcall") => `(tactic| (refine wpAny_call ?_; refine' FT.callK ?C ?B ?F ?X ?N ?T ?hk ?hp ?d ?u ?ret; (case C => first | assumption | solve_by_elim); (case B => k_asm); (case F => k_asm); (case X => k_asm); (case N => k_asm); (case T => k_asm); (case hk => exact rfl); (case hp => first | exact trivial | assumption); (case d => omega); (case u => omega)))
local macro_rules | `(tactic| walk_at "pcall") => `(tactic| (refine wpAny_call ?_; refine' DT.callP ?C ?B ?F ?X ?N ?T ?hk ?hp ?d ?u ?ret; (case C => first | assumption | solve_by_elim); (case B => k_asm); (case F => k_asm); (case X => k_asm); (case N => k_asm); (case T => k_asm); (case hk => exact rfl); (case hp => first | exact trivial | assumption); (case d => omega); (case u => omega)))
local macro_rules | `(tactic| walk_at "mcall") => `(tactic| (refine call_meth (by k_asm) (by k_mem) ?_; refine' WT.call ?C ?B ?F ?X ?N ?T ?hk ?hx ?U ?d ?u ?ret; (case C => first | assumption | solve_by_elim); (case B => k_asm); (case F => k_asm); (case X => k_asm); (case N => k_asm); (case T => k_asm); (case hk => exact rfl); (case hx => k_mem); (case U => (intro t; k_upd)); (case d => omega); (case u => omega)))
local macro_rules | `(tactic| walk_at "dwcall") => `(tactic| (refine wpAny_call ?_; refine' WD.call ?C ?B ?F ?X ?N ?T ?hk ?hx ?U ?d ?u ?ret; (case C => first | assumption | solve_by_elim); (case B => k_asm); (case F => k_asm); (case X => k_asm); (case N => k_asm); (case T => k_asm); (case hk => exact rfl); (case hx => k_mem); (case U => (intro t; k_upd)); (case d => omega); (case u => omega)))
local macro_rules | `(tactic| walk_at "acall") => `(tactic| (refine wpAny_call ?_; refine' Tells.all ?C ?B ?F ?X ?N ?T ?hk ?hp ?d ?u ?ret; (case C => first | assumption | solve_by_elim); (case B => k_asm); (case F => k_asm); (case X => k_asm); (case N => k_asm); (case T => k_asm); (case hk => exact rfl); (case hp => exact trivial); (case d => omega); (case u => omega)))
local macro_rules | `(tactic| walk_at "dcall") => `(tactic| (refine wpAny_call ?_; refine' DT.call ?C ?B ?F ?X ?N ?T ?hk ?hp ?d ?u ?ret; (case C => first | assumption | solve_by_elim); (case B => k_asm); (case F => k_asm); (case X => k_asm); (case N => k_asm); (case T => k_asm); (case hk => exact rfl); (case hp => first | exact trivial | assumption); (case d => omega); (case u => omega)))
local macro_rules | `(tactic| walk_at "exec While") => `(tactic| k_extra "stopw")
local macro_rules | `(tactic| walk_at "exec While Compare") => `(tactic| k_extra "stopw")
local macro_rules | `(tactic| walk_at "exec While BoolOp") => `(tactic| k_extra "stopw")
local macro_rules | `(tactic| walk_at "exec While BoolOp cons nil") => `(tactic| k_extra "stopw")
local macro_rules | `(tactic| walk_at "exec While Compare cons nil") => `(tactic| k_extra "stopw")
local macro_rules | `(tactic| walk_at "exec While UnaryOp") => `(tactic| k_extra "stopw")
local macro_rules | `(tactic| walk_at "exec While UnaryOp cons nil") => `(tactic| k_extra "stopw")
local macro_rules | `(tactic| walk_at "exec While Constant") => `(tactic| k_extra "stopw")
local macro_rules | `(tactic| walk_at "exec While Constant cons nil") => `(tactic| k_extra "stopw")
local macro_rules | `(tactic| walk_at "exec While Call") => `(tactic| k_extra "stopw")
local macro_rules | `(tactic| walk_at "exec While Call cons nil") => `(tactic| k_extra "stopw")
local macro_rules | `(tactic| walk_at "pyIter ref") => `(tactic| k_extra "stopi")
local macro_rules | `(tactic| walk_at "pyIter str") => `(tactic| k_extra "stopi")
local macro_rules | `(tactic| walk_at "pyIter bytes") => `(tactic| k_extra "stopi")
theorem fillN1 (w : World) (h : Heap) : (hd.heap_39 w.params).In h → PySem.Challenge.rw_nz0317_01 = PySem.Challenge.rw_nz0317_01 := by
  k_fill
  k_with_none
  w_top off
  k_with "tdef" => ((case ho => k_is); (case hcd => k_is); (case hb => (intro s X; exact BindsTo.of_eq rfl)); (case hl => exact locs rfl); (case c2 => exact rfl); (case c3 => exact rfl); (case c4 => exact rfl); (case c5 => decide); k_whole)
  k_with "tintro" => (intro mean mg mb dp un gd outer A₀ base g L ⟨sh, sg, sd, stk, so⟩ B F X N T hpre hd hu; (try dsimp only at F N); (try dsimp only))
  k_with "fdone" => (show Done g L _ _ _ _; refine Done.intro (by k_asm) News.nil ⟨rfl, ?_⟩; (try dsimp only))
  k_with "wintro" => (intro mean mg mb dp un gd outer A₀ base g L ⟨sh, sg, sd, stk, so⟩ B F X N T hpre hd hu; (try dsimp only at F N); (try dsimp only); (have hne := wr_ne N))
  k_with "wdone" => (show Done g L _ _ _ _; refine Done.intro (by k_asm) (by k_asm) ⟨[], _, rfl, (fun _ h => nomatch h), rfl, ?_⟩; (try dsimp only))
  exact fun _ => rfl
section
theorem freshW12 : True := by
  w_top off
  trivial
theorem c_sysflags (w : World) : DT w 456 1 [] (fun _ => True) (.list [.str ⟨#[92, 83, 101, 101, 110]⟩, .str ⟨#[92, 65, 110, 115, 119, 101, 114, 101, 100]⟩, .str ⟨#[92, 70, 108, 97, 103, 103, 101, 100]⟩, .str ⟨#[92, 68, 101, 108, 101, 116, 101, 100]⟩, .str ⟨#[92, 68, 114, 97, 102, 116]⟩]) := by
  k_dflt (refine' tells_def (binds := []) ?ho ?hcd ?hb ?hl ?c2 ?c3 ?c4 ?c5 ?_; k_extra "tdef")
  k_extra "tintro"
  k_steps
  exact Done.intro (by k_asm) (by k_asm) (DatIn.list (.head _) (.cons (.str _ _) (.cons (.str _ _) (.cons (.str _ _) (.cons (.str _ _) (.cons (.str _ _) .nil))))))
end
theorem fillN2 (w : World) (h : Heap) : (hd.heap_39 w.params).In h → PySem.Challenge.rw_nz0317_01 = PySem.Challenge.rw_nz0317_01 := by
  k_fill
  k_with_none
  w_top off
  k_with "tdef" => ((case ho => k_is); (case hcd => k_is); (case hb => (intro s X; exact BindsTo.of_eq rfl)); (case hl => exact locs rfl); (case c2 => exact rfl); (case c3 => exact rfl); (case c4 => exact rfl); (case c5 => decide); k_whole)
  k_with "tintro" => (intro mean mg mb dp un gd outer A₀ base g L ⟨sh, sg, sd, stk, so⟩ B F X N T hpre hd hu; (try dsimp only at F N); (try dsimp only))
  k_with "fdone" => (show Done g L _ _ _ _; refine Done.intro (by k_asm) News.nil ⟨rfl, ?_⟩; (try dsimp only))
  k_with "wintro" => (intro mean mg mb dp un gd outer A₀ base g L ⟨sh, sg, sd, stk, so⟩ B F X N T hpre hd hu; (try dsimp only at F N); (try dsimp only); (have hne := wr_ne N))
  k_with "wdone" => (show Done g L _ _ _ _; refine Done.intro (by k_asm) (by k_asm) ⟨[], _, rfl, (fun _ h => nomatch h), rfl, ?_⟩; (try dsimp only))
  k_with "stopw" => (refine atStop ?_)
  k_with "isstop" => skip
  k_with "stopc" => (refine atStop ?_)
  k_with "stopi" => (refine atStop ?_)
  exact fun _ => rfl
section
theorem freshW2 : True := by
  w_top off
  trivial
def isPr (c : Int) : Bool := decide (33 ≤ c ∧ c ≤ 126)
def isAt (c : Int) : Bool := isPr c && !(#[40, 41, 123, 37, 42, 34, 92, 93] : Array UInt8).contains c.toNat.toUInt8
def isSt (c : Int) : Bool := decide (48 ≤ c ∧ c ≤ 57) || (#[58, 44, 42] : Array UInt8).contains c.toNat.toUInt8
def isFig (c : Int) : Bool := decide (48 ≤ c ∧ c ≤ 57)
theorem c_isPr (w : World) (c : Int) (t : Tok) : FT w 199 1 [.int c t] (fun _ => True) (fun v => v = .bool (isPr c)) := by
  k_dflt (refine' tells_def (binds := [(Str.ofString "code", .int c t)]) ?ho ?hcd ?hb ?hl ?c2 ?c3 ?c4 ?c5 ?_; k_extra "tdef")
  k_extra "tintro"
  k_steps
  all_goals (k_extra "fdone"; simp only [isPr, Value.bool.injEq]; simp; try omega)
theorem c_isFig (w : World) (c : Int) (t : Tok) : FT w 227 1 [.int c t] (fun _ => True) (fun v => v = .bool (isFig c)) := by
  k_dflt (refine' tells_def (binds := [(Str.ofString "code", .int c t)]) ?ho ?hcd ?hb ?hl ?c2 ?c3 ?c4 ?c5 ?_; k_extra "tdef")
  k_extra "tintro"
  k_steps
  all_goals (k_extra "fdone"; simp only [isFig, Value.bool.injEq]; simp; try omega)
theorem c_isSt (w : World) (c : Int) (t : Tok) (h0 : 0 ≤ c) (h1 : c < 256) : FT w 220 1 [.int c t] (fun _ => True) (fun v => v = .bool (isSt c)) := by
  k_dflt (refine' tells_def (binds := [(Str.ofString "code", .int c t)]) ?ho ?hcd ?hb ?hl ?c2 ?c3 ?c4 ?c5 ?_; k_extra "tdef")
  k_extra "tintro"
  k_steps
  all_goals (k_extra "fdone"; simp_all [isSt] <;> (intros; omega))
theorem c_isAt (w : World) (c : Int) (t : Tok) (h0 : 0 ≤ c) (h1 : c < 256) : FT w 206 2 [.int c t] (fun _ => True) (fun v => v = .bool (isAt c)) := by
  k_dflt (refine' tells_def (binds := [(Str.ofString "code", .int c t)]) ?ho ?hcd ?hb ?hl ?c2 ?c3 ?c4 ?c5 ?_; k_extra "tdef")
  k_extra "tintro"
  k_steps
  have C := c_isPr w c t
  walk_at "fcall"; (try clear C); intro v h' tk' hv F' N'; (try dsimp only)
  subst hv
  k_steps
  all_goals (k_extra "fdone"; simp_all [isAt])
end
section
theorem freshW3 : True := by
  w_top off
  trivial
theorem c_peek (w : World) (W : Wr) (p : Nat) (hz : W.d.size ≤ 16777216) : WT w W 270 1 [] p p (fun v => ∃ t, v = .int (if p < W.d.size then ((W.d.toList.getD p 0).toNat : Int) else -1) t) := by
  intro tp
  k_dflt (refine' tells_def (binds := [(Str.ofString "self", .ref W.x)]) ?ho ?hcd ?hb ?hl ?c2 ?c3 ?c4 ?c5 ?_; k_extra "tdef")
  k_extra "wintro"
  k_steps
  · k_extra "wdone"
    refine ⟨_, congrArg (Value.int · _) ?_⟩
    exact (if_pos (by omega)).symm
  · k_extra "wdone"
    refine ⟨_, congrArg (Value.int · _) ?_⟩
    exact (if_neg (by omega)).symm
theorem c_skip (w : World) (W : Wr) (p : Nat) (o : Array UInt8) (t : Tok) (hz : W.d.size ≤ 16777216) (ho : o.size ≤ 1000) (yes : Bool) (hy : yes = ((W.d.toList.drop p).take o.size == o.toList)) :
    WT w W 277 1 [.bytes o t] p (if yes then p + o.size else p) (fun v => v = .bool yes) := by
  intro tp
  k_dflt (refine' tells_def (binds := [(Str.ofString "self", .ref W.x), (Str.ofString "octets", .bytes o t)]) ?ho ?hcd ?hb ?hl ?c2 ?c3 ?c4 ?c5 ?_; k_extra "tdef")
  k_extra "wintro"
  rw [← cut_pre] at hy
  have e1 : ((p : Int) + (o.size : Int)).toNat = p + o.size := by omega
  have e0 : (p : Int).toNat = p := by omega
  k_steps
  all_goals (rename (_ != _) = _ => h9; rw [e0, e1] at h9)
  · have : yes = false := by rw [hy]; simpa [bne] using h9
    subst this
    k_extra "wdone"
  · have : yes = true := by rw [hy]; simpa [bne] using h9
    subst this
    k_extra "wdone"
theorem c_skipY (w : World) (W : Wr) (p k : Nat) (o : Array UInt8) (t : Tok) (hz : W.d.size ≤ 16777216) (ho : o.size ≤ 1000) (hk : o.size = k) (hy : ((W.d.toList.drop p).take o.size == o.toList) = true) :
    WT w W 277 1 [.bytes o t] p (p + k) (fun v => v = .bool true) := by
  subst hk
  exact c_skip w W p o t hz ho true hy.symm
theorem c_skipN (w : World) (W : Wr) (p : Nat) (o : Array UInt8) (t : Tok) (hz : W.d.size ≤ 16777216) (ho : o.size ≤ 1000) (hy : ((W.d.toList.drop p).take o.size == o.toList) = false) :
    WT w W 277 1 [.bytes o t] p p (fun v => v = .bool false) := c_skip w W p o t hz ho false hy.symm
theorem c_need (w : World) (W : Wr) (p : Nat) (o : Array UInt8) (t : Tok) (x : Str) (tx : Tok) (hz : W.d.size ≤ 16777216) (ho : o.size ≤ 1000) (hy : ((W.d.toList.drop p).take o.size == o.toList) = true) :
    WT w W 284 2 [.bytes o t, .str x tx] p (p + o.size) (fun v => v = .none) := by
  intro tp
  k_dflt (refine' tells_def (binds := [(Str.ofString "self", .ref W.x), (Str.ofString "octets", .bytes o t), (Str.ofString "what", .str x tx)]) ?ho ?hcd ?hb ?hl ?c2 ?c3 ?c4 ?c5 ?_; k_extra "tdef")
  k_extra "wintro"
  k_steps
  have C := c_skip w W p o t hz ho true hy.symm
  walk_at "wcall"; (try clear C); intro v t h' tk' hv F' N'; (try dsimp only)
  subst hv
  k_steps
  k_extra "wdone"
end
section
theorem freshW4 : True := by
  w_top off
  trivial
theorem c_space (w : World) (W : Wr) (p : Nat) (hz : W.d.size ≤ 16777216) (hy : ((W.d.toList.drop p).take 1 == [32]) = true) :
    WT w W 291 3 [] p (p + 1) (fun v => v = .none) := by
  intro tp
  k_dflt (refine' tells_def (binds := [(Str.ofString "self", .ref W.x)]) ?ho ?hcd ?hb ?hl ?c2 ?c3 ?c4 ?c5 ?_; k_extra "tdef")
  k_extra "wintro"
  k_steps
  have C := fun t x tx => c_need w W p #[32] t x tx hz (by decide) hy
  walk_at "wcall"; (try clear C); intro v t h' tk' hv F' N'; (try dsimp only)
  subst hv
  k_steps
  k_extra "wdone"
theorem c_runT (w : World) (W : Wr) (p n : Nat) (hz : W.d.size ≤ 16777216) (hn : p + n ≤ W.d.size) (ha : ∀ i, p ≤ i → i < p + n → isSt (W.d.toList.getD i 0).toNat = true) (hb : p + n < W.d.size → isSt (W.d.toList.getD (p + n) 0).toNat = false) :
    WT w W 305 3 [.ref 220] p (p + n) (fun v => ∃ t, v = .bytes (cut W.d p (p + n)) t) := by
  intro tp
  k_dflt (refine' tells_def (binds := [(Str.ofString "self", .ref W.x), (Str.ofString "fits", .ref 220)]) ?ho ?hcd ?hb ?hl ?c2 ?c3 ?c4 ?c5 ?_; k_extra "tdef")
  k_extra "wintro"
  k_steps
  refine while_same (fun k l => ∃ i t, k = n - i ∧ i ≤ n ∧ l = wled w W (p + i) t) n (by k_asm) (by k_asm) ⟨0, tp, rfl, by omega, rfl⟩ ?_
  rintro _ _ h₁ tk₁ ⟨i, t, rfl, hi, rfl⟩ F' N'
  k_steps
  · have hlt : p + i < W.d.size := by omega
    have C := fun t => c_isSt w ((W.d.toList.getD (p + i) 0).toNat : Int) t (by omega) (by have := (W.d.toList.getD (p + i) 0).toNat_lt; omega)
    walk_at "fcall"; (try clear C); intro v h' tk' hv F' N'; (try dsimp only)
    subst hv
    k_steps
    · have h9 : isSt ((W.d.toList.getD (p + i) 0).toNat : Int) = true := by assumption
      have hin : i < n := by
        rcases Nat.lt_or_ge i n with h | h
        · exact h
        · have e : i = n := by omega
          subst e
          have := hb hlt
          rw [this] at h9
          cases h9
      refine while_end (by k_asm) (by k_asm) (n' := n - (i + 1)) (by omega) ⟨rfl, i + 1, _, rfl, hin, rfl⟩
    · have h9 : isSt ((W.d.toList.getD (p + i) 0).toNat : Int) = false := by assumption
      have e : i = n := by
        rcases Nat.lt_or_ge i n with h | h
        · have := ha (p + i) (by omega) (by omega)
          rw [this] at h9
          cases h9
        · omega
      subst e
      k_extra "wdone"
      exact ⟨_, rfl⟩
  · have e : i = n := by omega
    subst e
    k_extra "wdone"
    exact ⟨_, rfl⟩
theorem c_runA (w : World) (W : Wr) (p n : Nat) (hz : W.d.size ≤ 16777216) (hn : p + n ≤ W.d.size) (ha : ∀ i, p ≤ i → i < p + n → isAt (W.d.toList.getD i 0).toNat = true) (hb : p + n < W.d.size → isAt (W.d.toList.getD (p + n) 0).toNat = false) :
    WT w W 305 4 [.ref 206] p (p + n) (fun v => ∃ t, v = .bytes (cut W.d p (p + n)) t) := by
  intro tp
  k_dflt (refine' tells_def (binds := [(Str.ofString "self", .ref W.x), (Str.ofString "fits", .ref 206)]) ?ho ?hcd ?hb ?hl ?c2 ?c3 ?c4 ?c5 ?_; k_extra "tdef")
  k_extra "wintro"
  k_steps
  refine while_same (fun k l => ∃ i t, k = n - i ∧ i ≤ n ∧ l = wled w W (p + i) t) n (by k_asm) (by k_asm) ⟨0, tp, rfl, by omega, rfl⟩ ?_
  rintro _ _ h₁ tk₁ ⟨i, t, rfl, hi, rfl⟩ F' N'
  k_steps
  · have hlt : p + i < W.d.size := by omega
    have C := fun t => c_isAt w ((W.d.toList.getD (p + i) 0).toNat : Int) t (by omega) (by have := (W.d.toList.getD (p + i) 0).toNat_lt; omega)
    walk_at "fcall"; (try clear C); intro v h' tk' hv F' N'; (try dsimp only)
    subst hv
    k_steps
    · have h9 : isAt ((W.d.toList.getD (p + i) 0).toNat : Int) = true := by assumption
      have hin : i < n := by
        rcases Nat.lt_or_ge i n with h | h
        · exact h
        · have e : i = n := by omega
          subst e
          have := hb hlt
          rw [this] at h9
          cases h9
      refine while_end (by k_asm) (by k_asm) (n' := n - (i + 1)) (by omega) ⟨rfl, i + 1, _, rfl, hin, rfl⟩
    · have h9 : isAt ((W.d.toList.getD (p + i) 0).toNat : Int) = false := by assumption
      have e : i = n := by
        rcases Nat.lt_or_ge i n with h | h
        · have := ha (p + i) (by omega) (by omega)
          rw [this] at h9
          cases h9
        · omega
      subst e
      k_extra "wdone"
      exact ⟨_, rfl⟩
  · have e : i = n := by omega
    subst e
    k_extra "wdone"
    exact ⟨_, rfl⟩
theorem c_runF (w : World) (W : Wr) (p n : Nat) (hz : W.d.size ≤ 16777216) (hn : p + n ≤ W.d.size) (ha : ∀ i, p ≤ i → i < p + n → isFig (W.d.toList.getD i 0).toNat = true) (hb : p + n < W.d.size → isFig (W.d.toList.getD (p + n) 0).toNat = false) :
    WT w W 305 3 [.ref 227] p (p + n) (fun v => ∃ t, v = .bytes (cut W.d p (p + n)) t) := by
  intro tp
  k_dflt (refine' tells_def (binds := [(Str.ofString "self", .ref W.x), (Str.ofString "fits", .ref 227)]) ?ho ?hcd ?hb ?hl ?c2 ?c3 ?c4 ?c5 ?_; k_extra "tdef")
  k_extra "wintro"
  k_steps
  refine while_same (fun k l => ∃ i t, k = n - i ∧ i ≤ n ∧ l = wled w W (p + i) t) n (by k_asm) (by k_asm) ⟨0, tp, rfl, by omega, rfl⟩ ?_
  rintro _ _ h₁ tk₁ ⟨i, t, rfl, hi, rfl⟩ F' N'
  k_steps
  · have hlt : p + i < W.d.size := by omega
    have C := fun t => c_isFig w ((W.d.toList.getD (p + i) 0).toNat : Int) t 
    walk_at "fcall"; (try clear C); intro v h' tk' hv F' N'; (try dsimp only)
    subst hv
    k_steps
    · have h9 : isFig ((W.d.toList.getD (p + i) 0).toNat : Int) = true := by assumption
      have hin : i < n := by
        rcases Nat.lt_or_ge i n with h | h
        · exact h
        · have e : i = n := by omega
          subst e
          have := hb hlt
          rw [this] at h9
          cases h9
      refine while_end (by k_asm) (by k_asm) (n' := n - (i + 1)) (by omega) ⟨rfl, i + 1, _, rfl, hin, rfl⟩
    · have h9 : isFig ((W.d.toList.getD (p + i) 0).toNat : Int) = false := by assumption
      have e : i = n := by
        rcases Nat.lt_or_ge i n with h | h
        · have := ha (p + i) (by omega) (by omega)
          rw [this] at h9
          cases h9
        · omega
      subst e
      k_extra "wdone"
      exact ⟨_, rfl⟩
  · have e : i = n := by omega
    subst e
    k_extra "wdone"
    exact ⟨_, rfl⟩
end
section
theorem freshW5 : True := by
  w_top off
  trivial
/-- a text of octets' codes -/
def txt (b : List UInt8) : Str := ⟨(b.map (·.toNat)).toArray⟩
theorem txt_size (l : List UInt8) : (txt l).cps.size = l.length := by simp [txt]
theorem c_ascii (w : World) (b : Array UInt8) (t : Tok) (hz : b.size ≤ 100000) (h7 : ∀ c ∈ b.toList, c.toNat ≤ 127) : FT w 119 1 [.bytes b t] (fun _ => True) (fun v => ∃ t, v = .str (txt b.toList) t) := by
  k_dflt (refine' tells_def (binds := [(Str.ofString "octets", .bytes b t)]) ?ho ?hcd ?hb ?hl ?c2 ?c3 ?c4 ?c5 ?_; k_extra "tdef")
  k_extra "tintro"
  k_steps
  refine for_same (fun _ l => l = []) (ItSrc.upto rfl (by assumption) (by omega)) (fun _ h => nomatch h) (by k_asm) (by k_asm) rfl ?_ ?_
  · rintro i _ _ h₁ tk₁ own J hi ⟨ti, rfl⟩ rfl ho hx F' N'
    have hc := h7 _ (mem_getD (d := 0) (show i < b.toList.length by simpa using hi))
    k_steps
    exact for_end (nx' := []) (by k_asm) (by k_asm) (fun _ h => nomatch h) ⟨fun y hy => by simp only [if_neg hy], rfl⟩
  · rintro u _ h₁ tk₁ rfl F' N'
    k_steps
    refine comp_by (fun _ => true) (fun v y => ∃ (c : UInt8) (t u : Tok), v = .int (c.toNat : Int) t ∧ y = .str ⟨#[c.toNat]⟩ u) F' ?_
    k_steps
    refine goOn ⟨_, _, _, _, by k_asm, by k_asm, ItSrc.bytes rfl, by rw [sizeLine_eq]; omega, ?_, ?_, ?_⟩
    · rintro C i v s₂ m₂ E' hP F2 N2 hn hm
      exact wpAny_pure ⟨rfl, keeps_same⟩
    · rintro C i v s₂ m₂ E' ⟨c, tc, hc, rfl⟩ _ F2 N2 hn hm
      have h9 := c.toNat_lt
      k_steps
      exact goOn ⟨⟨c, _, _, rfl, rfl⟩, keeps_rfl⟩
    · intro D nn vs ys h' tk hlen hP hG F' N' hne
      have hs := strs_of (R := fun (c : UInt8) v => ∃ u, v = .int (c.toNat : Int) u) (fun c => (⟨#[c.toNat]⟩ : Str)) (by
        rintro c v y ⟨u, rfl⟩ ⟨c', t, u', e, rfl⟩
        have e' : c'.toNat = c.toNat := by
          have := Value.int.inj e
          omega
        exact ⟨u', by rw [e']⟩) b.toList vs ys (by simpa using hlen) (fun j v hv => by
        obtain ⟨c, u, hc, rfl⟩ := hP j v hv
        exact ⟨c, by simpa using hc, u, rfl⟩) hG
      k_steps
      refine join_listC (News.isList (by k_asm) (.head _)) hs (by decide) (by rw [sum_ones _ fun _ => rfl, List.length_map, Array.length_toList]; omega) ?_
      intro t' k
      k_steps
      k_extra "fdone"
      refine ⟨_, congrArg (Value.str · _) (str_ext ?_)⟩
      have := join_ones (b.toList.map (·.toNat))
      rw [List.map_map] at this
      exact this
theorem c_octets (w : World) (x : Str) (t : Tok) (hz : x.cps.size ≤ 100000) (h7 : ∀ c ∈ x.cps.toList, c ≤ 127) : FT w 124 1 [.str x t] (fun _ => True) (fun v => ∃ t, v = .bytes (x.cps.toList.map (·.toUInt8)).toArray t) := by
  k_dflt (refine' tells_def (binds := [(Str.ofString "text", .str x t)]) ?ho ?hcd ?hb ?hl ?c2 ?c3 ?c4 ?c5 ?_; k_extra "tdef")
  k_extra "tintro"
  k_steps
  refine for_same (fun _ l => l = []) (ItSrc.upto rfl (by assumption) (by omega)) (fun _ h => nomatch h) (by k_asm) (by k_asm) rfl ?_ ?_
  · rintro i _ _ h₁ tk₁ own J hi ⟨ti, rfl⟩ rfl ho hx F' N'
    have hc := h7 _ (arr_getD (d := 0) hi)
    k_steps
    exact for_end (nx' := []) (by k_asm) (by k_asm) (fun _ h => nomatch h) ⟨fun y hy => by simp only [if_neg hy], rfl⟩
  · rintro u _ h₁ tk₁ rfl F' N'
    k_steps
    refine comp_by (fun _ => true) (fun v y => ∃ (c : Nat) (t u : Tok), v = .str ⟨#[c]⟩ t ∧ y = .int (c : Int) u) F' ?_
    k_steps
    refine goOn ⟨_, _, _, _, by k_asm, by k_asm, ItSrc.str rfl, by rw [sizeLine_eq]; omega, ?_, ?_, ?_⟩
    · rintro C i v s₂ m₂ E' hP F2 N2 hn hm
      exact wpAny_pure ⟨rfl, keeps_same⟩
    · rintro C i v s₂ m₂ E' ⟨c, tc, hc, rfl⟩ _ F2 N2 hn hm
      k_steps
      exact goOn ⟨⟨c, _, _, rfl, rfl⟩, keeps_rfl⟩
    · intro D nn vs ys h' tk hlen hP hG F' N' hne
      have hs := ints_of (R := fun (c : Nat) v => ∃ u, v = .str ⟨#[c]⟩ u) (fun c => (c : Int)) (by
        rintro c v y ⟨u, rfl⟩ ⟨c', t, u', e, rfl⟩
        have e' : c' = c := by
          have := Value.str.inj e
          simpa using this.1.symm
        exact ⟨u', by rw [e']⟩) x.cps.toList vs ys (by simpa using hlen) (fun j v hv => by
        obtain ⟨c, u, hc, rfl⟩ := hP j v hv
        exact ⟨c, by simpa using hc, u, rfl⟩) hG
      have hr : ∀ n ∈ x.cps.toList.map (fun c : Nat => (c : Int)), 0 ≤ n ∧ n < 256 := by
        intro n hn
        obtain ⟨c, hc, rfl⟩ := List.mem_map.mp hn
        have := h7 c hc
        omega
      k_steps
      refine bytes_K (by k_asm) (by k_asm) (News.isList (by k_asm) (.head _)) hs hr (by rw [hs.length, List.length_map, Array.length_toList, sizeLine_eq]; omega) rfl ?_
      intro h' t' k F' N' _
      k_steps
      k_extra "fdone"
      refine ⟨_, congrArg (Value.bytes · _) (congrArg List.toArray ?_)⟩
      rw [List.map_map]
      rfl
end
section
theorem freshW6 : True := by
  w_top off
  trivial
theorem c_word_ofT (w : World) (W : Wr) (p n : Nat) (x : Str) (tx : Tok) (hz : W.d.size ≤ 100000) (hn : p + n ≤ W.d.size) (h0 : 0 < n) (ha : ∀ i, p ≤ i → i < p + n → isSt (W.d.toList.getD i 0).toNat = true) (hb : p + n < W.d.size → isSt (W.d.toList.getD (p + n) 0).toNat = false)
    (h7 : ∀ c ∈ (cut W.d p (p + n)).toList, c.toNat ≤ 127) : WT w W 312 5 [.ref 220, .str x tx] p (p + n) (fun v => ∃ t, v = .str (txt (cut W.d p (p + n)).toList) t) := by
  intro tp
  k_dflt (refine' tells_def (binds := [(Str.ofString "self", .ref W.x), (Str.ofString "fits", .ref 220), (Str.ofString "what", .str x tx)]) ?ho ?hcd ?hb ?hl ?c2 ?c3 ?c4 ?c5 ?_; k_extra "tdef")
  k_extra "wintro"
  k_steps
  have C := c_runT w W p n (by omega) hn ha hb
  walk_at "wcall"; (try clear C); intro v t h' tk' hv F' N'; (try dsimp only)
  obtain ⟨t2, rfl⟩ := hv
  have hcs := cut_size W.d p (p + n) hn
  k_steps
  · exfalso; omega
  have C := c_ascii w (cut W.d p (p + n)) t2 (by omega) h7
  walk_at "fcall"; (try clear C); intro v h' tk' hv F' N'; (try dsimp only)
  obtain ⟨t3, rfl⟩ := hv
  k_steps
  k_extra "wdone"
  exact ⟨_, rfl⟩
theorem c_word_ofA (w : World) (W : Wr) (p n : Nat) (x : Str) (tx : Tok) (hz : W.d.size ≤ 100000) (hn : p + n ≤ W.d.size) (h0 : 0 < n) (ha : ∀ i, p ≤ i → i < p + n → isAt (W.d.toList.getD i 0).toNat = true) (hb : p + n < W.d.size → isAt (W.d.toList.getD (p + n) 0).toNat = false)
    (h7 : ∀ c ∈ (cut W.d p (p + n)).toList, c.toNat ≤ 127) : WT w W 312 5 [.ref 206, .str x tx] p (p + n) (fun v => ∃ t, v = .str (txt (cut W.d p (p + n)).toList) t) := by
  intro tp
  k_dflt (refine' tells_def (binds := [(Str.ofString "self", .ref W.x), (Str.ofString "fits", .ref 206), (Str.ofString "what", .str x tx)]) ?ho ?hcd ?hb ?hl ?c2 ?c3 ?c4 ?c5 ?_; k_extra "tdef")
  k_extra "wintro"
  k_steps
  have C := c_runA w W p n (by omega) hn ha hb
  walk_at "wcall"; (try clear C); intro v t h' tk' hv F' N'; (try dsimp only)
  obtain ⟨t2, rfl⟩ := hv
  have hcs := cut_size W.d p (p + n) hn
  k_steps
  · exfalso; omega
  have C := c_ascii w (cut W.d p (p + n)) t2 (by omega) h7
  walk_at "fcall"; (try clear C); intro v h' tk' hv F' N'; (try dsimp only)
  obtain ⟨t3, rfl⟩ := hv
  k_steps
  k_extra "wdone"
  exact ⟨_, rfl⟩
theorem c_atom (w : World) (W : Wr) (p n : Nat) (hz : W.d.size ≤ 100000) (hn : p + n ≤ W.d.size) (h0 : 0 < n) (ha : ∀ i, p ≤ i → i < p + n → isAt (W.d.toList.getD i 0).toNat = true) (hb : p + n < W.d.size → isAt (W.d.toList.getD (p + n) 0).toNat = false)
    (h7 : ∀ c ∈ (cut W.d p (p + n)).toList, c.toNat ≤ 127) : WT w W 319 6 [] p (p + n) (fun v => ∃ t, v = .str (txt (cut W.d p (p + n)).toList) t) := by
  intro tp
  k_dflt (refine' tells_def (binds := [(Str.ofString "self", .ref W.x)]) ?ho ?hcd ?hb ?hl ?c2 ?c3 ?c4 ?c5 ?_; k_extra "tdef")
  k_extra "wintro"
  k_steps
  have C := fun x tx => c_word_ofA w W p n x tx hz hn h0 ha hb h7
  walk_at "wcall"; (try clear C); intro v t h' tk' hv F' N'; (try dsimp only)
  obtain ⟨t2, rfl⟩ := hv
  k_steps
  k_extra "wdone"
  exact ⟨_, rfl⟩
theorem c_set_text (w : World) (W : Wr) (p n : Nat) (hz : W.d.size ≤ 100000) (hn : p + n ≤ W.d.size) (h0 : 0 < n) (ha : ∀ i, p ≤ i → i < p + n → isSt (W.d.toList.getD i 0).toNat = true) (hb : p + n < W.d.size → isSt (W.d.toList.getD (p + n) 0).toNat = false)
    (h7 : ∀ c ∈ (cut W.d p (p + n)).toList, c.toNat ≤ 127) : WT w W 340 6 [] p (p + n) (fun v => ∃ t, v = .str (txt (cut W.d p (p + n)).toList) t) := by
  intro tp
  k_dflt (refine' tells_def (binds := [(Str.ofString "self", .ref W.x)]) ?ho ?hcd ?hb ?hl ?c2 ?c3 ?c4 ?c5 ?_; k_extra "tdef")
  k_extra "wintro"
  k_steps
  have C := fun x tx => c_word_ofT w W p n x tx hz hn h0 ha hb h7
  walk_at "wcall"; (try clear C); intro v t h' tk' hv F' N'; (try dsimp only)
  obtain ⟨t2, rfl⟩ := hv
  k_steps
  k_extra "wdone"
  exact ⟨_, rfl⟩
theorem c_flagB (w : World) (W : Wr) (p n : Nat) (hz : W.d.size ≤ 100000) (hy : ((W.d.toList.drop p).take 1 == [92]) = true) (hn : p + 1 + n ≤ W.d.size) (h0 : 0 < n) (ha : ∀ i, p + 1 ≤ i → i < p + 1 + n → isAt (W.d.toList.getD i 0).toNat = true) (hb : p + 1 + n < W.d.size → isAt (W.d.toList.getD (p + 1 + n) 0).toNat = false)
    (h7 : ∀ c ∈ (cut W.d (p + 1) (p + 1 + n)).toList, c.toNat ≤ 127) : WT w W 347 7 [] p (p + 1 + n) (fun v => ∃ t, v = .str (Str.ofString "\\" ++ txt (cut W.d (p + 1) (p + 1 + n)).toList) t) := by
  intro tp
  k_dflt (refine' tells_def (binds := [(Str.ofString "self", .ref W.x)]) ?ho ?hcd ?hb ?hl ?c2 ?c3 ?c4 ?c5 ?_; k_extra "tdef")
  k_extra "wintro"
  k_steps
  have C := fun t => c_skipY w W p 1 #[92] t (by omega) (by decide) rfl hy
  walk_at "wcall"; (try clear C); intro v t h' tk' hv F' N'; (try dsimp only)
  subst hv
  k_steps
  have z1 : (Str.ofString "\\").cps.size = 1 := by decide
  have z2 : (txt (cut W.d (p + 1) (p + 1 + n)).toList).cps.size = n := by rw [txt_size, Array.length_toList, cut_size _ _ _ hn]; omega
  have C := c_atom w W (p + 1) n hz hn h0 ha hb h7
  walk_at "wcall"; (try clear C); intro v t h' tk' hv F' N'; (try dsimp only)
  obtain ⟨t2, rfl⟩ := hv
  k_steps
  k_extra "wdone"
  exact ⟨_, rfl⟩
theorem c_flagN (w : World) (W : Wr) (p n : Nat) (hz : W.d.size ≤ 100000) (hy : ((W.d.toList.drop p).take 1 == [92]) = false) (hn : p + n ≤ W.d.size) (h0 : 0 < n) (ha : ∀ i, p ≤ i → i < p + n → isAt (W.d.toList.getD i 0).toNat = true) (hb : p + n < W.d.size → isAt (W.d.toList.getD (p + n) 0).toNat = false)
    (h7 : ∀ c ∈ (cut W.d (p) (p + n)).toList, c.toNat ≤ 127) : WT w W 347 7 [] p (p + n) (fun v => ∃ t, v = .str (Str.ofString "" ++ txt (cut W.d (p) (p + n)).toList) t) := by
  intro tp
  k_dflt (refine' tells_def (binds := [(Str.ofString "self", .ref W.x)]) ?ho ?hcd ?hb ?hl ?c2 ?c3 ?c4 ?c5 ?_; k_extra "tdef")
  k_extra "wintro"
  k_steps
  have C := fun t => c_skipN w W p #[92] t (by omega) (by decide) hy
  walk_at "wcall"; (try clear C); intro v t h' tk' hv F' N'; (try dsimp only)
  subst hv
  k_steps
  have z1 : (Str.ofString "").cps.size = 0 := by decide
  have z2 : (txt (cut W.d p (p + n)).toList).cps.size = n := by rw [txt_size, Array.length_toList, cut_size _ _ _ hn]; omega
  have C := c_atom w W (p) n hz hn h0 ha hb h7
  walk_at "wcall"; (try clear C); intro v t h' tk' hv F' N'; (try dsimp only)
  obtain ⟨t2, rfl⟩ := hv
  k_steps
  k_extra "wdone"
  exact ⟨_, rfl⟩
theorem c_upper (w : World) (x : Str) (t : Tok) (hz : x.cps.size ≤ 100000) (h7 : ∀ c ∈ x.cps.toList, c < 97) : FT w 114 1 [.str x t] (fun _ => True) (fun v => ∃ t, v = .str x t) := by
  k_dflt (refine' tells_def (binds := [(Str.ofString "text", .str x t)]) ?ho ?hcd ?hb ?hl ?c2 ?c3 ?c4 ?c5 ?_; k_extra "tdef")
  k_extra "tintro"
  k_steps
  refine comp_by (fun _ => true) (fun v y => ∃ (c : Nat) (t u : Tok), v = .str ⟨#[c]⟩ t ∧ y = .str ⟨#[c]⟩ u) F ?_
  k_steps
  refine goOn ⟨_, _, _, _, by k_asm, by k_asm, ItSrc.str rfl, by rw [sizeLine_eq]; omega, ?_, ?_, ?_⟩
  · rintro C i v s₂ m₂ E' hP F2 N2 hn hm
    exact wpAny_pure ⟨rfl, keeps_same⟩
  · rintro C i v s₂ m₂ E' ⟨c, tc, hc, rfl⟩ _ F2 N2 hn hm
    have hc9 : c < 97 := h7 c (Array.mem_toList_iff.mpr (Array.mem_of_getElem? hc))
    k_steps
    · exact goOn ⟨⟨c, _, _, rfl, rfl⟩, keeps_rfl⟩
    · exact goOn ⟨⟨c, _, _, rfl, rfl⟩, keeps_rfl⟩
    · exact absurd (show (⟨#[c]⟩ : Str).cps.toList < (Str.ofString "a").cps.toList from (show [c] < [97] from List.Lex.rel hc9)) (by assumption)
  · intro D nn vs ys h' tk hlen hP hG F' N' hne
    have hs := strs_of (R := fun (c : Nat) v => ∃ u, v = .str ⟨#[c]⟩ u) (fun c => (⟨#[c]⟩ : Str)) (by
      rintro c v y ⟨u, rfl⟩ ⟨c', t, u', e, rfl⟩
      have e' : c' = c := by
        have := Value.str.inj e
        simpa using this.1.symm
      exact ⟨u', by rw [e']⟩) x.cps.toList vs ys (by simpa using hlen) (fun j v hv => by
      obtain ⟨c, u, hc, rfl⟩ := hP j v hv
      exact ⟨c, by simpa using hc, u, rfl⟩) hG
    k_steps
    refine join_listC (News.isList (by k_asm) (.head _)) hs (by decide) (by rw [sum_ones _ fun _ => rfl, List.length_map, Array.length_toList]; omega) ?_
    intro t' k
    k_steps
    k_extra "fdone"
    exact ⟨_, congrArg (Value.str · _) (str_ext (join_ones _))⟩
end
section
theorem freshW7 : True := by
  w_top off
  trivial
/-- the number that octets of figures show -/
def figs (l : List UInt8) : Int := l.foldl (fun a c => a * 10 + (c.toNat : Int) - 48) 0
theorem figs_snoc (l : List UInt8) (c : UInt8) : figs (l ++ [c]) = figs l * 10 + (c.toNat : Int) - 48 := by simp [figs]
theorem figs_from : ∀ (l : List UInt8) (a : Int), (∀ c ∈ l, isFig c.toNat = true) → 0 ≤ a → 0 ≤ l.foldl (fun a c => a * 10 + (c.toNat : Int) - 48) a ∧ l.foldl (fun a c => a * 10 + (c.toNat : Int) - 48) a < (a + 1) * ((10 ^ l.length : Nat) : Int)
  | [], a, _, h => by simp; omega
  | c :: l, a, hf, h => by
    have hc := hf c (by simp)
    simp only [isFig, decide_eq_true_eq] at hc
    obtain ⟨h1, h2⟩ := figs_from l (a * 10 + (c.toNat : Int) - 48) (fun d hd => hf d (by simp [hd])) (by omega)
    refine ⟨h1, Int.lt_of_lt_of_le h2 ?_⟩
    have e : ((10 ^ (c :: l).length : Nat) : Int) = 10 * ((10 ^ l.length : Nat) : Int) := by
      rw [List.length_cons, Nat.pow_succ, Nat.mul_comm, Int.natCast_mul]; rfl
    rw [e, ← Int.mul_assoc]
    exact Int.mul_le_mul_of_nonneg_right (by omega) (Int.natCast_nonneg _)
theorem figs_bound (l : List UInt8) (hf : ∀ c ∈ l, isFig c.toNat = true) (hl : l.length ≤ 19) : 0 ≤ figs l ∧ figs l < 10000000000000000000 := by
  obtain ⟨h1, h2⟩ := figs_from l 0 hf (by decide)
  refine ⟨h1, Int.lt_of_lt_of_le h2 ?_⟩
  have : 10 ^ l.length ≤ 10 ^ 19 := Nat.pow_le_pow_right (by decide) hl
  have e : (10 : Nat) ^ 19 = 10000000000000000000 := by decide
  rw [e] at this
  omega
theorem c_figs (w : World) (b : Array UInt8) (t : Tok) (hz : b.size ≤ 19) (hf : ∀ c ∈ b.toList, isFig c.toNat = true) : FT w 234 1 [.bytes b t] (fun _ => True) (fun v => ∃ t, v = .int (figs b.toList) t) := by
  k_dflt (refine' tells_def (binds := [(Str.ofString "octets", .bytes b t)]) ?ho ?hcd ?hb ?hl ?c2 ?c3 ?c4 ?c5 ?_; k_extra "tdef")
  k_extra "tintro"
  k_steps
  refine for_acc (Str.ofString "number") (fun i a => ∃ t, a = .int (figs (b.toList.take i)) t) (fun _ l => l = []) (ItSrc.bytes rfl) (fun _ h => nomatch h) (by k_asm) (by k_asm) (by decide) ⟨_, rfl, _, rfl⟩ rfl ?_ ?_
  · rintro i _ _ _ h₁ tk₁ own J hi ⟨c, u, hc, rfl⟩ ⟨ta, rfl⟩ rfl ho hx F' N'
    have hm : c ∈ b.toList := Array.mem_toList_iff.mpr (Array.mem_of_getElem? hc)
    have hc9 := hf c hm
    simp only [isFig, decide_eq_true_eq] at hc9
    have hb := figs_bound (b.toList.take i) (fun d hd => hf d (List.mem_of_mem_take hd)) (by simp; omega)
    have hs : b.toList.take (i + 1) = b.toList.take i ++ [c] := by
      rw [List.take_add_one]
      simp [hc]
    generalize hg : figs (b.toList.take i) = z at *
    have h0 := hb.1
    have h1 := hb.2
    k_steps
    refine for_end (nx' := []) (by k_asm) (by k_asm) (fun _ h => nomatch h) ⟨⟨_, rfl, _, congrArg (Value.int · _) ?_⟩, fun y hy hz => by simp only [if_neg hy, if_neg hz], rfl⟩
    rw [hs, figs_snoc, hg]
  · rintro u _ _ h₁ tk₁ ⟨ta, rfl⟩ rfl F' N'
    k_steps
    k_extra "fdone"
    exact ⟨ta, by rw [List.take_of_length_le (by simp)]⟩
theorem c_number (w : World) (W : Wr) (p n : Nat) (hz : W.d.size ≤ 100000) (hn : p + n ≤ W.d.size) (h0 : 0 < n) (h9 : n ≤ 19) (ha : ∀ i, p ≤ i → i < p + n → isFig (W.d.toList.getD i 0).toNat = true) (hb : p + n < W.d.size → isFig (W.d.toList.getD (p + n) 0).toNat = false)
    (hf : ∀ c ∈ (cut W.d p (p + n)).toList, isFig c.toNat = true) : WT w W 354 5 [] p (p + n) (fun v => ∃ t, v = .int (figs (cut W.d p (p + n)).toList) t) := by
  intro tp
  k_dflt (refine' tells_def (binds := [(Str.ofString "self", .ref W.x)]) ?ho ?hcd ?hb ?hl ?c2 ?c3 ?c4 ?c5 ?_; k_extra "tdef")
  k_extra "wintro"
  k_steps
  have C := c_runF w W p n (by omega) hn ha hb
  walk_at "wcall"; (try clear C); intro v t h' tk' hv F' N'; (try dsimp only)
  obtain ⟨t2, rfl⟩ := hv
  have hcs := cut_size W.d p (p + n) hn
  k_steps
  · exfalso; omega
  have C := c_figs w (cut W.d p (p + n)) t2 (by omega) hf
  walk_at "fcall"; (try clear C); intro v h' tk' hv F' N'; (try dsimp only)
  obtain ⟨t3, rfl⟩ := hv
  k_steps
  k_extra "wdone"
  exact ⟨_, rfl⟩
end
section
theorem freshW8 : True := by
  w_top off
  trivial
theorem c_read_end (w : World) (x : Str) (t : Tok) (p k : Nat) (tp : Tok) (val : Nat → Nat) (hz : x.cps.size ≤ 100000) (hk : 0 < k) (hsz : p + k ≤ x.cps.size)
    (hdig : ∀ i, i < k → 48 ≤ x.cps.getD (p + i) 0 ∧ x.cps.getD (p + i) 0 ≤ 57) (he : p + k < x.cps.size → ¬ (48 ≤ x.cps.getD (p + k) 0 ∧ x.cps.getD (p + k) 0 ≤ 57)) (h0 : x.cps.getD p 0 ≠ 48)
    (v0 : val 0 = 0) (vs : ∀ i, i < k → val (i + 1) = val i * 10 + (x.cps.getD (p + i) 0 - 48)) (hm : ∀ i, i ≤ k → val i ≤ 4294967295) :
    DT w 131 1 [.str x t, .int (p : Int) tp] (fun _ => True) (.tuple [.int (val k : Nat), .int ((p + k : Nat) : Int)]) := by
  k_dflt (refine' tells_def (binds := [(Str.ofString "text", .str x t), (Str.ofString "at", .int (p : Int) tp)]) ?ho ?hcd ?hb ?hl ?c2 ?c3 ?c4 ?c5 ?_; k_extra "tdef")
  k_extra "tintro"
  k_steps
  · exfalso
    have h7 := hdig 0 hk
    simp only [s_star, one_eq, Nat.add_zero] at *
    omega
  · refine while_acc2 (Str.ofString "number") (Str.ofString "end") (fun i a => ∃ t, a = .int (val i : Nat) t) (fun i a => ∃ t, a = .int ((p + i : Nat) : Int) t) (fun _ l => l = []) k (by decide) (by k_asm) (by k_asm) ⟨_, rfl, _, by rw [v0]; rfl⟩ ⟨_, rfl, _, rfl⟩ rfl ?_
    rintro i _ _ _ h₁ tk₁ hi ⟨t1, rfl⟩ ⟨t2, rfl⟩ rfl F' N'
    rcases Nat.lt_or_ge i k with hik | hik
    · have h7 := hdig i hik
      have h6 := vs i hik
      have h5 := hm (i + 1) hik
      have f1 : ¬ (⟨#[x.cps.getD (p + i) 0]⟩ : Str).cps.toList < (Str.ofString "0").cps.toList := by rw [s_zero, one_lt]; omega
      have f2 : ¬ (Str.ofString "9").cps.toList < (⟨#[x.cps.getD (p + i) 0]⟩ : Str).cps.toList := by rw [s_nine, one_lt]; omega
      k_steps
      refine acc2_end (by k_asm) (by k_asm) hik ⟨_, rfl, _, congrArg (Value.int · _) ?_⟩ ⟨_, rfl, _, rfl⟩ (fun z h1 h2 => by simp only [if_neg h1, if_neg h2]) rfl
      rw [if_neg (by omega)]
      omega
    · have e : i = k := by omega
      subst e
      have h5 := hm i hi
      have h7 := hdig 0 hk
      rw [Nat.add_zero] at h7
      have f0 : ({ cps := #[x.cps.getD p 0] } == Str.ofString "0") = false := by rw [s_zero, one_ne]; exact h0
      k_steps
      all_goals (first | (exfalso; omega) | (exfalso; have h9 := he (by omega); simp only [s_zero, s_nine, one_lt, one_lt', one_lt2] at *; omega) | (show Done g L _ _ _ _; exact Done.intro (by k_asm) (by k_asm) (DatIn.tuple (.head _) (.cons (.int _ _) (.cons (.int _ _) .nil)))))
end
section
theorem freshW9 : True := by
  w_top off
  trivial
theorem str_size_app (x y : Str) : (x ++ y).cps.size = x.cps.size + y.cps.size := Array.size_append
theorem numStr_size (n : Nat) (h1 : n < 10000000000) : (Str.ofString (toString (n : Int))).cps.size ≤ 10 := by
  have := dg_len 9 n h1
  rw [← dg_str n, Array.length_toList] at this
  exact this
theorem c_show_end (w : World) (n : Nat) (t : Tok) (h0 : 0 < n) (h1 : n < 10000000000) : FT w 145 1 [.int (n : Int) t] (fun _ => True) (fun v => ∃ t, v = .str (Str.ofString (toString (n : Int))) t) := by
  k_dflt (refine' tells_def (binds := [(Str.ofString "number", .int (n : Int) t)]) ?ho ?hcd ?hb ?hl ?c2 ?c3 ?c4 ?c5 ?_; k_extra "tdef")
  k_extra "tintro"
  k_steps
  · exfalso; omega
  · k_extra "fdone"
    exact ⟨_, rfl⟩
theorem c_show_pair (w : World) (v : Value) (a b : Nat) (ha : 0 < a) (hb : 0 < b) (ha1 : a < 10000000000) (hb1 : b < 10000000000) : FT w 152 2 [v] (fun h => DatH h v (.tuple [.int (a : Int), .int (b : Int)])) (fun v => ∃ x t, v = .str x t ∧ x.cps.toList = if a = b then dg a else dg a ++ 58 :: dg b) := by
  k_dflt (refine' tells_def (binds := [(Str.ofString "pair", v)]) ?ho ?hcd ?hb ?hl ?c2 ?c3 ?c4 ?c5 ?_; k_extra "tdef")
  k_extra "tintro"
  obtain ⟨r, t, u, rfl, hT⟩ := hpre.pair
  have hT : IsTup g r #[.int a t, .int b u] := hT
  have z1 := numStr_size a ha1
  have z2 := numStr_size b hb1
  have z3 : (Str.ofString ":").cps.size = 1 := by decide
  k_steps
  · have C := c_show_end w a t ha ha1
    walk_at "fcall"; (try clear C); intro v h' tk' hv F' N'; (try dsimp only)
    obtain ⟨t2, rfl⟩ := hv
    k_steps
    k_extra "fdone"
    refine ⟨_, _, rfl, ?_⟩
    rw [if_pos (by omega)]
    exact dg_str a
  · have C := c_show_end w a t ha ha1
    walk_at "fcall"; (try clear C); intro v h' tk' hv F' N'; (try dsimp only)
    obtain ⟨t2, rfl⟩ := hv
    k_steps
    have z4 : (Str.ofString (toString (a : Int)) ++ Str.ofString ":").cps.size ≤ 11 := by
      rw [str_size_app]; omega
    have C := c_show_end w b u hb hb1
    walk_at "fcall"; (try clear C); intro v h' tk' hv F' N'; (try dsimp only)
    obtain ⟨t3, rfl⟩ := hv
    k_steps
    k_extra "fdone"
    refine ⟨_, _, rfl, ?_⟩
    rw [if_neg (by omega), str_app, str_app, dg_str, dg_str, s_colon]
    simp
/-- a pair shown -/
def shPair (p : Nat × Nat) : List Nat := if p.1 = p.2 then dg p.1 else dg p.1 ++ 58 :: dg p.2
/-- pairs shown -/
def shSet : List (Nat × Nat) → List Nat
  | [] => []
  | [p] => shPair p
  | p :: q :: r => shPair p ++ 44 :: shSet (q :: r)
def okPair (p : Nat × Nat) : Prop := 0 < p.1 ∧ 0 < p.2 ∧ p.1 < 10000000000 ∧ p.2 < 10000000000
abbrev datPairs (ps : List (Nat × Nat)) : Dat := .tuple (ps.map fun p => .tuple [.int (p.1 : Int), .int (p.2 : Int)])
theorem shPair_len (p : Nat × Nat) (h : okPair p) : (shPair p).length ≤ 21 := by
  obtain ⟨_, _, h1, h2⟩ := h
  have a := dg_len 9 p.1 h1
  have b := dg_len 9 p.2 h2
  unfold shPair
  split
  · omega
  · rw [List.length_append, List.length_cons]; omega
theorem pair_inj {h : Heap} {v : Value} {a b c d : Int} (D : DatH h v (.tuple [.int a, .int b])) (E : DatH h v (.tuple [.int c, .int d])) : a = c ∧ b = d := by
  obtain ⟨r, t, u, rfl, o, ho, _, n, hd⟩ := D.pair
  obtain ⟨r', t', u', e, o', ho', _, n', hd'⟩ := E.pair
  cases e
  rw [ho] at ho'
  cases ho'
  rw [hd] at hd'
  cases hd'
  exact ⟨rfl, rfl⟩
def pairStr (p : Nat × Nat) : Str := ⟨(shPair p).toArray⟩
theorem join_set : ∀ ps : List (Nat × Nat), (Txt.join (Str.ofString ",") (ps.map pairStr)).cps.toList = shSet ps := by
  intro ps
  show (Builtin.Str.glued _ _).cps.toList = _
  rw [StrLaws.glued_eq_join, s_comma]
  induction ps with
  | nil => rfl
  | cons p ps ih =>
    cases ps with
    | nil => rfl
    | cons q r =>
      show (pairStr p ++ (⟨#[44]⟩ : Str) ++ Str.join ⟨#[44]⟩ ((q :: r).map pairStr)).cps.toList = _
      rw [str_app, str_app, ih]
      simp [shSet, pairStr]
theorem sum_le {α : Type} (f : α → Nat) (B : Nat) : ∀ l : List α, (∀ a ∈ l, f a ≤ B) → (l.map f).sum ≤ l.length * B
  | [], _ => by simp
  | a :: l, h => by
    have h1 := h a (by simp)
    have h2 := sum_le f B l fun b hb => h b (by simp [hb])
    rw [List.map_cons, List.sum_cons, List.length_cons, Nat.add_mul]
    omega
theorem c_show_set (w : World) (v : Value) (ps : List (Nat × Nat)) (hok : ∀ p ∈ ps, okPair p) (hl : ps.length ≤ 1000) : FT w 157 3 [v] (fun h => DatH h v (datPairs ps)) (fun v => ∃ x t, v = .str x t ∧ x.cps.toList = shSet ps) := by
  k_dflt (refine' tells_def (binds := [(Str.ofString "some", v)]) ?ho ?hcd ?hb ?hl ?c2 ?c3 ?c4 ?c5 ?_; k_extra "tdef")
  k_extra "tintro"
  obtain ⟨r, its, rfl, hT, hlen, hall⟩ := hpre.tuple
  rw [List.length_map] at hlen
  k_steps
  refine comp_by (fun _ => true) (fun v y => ∃ p, p ∈ ps ∧ DatH g v (.tuple [.int (p.1 : Int), .int (p.2 : Int)]) ∧ ∃ x t, y = .str x t ∧ x.cps.toList = shPair p) F ?_
  k_steps
  refine goOn ⟨_, _, _, _, by k_asm, by k_asm, ItSrc.tup rfl (IsTup.keeps hT F.keep), by rw [sizeLine_eq]; simp; omega, ?_, ?_, ?_⟩
  · rintro C i v s₂ m₂ E' hP F2 N2 hn hm
    exact wpAny_pure ⟨rfl, keeps_same⟩
  · rintro C i v s₂ m₂ E' hi _ F2 N2 hn hm
    obtain ⟨d, hd1, hd2⟩ := hall i v (by simpa using hi)
    rw [List.getElem?_map] at hd1
    obtain ⟨p, hp, rfl⟩ := Option.map_eq_some_iff.mp hd1
    have hpm := List.mem_of_getElem? hp
    obtain ⟨q1, q2, q3, q4⟩ := hok p hpm
    have hd3 := hd2.keeps F2.keep
    k_steps
    have C := c_show_pair w v p.1 p.2 q1 q2 q3 q4
    walk_at "kcall"; (try clear C); intro v h' tk' hv hk'; (try dsimp only)
    obtain ⟨x, t, rfl, hx⟩ := hv
    k_steps
    exact goOn ⟨⟨p, hpm, hd2, _, _, rfl, hx⟩, ⟨_, _, rfl, hk'⟩⟩
  · intro D nn vs ys h' tk hlen2 hP hG F' N' hne
    have hs := strs_of (R := fun p v => p ∈ ps ∧ DatH g v (.tuple [.int (p.1 : Int), .int (p.2 : Int)])) pairStr (by
      rintro p v y ⟨_, hp⟩ ⟨p', _, hp', x, t, rfl, hx⟩
      obtain ⟨e1, e2⟩ := pair_inj hp hp'
      have e : p = p' := Prod.ext (by omega) (by omega)
      subst e
      exact ⟨t, congrArg (Value.str · t) (str_ext (by rw [hx]; rfl))⟩) ps vs ys (by simpa [hlen] using hlen2) (fun j v hv => by
      obtain ⟨d, hd1, hd2⟩ := hall j v (by simpa using hP j v hv)
      rw [List.getElem?_map] at hd1
      obtain ⟨p, hp, rfl⟩ := Option.map_eq_some_iff.mp hd1
      exact ⟨p, hp, List.mem_of_getElem? hp, hd2⟩) hG
    k_steps
    have hsum : ((ps.map pairStr).map (·.length)).sum ≤ ps.length * 21 := by
      rw [List.map_map]
      exact sum_le _ 21 ps fun p hp => shPair_len p (hok p hp)
    refine join_listC (News.isList (by k_asm) (.head _)) hs (by decide) (by rw [List.length_map]; omega) ?_
    intro t' k
    k_steps
    k_extra "fdone"
    exact ⟨_, _, rfl, join_set ps⟩
end
section
theorem freshW10 : True := by
  w_top off
  trivial
local macro_rules | `(tactic| k_upd) => `(tactic| refine' Upd.head (by assumption))
local macro_rules | `(tactic| walk_at "call builtin:len") => `(tactic| (refine len_last (by k_asm) (.head _) (by omega) ?_; intro _ _))
local macro_rules | `(tactic| walk_at "subscriptTail Name UnaryOp ref int") => `(tactic| ((with_reducible show wpAny _ _ (subscriptTail _ _ (Value.ref _) (Value.int (-1) _)) _ _ _); refine last_item (by k_asm) (.head _) ?_))
local macro_rules | `(tactic| walk_at "setItem ref int ref") => `(tactic| (refine' set_last ?F ?N ?U ?_; (case F => k_asm); (case N => k_asm); (case U => k_upd); intro h' F' N'))
/-- runs of numbers -/
def rgStep (out : List (Nat × Nat)) (n : Nat) : List (Nat × Nat) :=
  match out.getLast? with
  | some p => if n ≤ p.2 + 1 then out.dropLast ++ [(p.1, n)] else out ++ [(n, n)]
  | none => out ++ [(n, n)]
def rgOf (ns : List Nat) : List (Nat × Nat) := ns.foldl rgStep []
abbrev datP (p : Nat × Nat) : Dat := .tuple [.int (p.1 : Int), .int (p.2 : Int)]
def RgInv (ns : List Nat) (D : Addr) (i : Nat) (l : List (Addr × Obj)) : Prop :=
  ∃ (vs : List Value) (nn : Nat) (dat : List (Addr × Obj)), l = (D, listOf vs.toArray nn) :: dat ∧ vs.length ≤ i ∧ DatAll dat vs ((rgOf (ns.take i)).map datP) ∧ ∀ q ∈ dat, q.1 ≠ D
theorem rg_push {ns : List Nat} {D E : Addr} {i k c : Nat} {vs : List Value} {dat : List (Addr × Obj)} {rs : List (Nat × Nat)} {a n : Nat} {ta tn : Tok} (hd : DatAll dat vs (rs.map datP)) (hl : vs.length ≤ i) (ho : ∀ q ∈ dat, q.1 ≠ D) (hE : E ≠ D)
    (hr : rgOf (ns.take (i + 1)) = rs ++ [(a, n)]) : RgInv ns D (i + 1) ((D, listOf (vs.toArray.push (.ref E)) k) :: (E, { cls := .type "tuple", data := .seq #[.int (a : Int) ta, .int (n : Int) tn] c }) :: dat) := by
  refine ⟨vs ++ [.ref E], k, (E, { cls := .type "tuple", data := .seq #[.int (a : Int) ta, .int (n : Int) tn] c }) :: dat, ?_, ?_, ?_, ?_⟩
  · rw [List.push_toArray]
  · rw [List.length_append]; show vs.length + 1 ≤ i + 1; omega
  · rw [hr, List.map_append]
    exact DatAll.append (DatAll.mono (fun p hp => .tail _ hp) hd) (.one (.tuple (vs := [.int (a : Int) ta, .int (n : Int) tn]) (.head _) (.cons (.int _ _) (.cons (.int _ _) .nil))))
  · intro q hq
    rcases List.mem_cons.mp hq with rfl | hq
    · exact hE
    · exact ho q hq
theorem rg_push' {ns : List Nat} {D E : Addr} {i k c : Nat} {vs : List Value} {dat : List (Addr × Obj)} {rs : List (Nat × Nat)} {a n : Nat} {ta tn : Tok} (hd : DatAll dat vs (rs.map datP)) (hl : vs.length ≤ i) (ho : ∀ q ∈ dat, q.1 ≠ D) (hE : E ≠ D)
    (hr : rgOf (ns.take (i + 1)) = rs ++ [(a, n)]) : RgInv ns D (i + 1) ((D, listOf (vs ++ [Value.ref E]).toArray k) :: (E, { cls := .type "tuple", data := .seq #[.int (a : Int) ta, .int (n : Int) tn] c }) :: dat) := by
  have := rg_push (k := k) (c := c) (ta := ta) (tn := tn) hd hl ho hE hr
  rwa [List.push_toArray] at this
theorem rg_snoc (ns : List Nat) (i n : Nat) (h : ns.take (i + 1) = ns.take i ++ [n]) : rgOf (ns.take (i + 1)) = rgStep (rgOf (ns.take i)) n := by
  rw [h]; unfold rgOf; rw [List.foldl_append]; rfl
theorem c_ranges (w : World) (v : Value) (ns : List Nat) (hl : ns.length ≤ 1000) (hb : ∀ n ∈ ns, n < 10000000000) : DT w 164 1 [v] (fun h => DatH h v (.list (ns.map fun n : Nat => .int (n : Int)))) (datPairs (rgOf ns)) := by
  k_dflt (refine' tells_def (binds := [(Str.ofString "numbers", v)]) ?ho ?hcd ?hb ?hl ?c2 ?c3 ?c4 ?c5 ?_; k_extra "tdef")
  k_extra "tintro"
  obtain ⟨r, its, rfl, hT, hlen, hall⟩ := hpre.list
  rw [List.length_map] at hlen
  k_steps
  refine for_same1 (RgInv ns) (ItSrcA.list rfl (stays_list (by first | exact Fr.keep (by k_asm)) hT)) ?_ (by k_asm) (by k_asm) ⟨[], 0, [], rfl, Nat.le_refl _, .nil, fun _ h => nomatch h⟩ ?_ ?_
  · intro a ha
    rw [List.mem_singleton.mp ha]
    obtain ⟨o, ho, _⟩ := hT
    rw [ho]; rfl
  · rintro i v _ h₁ tk₁ own J hi hv ⟨vs, nn, dat, rfl, hvl, hdat, hoff⟩ ⟨oJ, hJo⟩ ho hx F' N'
    have hi' : i < its.length := by simpa using hi
    obtain ⟨d, hd1, hd2⟩ := hall i v (by simpa using hv)
    rw [List.getElem?_map] at hd1
    obtain ⟨n, hn, rfl⟩ := Option.map_eq_some_iff.mp hd1
    obtain ⟨tn, rfl⟩ := hd2.int
    have hnb := hb n (List.mem_of_getElem? hn)
    have hs : ns.take (i + 1) = ns.take i ++ [n] := by rw [List.take_add_one, hn]; rfl
    have hstep := rg_snoc ns i n hs
    rw [List.cons_append] at N'
    have hoff' : ∀ q ∈ dat ++ own, q.1 ≠ _ := fun q hq => (List.mem_append.mp hq).elim (hoff q) fun h => by
      rw [ho q h]; exact fun e => hx _ (.head _) e.symm
    have hxD := hx _ (.head _)
    have hxR := fun q hq => hx q (.tail _ hq)
    rcases List.eq_nil_or_concat vs with rfl | ⟨vs0, u, hvs⟩
    · have hnil : rgOf (ns.take i) = [] := by
        have := DatAll.length hdat
        rw [List.length_map] at this
        exact List.length_eq_zero_iff.mp this.symm
      rw [hnil] at hstep hdat
      k_steps
      have l9 := ‹_ < _ ∧ AllLt _ (dat ++ own)›
      refine for_end (by k_asm) (led_swap (by k_asm)) ?_ ⟨fun y hy => by simp only [if_neg hy], rg_push hdat hvl hoff (Nat.ne_of_gt l9.1) hstep⟩
      intro q hq
      rcases List.mem_cons.mp hq with rfl | hq
      · exact hxD
      · rcases List.mem_cons.mp hq with rfl | hq
        · exact Nat.ne_of_gt (allLt_mem l9.2 _ (List.mem_append_right _ hJo))
        · exact hxR _ hq
    · rw [List.concat_eq_append] at hvs
      subst hvs
      obtain ⟨es, d, hes, hd0, hdu⟩ := DatAll.snoc hdat
      have hvl2 : vs0.length + 1 ≤ i := by simpa using hvl
      have hrs : ∃ rs p, rgOf (ns.take i) = rs ++ [p] := by
        rcases List.eq_nil_or_concat (rgOf (ns.take i)) with e | ⟨rs, p, e⟩
        · rw [e] at hes
          have := congrArg List.length hes
          simp at this
        · exact ⟨rs, p, by rw [e, List.concat_eq_append]⟩
      obtain ⟨rs, p, hrs⟩ := hrs
      rw [hrs, List.map_append] at hes
      obtain ⟨rfl, e2⟩ := List.append_inj' hes rfl
      obtain rfl : datP p = d := by simpa using e2
      rw [hrs] at hstep
      have hDu : DatH h₁ u (datP p) := ⟨dat, fun q hq => (N' q (.tail _ (List.mem_append_left _ hq))).1, hdu⟩
      obtain ⟨ru, tu, tv, rfl, hTu⟩ := hDu.pair
      have hTu : IsTup h₁ ru #[.int p.1 tu, .int p.2 tv] := hTu
      have hst2 : rgStep (rs ++ [p]) n = if n ≤ p.2 + 1 then rs ++ [(p.1, n)] else rs ++ [p] ++ [(n, n)] := by
        unfold rgStep
        rw [List.getLast?_append]
        simp
      k_steps
      · have l9 := ‹_ < _ ∧ AllLt _ (dat ++ own)›
        rw [hst2, if_pos (by omega)] at hstep
        refine for_end (by k_asm) (led_swap (by k_asm)) ?_ ⟨fun y hy => by simp only [if_neg hy], rg_push' hd0 (by omega) hoff (Nat.ne_of_gt l9.1) hstep⟩
        intro q hq
        rcases List.mem_cons.mp hq with rfl | hq
        · exact hxD
        · rcases List.mem_cons.mp hq with rfl | hq
          · exact Nat.ne_of_gt (allLt_mem l9.2 _ (List.mem_append_right _ hJo))
          · exact hxR _ hq
      · have l9 := ‹_ < _ ∧ AllLt _ (dat ++ own)›
        rw [hst2, if_neg (by omega)] at hstep
        rw [hrs] at hdat
        refine for_end (by k_asm) (led_swap (by k_asm)) ?_ ⟨fun y hy => by simp only [if_neg hy], rg_push hdat hvl hoff (Nat.ne_of_gt l9.1) hstep⟩
        intro q hq
        rcases List.mem_cons.mp hq with rfl | hq
        · exact hxD
        · rcases List.mem_cons.mp hq with rfl | hq
          · exact Nat.ne_of_gt (allLt_mem l9.2 _ (List.mem_append_right _ hJo))
          · exact hxR _ hq
  · rintro u _ h₁ tk₁ ⟨vs, nn, dat, rfl, hvl, hdat, hoff⟩ F' N'
    have hsz : its.toArray.size = ns.length := by simpa using hlen
    rw [hsz] at hvl
    rw [hsz, List.take_of_length_le (Nat.le_refl _)] at hdat
    have hoff9 : ∀ q ∈ dat, q.1 ≠ _ := hoff
    k_steps
    exact Done.intro (by k_asm) (by k_asm) (DatIn.tuple (.head _) (DatAll.mono (fun p hp => .tail _ (.tail _ hp)) hdat))
end
section
theorem freshW11 : True := by
  w_top off
  trivial
local macro_rules | `(tactic| k_upd) => `(tactic| refine' Upd.head (by assumption))
local macro_rules | `(tactic| walk_at "call type:tuple") => `(tactic| (refine tuple_push (by k_asm) (by k_asm) (by k_mem) (by omega) ?_; intro E9 h9 F9 N9 _))
theorem getD_arr (a : Array Nat) (i : Nat) : a.getD i 0 = a.toList.getD i 0 := by simp [Array.getD, List.getD_eq_getElem?_getD]; split <;> simp_all
theorem getD_mid (pre l post : List Nat) (i : Nat) (h : i < l.length) : (pre ++ (l ++ post)).getD (pre.length + i) 0 = l.getD i 0 := by
  rw [List.getD_eq_getElem?_getD, List.getD_eq_getElem?_getD, List.getElem?_append_right (by omega), List.getElem?_append_left (by omega)]
  congr 2; omega
theorem getD_end (pre l post : List Nat) : (pre ++ (l ++ post)).getD (pre.length + l.length) 0 = post.getD 0 0 := by
  rw [List.getD_eq_getElem?_getD, List.getD_eq_getElem?_getD, List.getElem?_append_right (by omega), List.getElem?_append_right (by omega)]
  congr 2; omega
theorem size_list (x : Str) (l : List Nat) (h : x.cps.toList = l) : x.cps.size = l.length := by rw [← h, Array.length_toList]
theorem c_read_end2 (w : World) (x : Str) (t tp : Tok) (pre post : List Nat) (n : Nat) (hz : x.cps.size ≤ 100000) (h0 : 0 < n) (h1 : n ≤ 4294967295) (hx : x.cps.toList = pre ++ (dg n ++ post)) (hp : post = [] ∨ ¬ (48 ≤ post.getD 0 0 ∧ post.getD 0 0 ≤ 57)) :
    DT w 131 1 [.str x t, .int (pre.length : Nat) tp] (fun _ => True) (.tuple [.int (n : Nat), .int ((pre.length + (dg n).length : Nat) : Int)]) := by
  have hs := size_list x _ hx
  simp only [List.length_append] at hs
  have hall := dg_all n
  have h := c_read_end w x t pre.length (dg n).length tp (fun i => NumText.digitsVal ((dg n).take i)) hz (dg_pos n) (by omega)
    (fun i hi => by
      rw [getD_arr, hx, getD_mid _ _ _ _ hi]
      exact hall _ (mem_getD hi))
    (fun hlt => by
      rw [getD_arr, hx, getD_end]
      rcases hp with rfl | hp
      · simp at hs; omega
      · exact hp)
    (by
      have e := getD_mid pre (dg n) post 0 (dg_pos n)
      rw [Nat.add_zero] at e
      rw [getD_arr, hx, e]
      exact dg_head n h0)
    rfl
    (fun i hi => by
      rw [getD_arr, hx, getD_mid _ _ _ _ hi]
      exact digitsVal_take _ _ hi)
    (fun i _ => Nat.le_trans (digitsVal_take_le _ i) (by rw [dg_val]; exact h1))
  simp only [List.take_length, dg_val] at h
  exact h

def tailS : List (Nat × Nat) → List Nat
  | [] => []
  | q :: r => 44 :: shSet (q :: r)
theorem shSet_cons (p : Nat × Nat) (r : List (Nat × Nat)) : shSet (p :: r) = shPair p ++ tailS r := by
  cases r with
  | nil => simp [shSet, tailS]
  | cons q r => rfl
def RsInv (ps : List (Nat × Nat)) (D : Addr) (i : Nat) (l : List (Addr × Obj)) : Prop :=
  ∃ (vs : List Value) (nn : Nat) (dat : List (Addr × Obj)), l = (D, listOf vs.toArray nn) :: dat ∧ vs.length = i ∧ DatAll dat vs ((ps.take i).map datP) ∧ ∀ q ∈ dat, q.1 ≠ D
def RsAt (x : Str) (ps : List (Nat × Nat)) (D : Addr) (i : Nat) (a : Value) (l : List (Addr × Obj)) : Prop :=
  (∃ pre t, x.cps.toList = pre ++ shSet (ps.drop i) ∧ i < ps.length ∧ a = .int (pre.length : Nat) t) ∧ RsInv ps D i l
theorem rs_all {E : Addr} {c : Nat} {vs : List Value} {dat : List (Addr × Obj)} {rs : List (Nat × Nat)} {a n : Nat} {ta tn : Tok} (hd : DatAll dat vs (rs.map datP)) :
    DatAll ((E, { cls := .type "tuple", data := .seq #[.int (a : Int) ta, .int (n : Int) tn] c }) :: dat) (vs ++ [.ref E]) ((rs ++ [(a, n)]).map datP) := by
  rw [List.map_append]
  show DatAll _ _ (rs.map datP ++ [.tuple [.int (a : Int), .int (n : Int)]])
  exact DatAll.append (DatAll.mono (fun p hp => .tail _ hp) hd) (.one (.tuple (vs := [.int (a : Int) ta, .int (n : Int) tn]) (.head _) (.cons (.int _ _) (.cons (.int _ _) .nil))))
theorem rs_push {ps : List (Nat × Nat)} {D E : Addr} {i k c : Nat} {vs : List Value} {dat : List (Addr × Obj)} {a n : Nat} {ta tn : Tok} (hd : DatAll dat vs ((ps.take i).map datP)) (hl : vs.length = i) (ho : ∀ q ∈ dat, q.1 ≠ D) (hE : E ≠ D)
    (hr : ps.take (i + 1) = ps.take i ++ [(a, n)]) : RsInv ps D (i + 1) ((D, listOf (vs.toArray.push (.ref E)) k) :: (E, { cls := .type "tuple", data := .seq #[.int (a : Int) ta, .int (n : Int) tn] c }) :: dat) := by
  refine ⟨vs ++ [.ref E], k, (E, { cls := .type "tuple", data := .seq #[.int (a : Int) ta, .int (n : Int) tn] c }) :: dat, ?_, ?_, ?_, ?_⟩
  · rw [List.push_toArray]
  · rw [List.length_append]; show vs.length + 1 = i + 1; omega
  · rw [hr]; exact rs_all hd
  · intro q hq
    rcases List.mem_cons.mp hq with rfl | hq
    · exact hE
    · exact ho q hq
theorem loop_ret {h₀ : Heap} {L : Addr} {s s₃ : Shared} {J : Nat → (Str → Option Value) → List (Addr × Obj) → Prop} {Q : Flow → Shared → Prop} {n : Nat} {v : Value} (h : Q (.ret v) s₃) : WhileStep2 h₀ L s J Q n (.ret v) s₃ := h
theorem rs_led1 {h₀ h : Heap} {L D E r : Addr} {o t a : Obj} {dat : List (Addr × Obj)} (N : News h₀ L h ((E, t) :: (r, a) :: (D, o) :: dat)) : News h₀ L h ((D, o) :: (E, t) :: dat) := news_sub N fun p hp => by
  simp only [List.mem_cons] at hp ⊢
  rcases hp with h | h | h
  · exact .inr (.inr (.inl h))
  · exact .inl h
  · exact .inr (.inr (.inr h))
theorem rs_led2 {h₀ h : Heap} {L D E r q : Addr} {o t a b : Obj} {dat : List (Addr × Obj)} (N : News h₀ L h ((E, t) :: (q, b) :: (r, a) :: (D, o) :: dat)) : News h₀ L h ((D, o) :: (E, t) :: dat) := news_sub N fun p hp => by
  simp only [List.mem_cons] at hp ⊢
  rcases hp with h | h | h
  · exact .inr (.inr (.inr (.inl h)))
  · exact .inl h
  · exact .inr (.inr (.inr (.inr h)))
theorem c_read_set (w : World) (x : Str) (t : Tok) (ps : List (Nat × Nat)) (hz : x.cps.size ≤ 100000) (hne : 0 < ps.length) (hl : ps.length ≤ 1000) (hok : ∀ p ∈ ps, 0 < p.1 ∧ 0 < p.2 ∧ p.1 ≤ 4294967295 ∧ p.2 ≤ 4294967295) (hx : x.cps.toList = shSet ps) :
    DT w 138 2 [.str x t] (fun _ => True) (datPairs ps) := by
  k_dflt (refine' tells_def (binds := [(Str.ofString "text", .str x t)]) ?ho ?hcd ?hb ?hl ?c2 ?c3 ?c4 ?c5 ?_; k_extra "tdef")
  k_extra "tintro"
  k_steps
  refine while_loose3 (Str.ofString "at") (Str.ofString "low") (Str.ofString "high") (RsAt x ps) ps.length (by k_asm) (by k_asm) ⟨_, rfl, ⟨[], _, hx, hne, rfl⟩, [], 0, [], rfl, rfl, .nil, fun _ h => nomatch h⟩ ?_
  rintro i _ u _ h₁ tk₁ - ⟨⟨pre, ta, hxi, hi, rfl⟩, vs, nn, dat, rfl, hvl, hdat, hoff⟩ F' N'
  obtain ⟨p, rest, hdrop⟩ : ∃ p rest, ps.drop i = p :: rest := ⟨_, _, List.drop_eq_getElem_cons hi⟩
  have hpi : ps[i]? = some p := by
    have := congrArg (·[0]?) hdrop
    simpa using this
  obtain ⟨o1, o2, o3, o4⟩ := hok p (List.mem_of_getElem? hpi)
  have htake : ps.take (i + 1) = ps.take i ++ [p] := by rw [List.take_add_one, hpi]; rfl
  rw [hdrop, shSet_cons] at hxi
  have hsz := size_list x _ hxi
  rw [List.length_append, List.length_append] at hsz
  have hp9 := dg_pos p.1
  have hp8 := dg_pos p.2
  have hnxt : ∀ q r, rest = q :: r → ps.drop (i + 1) = q :: r ∧ i + 1 < ps.length := by
    rintro q r rfl
    have e : ps.drop (i + 1) = q :: r := by
      have e2 : ps.drop (i + 1) = (ps.drop i).drop 1 := by rw [List.drop_drop]
      rw [e2, hdrop]; rfl
    refine ⟨e, ?_⟩
    have := congrArg List.length e
    rw [List.length_drop, List.length_cons] at this
    omega
  have hlst : rest = [] → ps.take (i + 1) = ps := by
    rintro rfl
    have := congrArg List.length hdrop
    rw [List.length_drop, List.length_singleton] at this
    exact List.take_of_length_le (by omega)
  by_cases hpp : p.1 = p.2
  · have hsp : shPair p = dg p.1 := by unfold shPair; rw [if_pos hpp]
    have htake' : ps.take (i + 1) = ps.take i ++ [(p.1, p.1)] := by
      rw [htake]; congr 2; exact Prod.ext rfl hpp.symm
    rw [hsp] at hxi hsz
    cases rest with
    | nil =>
      simp only [tailS, List.append_nil, List.length_nil] at hxi hsz
      have C := c_read_end2 w x t ta pre [] p.1 hz o1 o3 (by rw [List.append_nil]; exact hxi) (.inl rfl)
      k_steps
      walk_at "pcall"; (try clear C); intro rp tp1 tp2 cp h' tk' F' N' hnp; (try dsimp only)
      have hrD := hnp _ (.head _)
      k_steps
      · refine loop_ret ?_
        show Done g L _ _ _ _
        refine Done.intro (by k_asm) (by k_asm) ?_
        have hD := fun E c ta tn => rs_all (E := E) (c := c) (ta := ta) (tn := tn) (a := p.1) (n := p.1) hdat
        rw [← htake', hlst rfl] at hD
        exact DatIn.tuple (.head _) (DatAll.mono (fun q hq => (List.mem_cons.mp hq).elim (fun e => e ▸ .tail _ (.head _)) fun h => .tail _ (.tail _ (.tail _ (.tail _ h)))) (hD _ _ _ _))
      · exfalso; omega
    | cons q r =>
      simp only [tailS, List.length_cons] at hxi hsz
      have g1 : x.cps.getD (pre.length + (dg p.1).length) 0 = 44 := by rw [getD_arr, hxi, getD_end]; rfl
      have f1 : ({ cps := #[x.cps.getD (pre.length + (dg p.1).length) 0] } == Str.ofString ":") = false := by rw [s_colon, one_ne, g1]; decide
      have f2 : ({ cps := #[x.cps.getD (pre.length + (dg p.1).length) 0] } != Str.ofString ",") = false := by rw [s_comma, bne, one_eq.mpr g1]; rfl
      have C := c_read_end2 w x t ta pre (44 :: shSet (q :: r)) p.1 hz o1 o3 hxi (.inr (by show ¬ (48 ≤ 44 ∧ 44 ≤ 57); decide))
      k_steps
      walk_at "pcall"; (try clear C); intro rp tp1 tp2 cp h' tk' F' N' hnp; (try dsimp only)
      have hrD := hnp _ (.head _)
      k_steps
      · exfalso; omega
      refine loose3_end (by k_asm) (rs_led1 (by k_asm)) hi ⟨_, rfl, ⟨pre ++ (dg p.1 ++ [44]), _, ?_, (hnxt q r rfl).2, congrArg (Value.int · _) ?_⟩, rs_push hdat hvl hoff ?_ htake'⟩ (fun z h1 h2 h3 => by simp only [if_neg h1, if_neg h2, if_neg h3])
      · rw [(hnxt q r rfl).1, hxi]; simp [List.append_assoc]
      · simp; omega
      · have l9 := ‹_ < _ ∧ _ < _ ∧ AllLt _ dat›; exact Nat.ne_of_gt l9.2.1
  · have hsp : shPair p = dg p.1 ++ 58 :: dg p.2 := by unfold shPair; rw [if_neg hpp]
    have htake' : ps.take (i + 1) = ps.take i ++ [(p.1, p.2)] := htake
    rw [hsp] at hxi hsz
    have hlen : (pre ++ (dg p.1 ++ [58])).length = pre.length + (dg p.1).length + 1 := by simp; omega
    have hlen2 : (pre.length + (dg p.1).length + 1 : Nat) = pre.length + (dg p.1).length + 1 := rfl
    cases rest with
    | nil =>
      simp only [tailS, List.append_nil, List.length_append, List.length_cons, List.length_nil] at hxi hsz
      have hxi2 : x.cps.toList = pre ++ (dg p.1 ++ [58]) ++ (dg p.2 ++ []) := by rw [hxi]; simp
      have g1 : x.cps.getD (pre.length + (dg p.1).length) 0 = 58 := by rw [getD_arr, hxi, getD_end]; rfl
      have f1 : ({ cps := #[x.cps.getD (pre.length + (dg p.1).length) 0] } == Str.ofString ":") = true := by rw [s_colon, one_eq, g1]
      have C := c_read_end2 w x t ta pre (58 :: dg p.2) p.1 hz o1 o3 hxi (.inr (by show ¬ (48 ≤ 58 ∧ 58 ≤ 57); decide))
      have C2 := fun tp => c_read_end2 w x t tp (pre ++ (dg p.1 ++ [58])) [] p.2 hz o2 o4 hxi2 (.inl rfl)
      simp only [hlen] at C2
      k_steps
      walk_at "pcall"; (try clear C); intro rp tp1 tp2 cp h' tk' F' N' hnp; (try dsimp only)
      have hrD := hnp _ (.head _)
      k_steps
      skip
      walk_at "pcall"; (try clear C); intro rp tp1 tp2 cp h' tk' F' N' hnp; (try dsimp only)
      have hrE := hnp _ (.head _)
      have hrF := hnp _ (.tail _ (.head _))
      k_steps
      · refine loop_ret ?_
        show Done g L _ _ _ _
        refine Done.intro (by k_asm) (by k_asm) ?_
        have hD := fun E c ta tn => rs_all (E := E) (c := c) (ta := ta) (tn := tn) (a := p.1) (n := p.2) hdat
        rw [← htake', hlst rfl] at hD
        exact DatIn.tuple (.head _) (DatAll.mono (fun q hq => (List.mem_cons.mp hq).elim (fun e => e ▸ .tail _ (.head _)) fun h => .tail _ (.tail _ (.tail _ (.tail _ (.tail _ h))))) (hD _ _ _ _))
      · exfalso; omega
    | cons q r =>
      simp only [tailS, List.length_append, List.length_cons] at hxi hsz
      have hxi2 : x.cps.toList = pre ++ (dg p.1 ++ [58]) ++ (dg p.2 ++ 44 :: shSet (q :: r)) := by rw [hxi]; simp
      have hxi1 : x.cps.toList = pre ++ (dg p.1 ++ (58 :: (dg p.2 ++ 44 :: shSet (q :: r)))) := by rw [hxi]; simp
      have g1 : x.cps.getD (pre.length + (dg p.1).length) 0 = 58 := by rw [getD_arr, hxi1, getD_end]; rfl
      have f1 : ({ cps := #[x.cps.getD (pre.length + (dg p.1).length) 0] } == Str.ofString ":") = true := by rw [s_colon, one_eq, g1]
      have g2 : x.cps.getD (pre.length + (dg p.1).length + 1 + (dg p.2).length) 0 = 44 := by rw [← hlen, getD_arr, hxi2, getD_end]; rfl
      have f2 : ({ cps := #[x.cps.getD (pre.length + (dg p.1).length + 1 + (dg p.2).length) 0] } != Str.ofString ",") = false := by rw [s_comma, bne, one_eq.mpr g2]; rfl
      have C := c_read_end2 w x t ta pre (58 :: (dg p.2 ++ 44 :: shSet (q :: r))) p.1 hz o1 o3 hxi1 (.inr (by show ¬ (48 ≤ 58 ∧ 58 ≤ 57); decide))
      have C2 := fun tp => c_read_end2 w x t tp (pre ++ (dg p.1 ++ [58])) (44 :: shSet (q :: r)) p.2 hz o2 o4 hxi2 (.inr (by show ¬ (48 ≤ 44 ∧ 44 ≤ 57); decide))
      simp only [hlen] at C2
      k_steps
      walk_at "pcall"; (try clear C); intro rp tp1 tp2 cp h' tk' F' N' hnp; (try dsimp only)
      have hrD := hnp _ (.head _)
      k_steps
      skip
      walk_at "pcall"; (try clear C); intro rp tp1 tp2 cp h' tk' F' N' hnp; (try dsimp only)
      have hrE := hnp _ (.head _)
      have hrF := hnp _ (.tail _ (.head _))
      k_steps
      · exfalso; omega
      refine loose3_end (by k_asm) (rs_led2 (by k_asm)) hi ⟨_, rfl, ⟨pre ++ (dg p.1 ++ (58 :: (dg p.2 ++ [44]))), _, ?_, (hnxt q r rfl).2, congrArg (Value.int · _) ?_⟩, rs_push hdat hvl hoff ?_ htake'⟩ (fun z h1 h2 h3 => by simp only [if_neg h1, if_neg h2, if_neg h3])
      · rw [(hnxt q r rfl).1, hxi]; simp [List.append_assoc]
      · simp; omega
      · have l9 := ‹_ < _ ∧ _ < _ ∧ _ < _ ∧ AllLt _ dat›; exact Nat.ne_of_gt l9.2.2.1
end
section
theorem freshW13 : True := by
  w_top off
  trivial
abbrev noKey : Str := Str.ofString "(){ %*\"\\]"
theorem c_key (w : World) (x : Str) (t : Tok) (h1 : 1 ≤ x.cps.size) (h2 : x.cps.size ≤ 60) (hc : ∀ c ∈ x.cps.toList, 32 < c ∧ c < 127 ∧ (Builtin.Str.occurrences noKey ⟨#[c]⟩ 0 noKey.length 1).isEmpty = true) : FT w 463 1 [.str x t] (fun _ => True) (fun v => v = .bool true) := by
  k_dflt (refine' tells_def (binds := [(Str.ofString "text", .str x t)]) ?ho ?hcd ?hb ?hl ?c2 ?c3 ?c4 ?c5 ?_; k_extra "tdef")
  k_extra "tintro"
  k_steps
  refine for_same (fun _ l => l = []) (ItSrc.str rfl) (fun _ h => nomatch h) (by k_asm) (by k_asm) rfl ?_ ?_
  · rintro i _ _ h₁ tk₁ own J hi ⟨c, tc, hci, rfl⟩ rfl ho hx F' N'
    obtain ⟨q1, q2, q3⟩ := hc c (Array.mem_toList_iff.mpr (Array.mem_of_getElem? hci))
    k_steps
    exact for_end (nx' := []) (by k_asm) (by k_asm) (fun _ h => nomatch h) ⟨fun y hy => by simp only [if_neg hy], rfl⟩
  · rintro u _ h₁ tk₁ rfl F' N'
    k_steps
    k_extra "fdone"
end
section
theorem freshW15 : True := by
  w_top off
  trivial
abbrev mobj (W : Wr) : Obj := methodObj (.ref 347) (.ref W.x)
theorem mo_ne {w : World} {W : Wr} {q : Addr} {p : Nat} {t : Tok} {h₀ h : Heap} {L : Addr} (N : News h₀ L h ((q, mobj W) :: wled w W p t)) : q ≠ W.x ∧ q ≠ W.dx ∧ W.x ≠ W.dx := by
  have h1 := (N _ (.head _)).1
  have h2 := (N _ (.tail _ (.head _))).1
  have h3 := (N _ (.tail _ (.tail _ (.head _)))).1
  dsimp only at h1 h2 h3
  refine ⟨fun e => ?_, fun e => ?_, fun e => ?_⟩
  · rw [e, h2] at h1; cases h1
  · rw [e, h3] at h1
    have := congrArg Obj.cls (Option.some.inj h1)
    simp [wdict, dictOf, mobj, methodObj] at this
  · rw [e, h3] at h2; cases h2
theorem news_drop2 {h₀ h : Heap} {L : Addr} {a b : Addr × Obj} {r : List (Addr × Obj)} (N : News h₀ L h (a :: b :: r)) : News h₀ L h (a :: r) := news_sub N fun p hp => by
  rcases List.mem_cons.mp hp with rfl | hp
  · exact .head _
  · exact .tail _ (.tail _ hp)
def LT (w : World) (W : Wr) (p q' : Nat) (xs : List Str) : Prop := ∀ q tp, Tells w 410 8 [.ref W.x, .ref q] ((q, mobj W) :: wled w W p tp) (fun _ => True)
  (fun v l => ∃ (r : Addr) (vs : List Value) (n : Nat) (t : Tok), v = .ref r ∧ l = (r, listOf vs.toArray n) :: wled w W q' t ∧ r ≠ W.x ∧ r ≠ W.dx ∧ StrsAre vs xs)
theorem c_list0 (w : World) (W : Wr) (p : Nat) (hz : W.d.size ≤ 100000) (h1 : ((W.d.toList.drop p).take 1 == [40]) = true) (h2 : ((W.d.toList.drop (p + 1)).take 1 == [41]) = true) : LT w W p (p + 1 + 1) [] := by
  intro q tp
  k_dflt (refine' tells_def (binds := [(Str.ofString "self", .ref W.x), (Str.ofString "read", .ref q)]) ?ho ?hcd ?hb ?hl ?c2 ?c3 ?c4 ?c5 ?_; k_extra "tdef")
  k_extra "tintro"
  obtain ⟨hq1, hq2, hq3⟩ := mo_ne N
  k_steps
  have C := fun t x tx => c_need w W p #[40] t x tx (by omega) (by decide) h1
  walk_at "wcall"; (try clear C); intro v t h' tk' hv F' N'; (try dsimp only)
  subst hv
  k_steps
  have C := fun t => c_skipY w W (p + 1) 1 #[41] t (by omega) (by decide) rfl h2
  walk_at "wcall"; (try clear C); intro v t h' tk' hv F' N'; (try dsimp only)
  subst hv
  k_steps
  have l9 := ‹_ < _ ∧ _ < _ ∧ _ < _›
  show Done g L _ _ _ _
  exact Done.intro (by k_asm) (news_drop2 (by k_asm)) ⟨_, [], 0, _, rfl, rfl, Nat.ne_of_gt l9.2.1, Nat.ne_of_gt l9.2.2, .nil⟩
theorem strs_snoc {y : Str} {t : Tok} : ∀ {vs : List Value} {xs : List Str}, StrsAre vs xs → StrsAre (vs ++ [.str y t]) (xs ++ [y])
  | _, _, .nil => .cons _ _ .nil
  | _, _, .cons _ _ h => .cons _ _ (strs_snoc h)
theorem c_list (w : World) (W : Wr) (p n : Nat) (P Q : Nat → Nat) (XS : Nat → Str) (hz : W.d.size ≤ 100000) (hn : n ≤ 100) (h1 : ((W.d.toList.drop p).take 1 == [40]) = true) (hP : P 0 = p + 1) (h2 : ((W.d.toList.drop (p + 1)).take 1 == [41]) = false)
    (hf : ∀ i, i ≤ n → WT w W 347 7 [] (P i) (Q i) (fun v => ∃ t, v = .str (XS i) t)) (hs : ∀ i, i < n → ((W.d.toList.drop (Q i)).take 1 == [41]) = false ∧ ((W.d.toList.drop (Q i)).take 1 == [32]) = true ∧ P (i + 1) = Q i + 1)
    (he : ((W.d.toList.drop (Q n)).take 1 == [41]) = true) : LT w W p (Q n + 1) ((List.range (n + 1)).map XS) := by
  intro q tp
  k_dflt (refine' tells_def (binds := [(Str.ofString "self", .ref W.x), (Str.ofString "read", .ref q)]) ?ho ?hcd ?hb ?hl ?c2 ?c3 ?c4 ?c5 ?_; k_extra "tdef")
  k_extra "tintro"
  obtain ⟨hq1, hq2, hq3⟩ := mo_ne N
  k_steps
  have C := fun t x tx => c_need w W p #[40] t x tx (by omega) (by decide) h1
  walk_at "wcall"; (try clear C); intro v t h' tk' hv F' N'; (try dsimp only)
  subst hv
  k_steps
  have C := fun t => c_skipN w W (p + 1) #[41] t (by omega) (by decide) h2
  walk_at "wcall"; (try clear C); intro v t h' tk' hv F' N'; (try dsimp only)
  subst hv
  k_steps
  have C := hf 0 (Nat.zero_le _)
  rw [hP] at C
  walk_at "mcall"; (try clear C); intro v t h' tk' hv F' N'; (try dsimp only)
  obtain ⟨t2, rfl⟩ := hv
  k_steps
  have l9 := ‹_ < _ ∧ _ < _ ∧ _ < _›
  refine while_same1 (fun D k l => ∃ (i : Nat) (vs : List Value) (nn : Nat) (t : Tok), k = n - i ∧ i ≤ n ∧ l = (D, listOf vs.toArray nn) :: (q, mobj W) :: wled w W (Q i) t ∧ vs.length = i + 1 ∧ D ≠ q ∧ D ≠ W.x ∧ D ≠ W.dx ∧ StrsAre vs ((List.range (i + 1)).map XS)) n (by k_asm) (by k_asm) ⟨0, [.str (XS 0) t2], _, _, rfl, Nat.zero_le _, rfl, rfl, Nat.ne_of_gt l9.1, Nat.ne_of_gt l9.2.1, Nat.ne_of_gt l9.2.2, .cons _ _ .nil⟩ ?_
  rintro _ _ h₁ tk₁ ⟨i, vs, nn, t, rfl, hi, rfl, hvl, d1, d2, d3, hst⟩ F' N'
  rcases Nat.lt_or_ge i n with hin | hin
  · obtain ⟨s1, s2, s3⟩ := hs i hin
    k_steps
    have C := fun t => c_skipN w W (Q i) #[41] t (by omega) (by decide) s1
    walk_at "wcall"; (try clear C); intro v t h' tk' hv F' N'; (try dsimp only)
    subst hv
    k_steps
    have C := c_space w W (Q i) (by omega) s2
    walk_at "wcall"; (try clear C); intro v t h' tk' hv F' N'; (try dsimp only)
    subst hv
    k_steps
    have C := hf (i + 1) hin
    rw [s3] at C
    walk_at "mcall"; (try clear C); intro v t h' tk' hv F' N'; (try dsimp only)
    obtain ⟨t3, rfl⟩ := hv
    k_steps
    refine while_end (by k_asm) (by k_asm) (n' := n - (i + 1)) (by omega) ⟨rfl, i + 1, vs ++ [.str (XS (i + 1)) t3], nn + 1, t, rfl, hin, ?_, by simp [hvl], d1, d2, d3, ?_⟩
    · rw [List.push_toArray]
    · rw [List.range_succ, List.map_append]
      exact strs_snoc hst
  · have e : i = n := by omega
    subst e
    k_steps
    have C := fun t => c_skipY w W (Q i) 1 #[41] t (by omega) (by decide) rfl he
    walk_at "wcall"; (try clear C); intro v t h' tk' hv F' N'; (try dsimp only)
    subst hv
    k_steps
    show Done g L _ _ _ _
    exact Done.intro (by k_asm) (news_drop2 (by k_asm)) ⟨_, vs, nn, _, rfl, rfl, d2, d3, hst⟩
end
section
theorem freshW16 : True := by
  w_top off
  trivial
theorem c_peekAt (w : World) (W : Wr) (p c : Nat) (hz : W.d.size ≤ 100000) (hp : p < W.d.size) (hc : (W.d.toList.getD p 0).toNat = c) : WT w W 270 1 [] p p (fun v => ∃ t, v = .int (c : Int) t) := by
  have := c_peek w W p (by omega)
  rw [if_pos hp, hc] at this
  exact this
theorem c_flags_here (w : World) (W : Wr) (p q : Nat) (xs : List Str) (hz : W.d.size ≤ 100000) (hp : p < W.d.size) (hc : (W.d.toList.getD p 0).toNat = 40) (hl : LT w W p q xs) (hn : xs.length ≤ 1000) (hf : ∀ x ∈ xs, ∀ t, FT w 470 3 [.str x t] (fun _ => True) (fun v => ∃ t, v = .str x t)) :
    WD w W 489 9 p q (.tuple (xs.map .str)) := by
  intro tp
  k_dflt (refine' tells_def (binds := [(Str.ofString "wire", .ref W.x)]) ?ho ?hcd ?hb ?hl ?c2 ?c3 ?c4 ?c5 ?_; k_extra "tdef")
  k_extra "wintro"
  k_steps
  have C := c_peekAt w W p 40 hz hp hc
  walk_at "wcall"; (try clear C); intro v t h' tk' hv F' N'; (try dsimp only)
  obtain ⟨t2, rfl⟩ := hv
  k_steps
  refine comp_by (fun _ => true) (fun v y => ∃ (x : Str) (t u : Tok), v = .str x t ∧ y = .str x u) (by k_asm) ?_
  k_steps
  refine wpAny_call (Tells.all (hl _ t) (by k_asm) (by k_asm) (by k_asm) (by k_asm) (by k_asm) rfl trivial (by omega) (by omega) ?_)
  rintro _ _ h' tk' ⟨r, vs, n, t3, rfl, rfl, d1, d2, hst⟩ F' N'
  dsimp only
  k_steps
  have hvl := hst.length
  refine goOn ⟨_, _, _, _, by k_asm, by k_asm, ItSrc.list rfl (News.isList (by k_asm) (.head _)), by rw [sizeLine_eq]; simp; omega, ?_, ?_, ?_⟩
  · rintro C i v s₂ m₂ E' hP F2 N2 hn hm
    exact wpAny_pure ⟨rfl, keeps_same⟩
  · rintro C i v s₂ m₂ E' hi _ F2 N2 hn hm
    obtain ⟨x, t4, hx, rfl⟩ := strs_at hst i v (by simpa using hi)
    have hxm := List.mem_of_getElem? hx
    k_steps
    have C := hf x hxm
    walk_at "kcall"; (try clear C); intro v h' tk' hv hk'; (try dsimp only)
    obtain ⟨t5, rfl⟩ := hv
    k_steps
    exact goOn ⟨⟨x, _, _, rfl, rfl⟩, ⟨_, _, rfl, hk'⟩⟩
  · intro D nn us ys h' tk hlen2 hP hG F' N' hne'
    have hs := strs_of (R := fun (x : Str) v => ∃ u, v = .str x u) id (by
      rintro x v y ⟨u, rfl⟩ ⟨x', t, u', e, rfl⟩
      have e' : x' = x := (Value.str.inj e).1.symm
      exact ⟨u', by rw [e']; rfl⟩) xs us ys (by simpa [hvl] using hlen2) (fun j v hv => by
      obtain ⟨x, t4, hx, rfl⟩ := strs_at hst j v (by simpa using hP j v hv)
      exact ⟨x, hx, t4, rfl⟩) hG
    rw [List.map_id] at hs
    have hyl := hs.length
    k_steps
    rename_i E9 h9 F9 N9 st9
    have ne1 : E9 ≠ W.x := fun e => by
      have h1 := (N9 _ (.head _)).1
      have h2 := (N9 _ (.tail _ (.tail _ (.tail _ (.head _))))).1
      dsimp only at h1 h2
      rw [e, h2] at h1
      cases h1
    have ne2 : E9 ≠ W.dx := fun e => by
      have h1 := (N9 _ (.head _)).1
      have h2 := (N9 _ (.tail _ (.tail _ (.tail _ (.tail _ (.head _)))))).1
      dsimp only at h1 h2
      rw [e, h2] at h1
      exact absurd (Value.type.inj (congrArg Obj.cls (Option.some.inj h1))) (by decide)
    show Done g L _ _ _ _
    refine Done.intro (by k_asm) (news_sub N9 (l' := [(E9, ({ cls := .type "tuple", data := .seq ys.toArray } : Obj))] ++ wled w W q t3) ?_) ⟨[(E9, _)], t3, rfl, ?_, DatIn.tuple (.head _) (strs_dat hs)⟩
    · intro p hp
      rcases List.mem_cons.mp hp with rfl | hp
      · exact .head _
      · exact .tail _ (.tail _ (.tail _ hp))
    · intro r hr
      rw [List.mem_singleton.mp hr]
      exact ⟨ne1, ne2⟩
theorem c_set_here (w : World) (W : Wr) (p n : Nat) (ps : List (Nat × Nat)) (hz : W.d.size ≤ 100000) (hn : p + n ≤ W.d.size) (h0 : 0 < n) (ha : ∀ i, p ≤ i → i < p + n → isSt (W.d.toList.getD i 0).toNat = true) (hb : p + n < W.d.size → isSt (W.d.toList.getD (p + n) 0).toNat = false)
    (h7 : ∀ c ∈ (cut W.d p (p + n)).toList, c.toNat ≤ 127) (hps : 0 < ps.length) (hl : ps.length ≤ 1000) (hok : ∀ p ∈ ps, 0 < p.1 ∧ 0 < p.2 ∧ p.1 ≤ 4294967295 ∧ p.2 ≤ 4294967295) (hx : (txt (cut W.d p (p + n)).toList).cps.toList = shSet ps) :
    WD w W 484 7 p (p + n) (datPairs ps) := by
  intro tp
  k_dflt (refine' tells_def (binds := [(Str.ofString "wire", .ref W.x)]) ?ho ?hcd ?hb ?hl ?c2 ?c3 ?c4 ?c5 ?_; k_extra "tdef")
  k_extra "wintro"
  k_steps
  have C := c_set_text w W p n hz hn h0 ha hb h7
  walk_at "wcall"; (try clear C); intro v t h' tk' hv F' N'; (try dsimp only)
  obtain ⟨t2, rfl⟩ := hv
  k_steps
  have hsz : (txt (cut W.d p (p + n)).toList).cps.size ≤ 100000 := by
    rw [txt_size, Array.length_toList]
    have := cut_le W.d p (p + n)
    omega
  have C := c_read_set w _ t2 ps hsz hps hl hok hx
  walk_at "dcall"; (try clear C); intro v new h' tk' hv F' N' hne'; (try dsimp only)
  k_steps
  show Done g L _ _ _ _
  exact Done.intro (by k_asm) (by k_asm) ⟨new, t, rfl, fun r hr => ⟨hne' r hr _ (.head _), hne' r hr _ (.tail _ (.head _))⟩, hv⟩
end
theorem fillN3 (w : World) (h : Heap) : (hd.heap_39 w.params).In h → PySem.Challenge.rw_nz0317_01 = PySem.Challenge.rw_nz0317_01 := by
  k_fill
  k_with_none
  w_top off
  k_with "tdef" => ((case ho => k_is); (case hcd => k_is); (case hb => (intro s X; exact BindsTo.of_eq rfl)); (case hl => exact locs rfl); (case c2 => exact rfl); (case c3 => exact rfl); (case c4 => exact rfl); (case c5 => decide); k_whole)
  k_with "tintro" => (intro mean mg mb dp un gd outer A₀ base g L ⟨sh, sg, sd, stk, so⟩ B F X N T hpre hd hu; (try dsimp only at F N); (try dsimp only))
  k_with "fdone" => (show Done g L _ _ _ _; refine Done.intro (by k_asm) News.nil ⟨rfl, ?_⟩; (try dsimp only))
  k_with "wintro" => (intro mean mg mb dp un gd outer A₀ base g L ⟨sh, sg, sd, stk, so⟩ B F X N T hpre hd hu; (try dsimp only at F N); (try dsimp only); (have hne := wr_ne N))
  k_with "wdone" => (show Done g L _ _ _ _; refine Done.intro (by k_asm) (by k_asm) ⟨[], _, rfl, (fun _ h => nomatch h), rfl, ?_⟩; (try dsimp only))
  exact fun _ => rfl
section
theorem freshW14 : True := by
  w_top off
  trivial
theorem datIn_five {new : List (Addr × Obj)} {v : Value} {a b c d e : Str} (h : DatIn new v (.list [.str a, .str b, .str c, .str d, .str e])) : ∃ (r : Addr) (t1 t2 t3 t4 t5 : Tok) (n : Nat), v = .ref r ∧ (r, listOf #[.str a t1, .str b t2, .str c t3, .str d t4, .str e t5] n) ∈ new := by
  cases h with
  | @list r ws c _ hm hr =>
    cases hr with
    | cons h1 hr => cases hr with
      | cons h2 hr => cases hr with
        | cons h3 hr => cases hr with
          | cons h4 hr => cases hr with
            | cons h5 hr =>
              cases hr
              cases h1
              cases h2
              cases h3
              cases h4
              cases h5
              exact ⟨_, _, _, _, _, _, _, rfl, hm⟩
theorem c_nameK (w : World) (t : Tok) : FT w 470 3 [.str ⟨#[107]⟩ t] (fun _ => True) (fun v => ∃ t, v = .str ⟨#[107]⟩ t) := by
  k_dflt (refine' tells_def (binds := [(Str.ofString "text", .str ⟨#[107]⟩ t)]) ?ho ?hcd ?hb ?hl ?c2 ?c3 ?c4 ?c5 ?_; k_extra "tdef")
  k_extra "tintro"
  k_steps
  have C := c_sysflags w
  walk_at "dcall"; (try clear C); intro v new h' tk' hv F' N' hne'; (try dsimp only)
  obtain ⟨r, t1, t2, t3, t4, t5, nn, rfl, hm⟩ := datIn_five hv
  have N9 := news_sub N' (l' := [(r, listOf _ nn)]) fun p hp => by rw [List.mem_singleton.mp hp]; exact List.mem_append_left _ hm
  clear N'
  k_steps
  have C := c_key w ⟨#[107]⟩ t (by decide) (by decide) (by decide +kernel)
  walk_at "fcall"; (try clear C); intro v h' tk' hv F' N'; (try dsimp only)
  subst hv
  k_steps
  k_extra "fdone"
  exact ⟨_, rfl⟩
theorem c_nameF (w : World) (t : Tok) : FT w 470 3 [.str ⟨#[36, 70, 111, 114, 119, 97, 114, 100, 101, 100]⟩ t] (fun _ => True) (fun v => ∃ t, v = .str ⟨#[36, 70, 111, 114, 119, 97, 114, 100, 101, 100]⟩ t) := by
  k_dflt (refine' tells_def (binds := [(Str.ofString "text", .str ⟨#[36, 70, 111, 114, 119, 97, 114, 100, 101, 100]⟩ t)]) ?ho ?hcd ?hb ?hl ?c2 ?c3 ?c4 ?c5 ?_; k_extra "tdef")
  k_extra "tintro"
  k_steps
  have C := c_sysflags w
  walk_at "dcall"; (try clear C); intro v new h' tk' hv F' N' hne'; (try dsimp only)
  obtain ⟨r, t1, t2, t3, t4, t5, nn, rfl, hm⟩ := datIn_five hv
  have N9 := news_sub N' (l' := [(r, listOf _ nn)]) fun p hp => by rw [List.mem_singleton.mp hp]; exact List.mem_append_left _ hm
  clear N'
  k_steps
  have C := c_key w ⟨#[36, 70, 111, 114, 119, 97, 114, 100, 101, 100]⟩ t (by decide) (by decide) (by decide +kernel)
  walk_at "fcall"; (try clear C); intro v h' tk' hv F' N'; (try dsimp only)
  subst hv
  k_steps
  k_extra "fdone"
  exact ⟨_, rfl⟩
theorem c_nameS (w : World) (t : Tok) : FT w 470 3 [.str ⟨#[92, 83, 101, 101, 110]⟩ t] (fun _ => True) (fun v => ∃ t, v = .str ⟨#[92, 83, 101, 101, 110]⟩ t) := by
  k_dflt (refine' tells_def (binds := [(Str.ofString "text", .str ⟨#[92, 83, 101, 101, 110]⟩ t)]) ?ho ?hcd ?hb ?hl ?c2 ?c3 ?c4 ?c5 ?_; k_extra "tdef")
  k_extra "tintro"
  k_steps
  have C := c_sysflags w
  walk_at "dcall"; (try clear C); intro v new h' tk' hv F' N' hne'; (try dsimp only)
  obtain ⟨r, t1, t2, t3, t4, t5, nn, rfl, hm⟩ := datIn_five hv
  have N9 := news_sub N' (l' := [(r, listOf _ nn)]) fun p hp => by rw [List.mem_singleton.mp hp]; exact List.mem_append_left _ hm
  clear N'
  k_steps
  k_extra "fdone"
  exact ⟨_, rfl⟩
theorem c_nameD (w : World) (t : Tok) : FT w 470 3 [.str ⟨#[92, 68, 101, 108, 101, 116, 101, 100]⟩ t] (fun _ => True) (fun v => ∃ t, v = .str ⟨#[92, 68, 101, 108, 101, 116, 101, 100]⟩ t) := by
  k_dflt (refine' tells_def (binds := [(Str.ofString "text", .str ⟨#[92, 68, 101, 108, 101, 116, 101, 100]⟩ t)]) ?ho ?hcd ?hb ?hl ?c2 ?c3 ?c4 ?c5 ?_; k_extra "tdef")
  k_extra "tintro"
  k_steps
  have C := c_sysflags w
  walk_at "dcall"; (try clear C); intro v new h' tk' hv F' N' hne'; (try dsimp only)
  obtain ⟨r, t1, t2, t3, t4, t5, nn, rfl, hm⟩ := datIn_five hv
  have N9 := news_sub N' (l' := [(r, listOf _ nn)]) fun p hp => by rw [List.mem_singleton.mp hp]; exact List.mem_append_left _ hm
  clear N'
  k_steps
  k_extra "fdone"
  exact ⟨_, rfl⟩
theorem c_nameR (w : World) (t : Tok) : FT w 470 3 [.str ⟨#[92, 68, 114, 97, 102, 116]⟩ t] (fun _ => True) (fun v => ∃ t, v = .str ⟨#[92, 68, 114, 97, 102, 116]⟩ t) := by
  k_dflt (refine' tells_def (binds := [(Str.ofString "text", .str ⟨#[92, 68, 114, 97, 102, 116]⟩ t)]) ?ho ?hcd ?hb ?hl ?c2 ?c3 ?c4 ?c5 ?_; k_extra "tdef")
  k_extra "tintro"
  k_steps
  have C := c_sysflags w
  walk_at "dcall"; (try clear C); intro v new h' tk' hv F' N' hne'; (try dsimp only)
  obtain ⟨r, t1, t2, t3, t4, t5, nn, rfl, hm⟩ := datIn_five hv
  have N9 := news_sub N' (l' := [(r, listOf _ nn)]) fun p hp => by rw [List.mem_singleton.mp hp]; exact List.mem_append_left _ hm
  clear N'
  k_steps
  k_extra "fdone"
  exact ⟨_, rfl⟩
end
section
theorem freshW17 : True := by
  w_top off
  trivial
theorem c_word (w : World) (W : Wr) (p n : Nat) (hz : W.d.size ≤ 100000) (hn : p + n ≤ W.d.size) (h0 : 0 < n) (ha : ∀ i, p ≤ i → i < p + n → isAt (W.d.toList.getD i 0).toNat = true) (hb : p + n < W.d.size → isAt (W.d.toList.getD (p + n) 0).toNat = false)
    (h7 : ∀ c ∈ (cut W.d p (p + n)).toList, c.toNat < 97) : WT w W 326 7 [] p (p + n) (fun v => ∃ t, v = .str (txt (cut W.d p (p + n)).toList) t) := by
  intro tp
  k_dflt (refine' tells_def (binds := [(Str.ofString "self", .ref W.x)]) ?ho ?hcd ?hb ?hl ?c2 ?c3 ?c4 ?c5 ?_; k_extra "tdef")
  k_extra "wintro"
  k_steps
  have C := c_atom w W p n hz hn h0 ha hb fun c hc => by have := h7 c hc; omega
  walk_at "wcall"; (try clear C); intro v t h' tk' hv F' N'; (try dsimp only)
  obtain ⟨t2, rfl⟩ := hv
  k_steps
  have hsz : (txt (cut W.d p (p + n)).toList).cps.size ≤ 100000 := by
    rw [txt_size, Array.length_toList]
    have := cut_le W.d p (p + n)
    omega
  have C := c_upper w (txt (cut W.d p (p + n)).toList) t2 hsz fun c hc => by
    simp only [txt, List.mem_map] at hc
    obtain ⟨d, hd, rfl⟩ := hc
    exact h7 d (by simpa using hd)
  walk_at "fcall"; (try clear C); intro v h' tk' hv F' N'; (try dsimp only)
  obtain ⟨t3, rfl⟩ := hv
  k_steps
  k_extra "wdone"
  exact ⟨_, rfl⟩
theorem c_oneOfU (w : World) (t u : Tok) (x : Addr) : FT w 477 1 [.str ⟨#[85, 78, 67, 72, 65, 78, 71, 69, 68, 83, 73, 78, 67, 69]⟩ t, .str (Str.ofString "UNCHANGEDSINCE") u, .ref x] (fun _ => True) (fun v => ∃ t, v = .str ⟨#[85, 78, 67, 72, 65, 78, 71, 69, 68, 83, 73, 78, 67, 69]⟩ t) := by
  k_dflt (refine' tells_def (binds := [(Str.ofString "word", .str ⟨#[85, 78, 67, 72, 65, 78, 71, 69, 68, 83, 73, 78, 67, 69]⟩ t), (Str.ofString "words", .str (Str.ofString "UNCHANGEDSINCE") u), (Str.ofString "wire", .ref x)]) ?ho ?hcd ?hb ?hl ?c2 ?c3 ?c4 ?c5 ?_; k_extra "tdef")
  k_extra "tintro"
  k_steps
  k_extra "fdone"
  exact ⟨_, rfl⟩
theorem c_oneOfF (w : World) (t u : Tok) (x : Addr) : FT w 477 1 [.str ⟨#[70, 76, 65, 71, 83]⟩ t, .str (Str.ofString "FLAGS FLAGS.SILENT") u, .ref x] (fun _ => True) (fun v => ∃ t, v = .str ⟨#[70, 76, 65, 71, 83]⟩ t) := by
  k_dflt (refine' tells_def (binds := [(Str.ofString "word", .str ⟨#[70, 76, 65, 71, 83]⟩ t), (Str.ofString "words", .str (Str.ofString "FLAGS FLAGS.SILENT") u), (Str.ofString "wire", .ref x)]) ?ho ?hcd ?hb ?hl ?c2 ?c3 ?c4 ?c5 ?_; k_extra "tdef")
  k_extra "tintro"
  k_steps
  k_extra "fdone"
  exact ⟨_, rfl⟩
theorem c_oneOfS (w : World) (t u : Tok) (x : Addr) : FT w 477 1 [.str ⟨#[70, 76, 65, 71, 83, 46, 83, 73, 76, 69, 78, 84]⟩ t, .str (Str.ofString "FLAGS FLAGS.SILENT") u, .ref x] (fun _ => True) (fun v => ∃ t, v = .str ⟨#[70, 76, 65, 71, 83, 46, 83, 73, 76, 69, 78, 84]⟩ t) := by
  k_dflt (refine' tells_def (binds := [(Str.ofString "word", .str ⟨#[70, 76, 65, 71, 83, 46, 83, 73, 76, 69, 78, 84]⟩ t), (Str.ofString "words", .str (Str.ofString "FLAGS FLAGS.SILENT") u), (Str.ofString "wire", .ref x)]) ?ho ?hcd ?hb ?hl ?c2 ?c3 ?c4 ?c5 ?_; k_extra "tdef")
  k_extra "tintro"
  k_steps
  k_extra "fdone"
  exact ⟨_, rfl⟩
end
theorem fillN4 (w : World) (h : Heap) : (hd.heap_39 w.params).In h → PySem.Challenge.rw_nz0317_01 = PySem.Challenge.rw_nz0317_01 := by
  k_fill
  k_with_none
  w_top off
  k_with "tdef" => ((case ho => k_is); (case hcd => k_is); (case hb => (intro s X; exact BindsTo.of_eq rfl)); (case hl => exact locs rfl); (case c2 => exact rfl); (case c3 => exact rfl); (case c4 => exact rfl); (case c5 => decide); k_whole)
  k_with "tintro" => (intro mean mg mb dp un gd outer A₀ base g L ⟨sh, sg, sd, stk, so⟩ B F X N T hpre hd hu; (try dsimp only at F N); (try dsimp only))
  k_with "fdone" => (show Done g L _ _ _ _; refine Done.intro (by k_asm) News.nil ⟨rfl, ?_⟩; (try dsimp only))
  k_with "wintro" => (intro mean mg mb dp un gd outer A₀ base g L ⟨sh, sg, sd, stk, so⟩ B F X N T hpre hd hu; (try dsimp only at F N); (try dsimp only); (have hne := wr_ne N))
  k_with "wdone" => (show Done g L _ _ _ _; refine Done.intro (by k_asm) (by k_asm) ⟨[], _, rfl, (fun _ h => nomatch h), rfl, ?_⟩; (try dsimp only))
  k_with "stopw" => (refine atStop ?_)
  k_with "isstop" => skip
  k_with "stopc" => (refine atStop ?_)
  k_with "stopi" => (refine atStop ?_)
  exact fun _ => rfl
section
theorem freshW18h : True := by
  w_top off
  trivial
local macro_rules | `(tactic| k_all) => `(tactic| exact all_dx (by assumption))
abbrev B8 (l : List Nat) : List UInt8 := l.map (·.toUInt8)
def fl5 : List UInt8 := [70, 76, 65, 71, 83]
def fl12 : List UInt8 := [70, 76, 65, 71, 83, 46, 83, 73, 76, 69, 78, 84]
def uns14 : List UInt8 := [85, 78, 67, 72, 65, 78, 71, 69, 68, 83, 73, 78, 67, 69]
def unO : Option Nat → List UInt8
  | none => []
  | some k => 40 :: (uns14 ++ 32 :: (B8 (dg k) ++ 41 :: 32 :: []))
def unD : Option Nat → Dat
  | none => .none
  | some k => .int (k : Int)
def wayO : Nat → List UInt8
  | 0 => [43]
  | 1 => [45]
  | _ => []
def wayS : Nat → Str
  | 0 => Str.ofString "+"
  | 1 => Str.ofString "-"
  | _ => Str.ofString "="
section
variable (w : World) (W : Wr) (p : Nat)
theorem one_at {p : Nat} {W : Wr} {c : UInt8} {l : List UInt8} (h : AtP W p (c :: l)) : (W.d.toList.drop p).take 1 = [c] := by
  rw [show W.d.toList.drop p = c :: l from h]; rfl
theorem c_spaceA (l : List UInt8) (hz : W.d.size ≤ 100000) (h : AtP W p (32 :: l)) : WT w W 291 3 [] p (p + 1) (fun v => v = .none) :=
  c_space w W p (by omega) (by rw [one_at h]; rfl)
theorem c_skipA1 (c : UInt8) (l : List UInt8) (hz : W.d.size ≤ 100000) (h : AtP W p (c :: l)) (t : Tok) : WT w W 277 1 [.bytes #[c] t] p (p + 1) (fun v => v = .bool true) :=
  c_skipY w W p 1 #[c] t (by omega) (by show 1 ≤ 1000; decide) rfl (by show ((W.d.toList.drop p).take 1 == [c]) = true; rw [one_at h]; simp)
theorem c_skipA0 (c d : UInt8) (l : List UInt8) (hz : W.d.size ≤ 100000) (h : AtP W p (c :: l)) (hcd : c ≠ d) (t : Tok) : WT w W 277 1 [.bytes #[d] t] p p (fun v => v = .bool false) :=
  c_skipN w W p #[d] t (by omega) (by show 1 ≤ 1000; decide) (by show ((W.d.toList.drop p).take 1 == [d]) = false; rw [one_at h]; simpa using hcd)
theorem c_needA (c : UInt8) (l : List UInt8) (x : Str) (hz : W.d.size ≤ 100000) (h : AtP W p (c :: l)) (t tx : Tok) : WT w W 284 2 [.bytes #[c] t, .str x tx] p (p + 1) (fun v => v = .none) :=
  c_need w W p #[c] t x tx (by omega) (by show 1 ≤ 1000; decide) (by show ((W.d.toList.drop p).take 1 == [c]) = true; rw [one_at h]; simp)
theorem c_wordA (R : List UInt8) (c : UInt8) (l : List UInt8) (hz : W.d.size ≤ 100000) (h : AtP W p (R ++ c :: l)) (h0 : 0 < R.length) (hR : ∀ c ∈ R, isAt c.toNat = true) (hc : isAt c.toNat = false) (h7 : ∀ c ∈ R, c.toNat < 97) :
    WT w W 326 7 [] p (p + R.length) (fun v => ∃ t, v = .str (txt R) t) := by
  obtain ⟨a, b, d⟩ := h.run isAt hR hc
  have C := c_word w W p R.length hz a h0 b d (by rw [h.cut_]; exact h7)
  rw [h.cut_] at C
  exact C
theorem c_numberA (R : List UInt8) (c : UInt8) (l : List UInt8) (hz : W.d.size ≤ 100000) (h : AtP W p (R ++ c :: l)) (h0 : 0 < R.length) (h9 : R.length ≤ 19) (hR : ∀ c ∈ R, isFig c.toNat = true) (hc : isFig c.toNat = false) :
    WT w W 354 5 [] p (p + R.length) (fun v => ∃ t, v = .int (figs R) t) := by
  obtain ⟨a, b, d⟩ := h.run isFig hR hc
  have C := c_number w W p R.length hz a h0 h9 b d (by rw [h.cut_]; exact hR)
  rw [h.cut_] at C
  exact C
theorem isSt_127 (c : UInt8) (h : isSt c.toNat = true) : c.toNat ≤ 127 := by
  have : ∀ n : Nat, n < 256 → isSt n = true → n ≤ 127 := by decide +kernel
  exact this _ c.toNat_lt h
theorem c_setA (R : List UInt8) (c : UInt8) (l : List UInt8) (ps : List (Nat × Nat)) (hz : W.d.size ≤ 100000) (h : AtP W p (R ++ c :: l)) (hR : ∀ c ∈ R, isSt c.toNat = true) (h0 : 0 < R.length) (hc : isSt c.toNat = false)
    (hps : 0 < ps.length) (hl : ps.length ≤ 1000) (hok : ∀ p ∈ ps, 0 < p.1 ∧ 0 < p.2 ∧ p.1 ≤ 4294967295 ∧ p.2 ≤ 4294967295) (hx : (txt R).cps.toList = shSet ps) : WD w W 484 7 p (p + R.length) (datPairs ps) := by
  obtain ⟨a, b, d⟩ := h.run isSt hR hc
  exact c_set_here w W p R.length ps hz a h0 b d (by rw [h.cut_]; exact fun c hc => isSt_127 c (hR c hc)) hps hl hok (by rw [h.cut_]; exact hx)
end
theorem txt_fl5 : txt fl5 = ⟨#[70, 76, 65, 71, 83]⟩ := by decide +kernel
theorem txt_fl12 : txt fl12 = ⟨#[70, 76, 65, 71, 83, 46, 83, 73, 76, 69, 78, 84]⟩ := by decide +kernel
theorem txt_uns : txt uns14 = ⟨#[85, 78, 67, 72, 65, 78, 71, 69, 68, 83, 73, 78, 67, 69]⟩ := by decide +kernel
theorem c_oneOfX (w : World) (X : List UInt8) (hX : X = fl5 ∨ X = fl12) (t u : Tok) (x : Addr) : FT w 477 1 [.str (txt X) t, .str (Str.ofString "FLAGS FLAGS.SILENT") u, .ref x] (fun _ => True) (fun v => ∃ t, v = .str (txt X) t) := by
  rcases hX with rfl | rfl
  · rw [txt_fl5]; exact c_oneOfF w t u x
  · rw [txt_fl12]; exact c_oneOfS w t u x
theorem c_oneOfW (w : World) (t u : Tok) (x : Addr) : FT w 477 1 [.str (txt uns14) t, .str (Str.ofString "UNCHANGEDSINCE") u, .ref x] (fun _ => True) (fun v => ∃ t, v = .str (txt uns14) t) := by
  rw [txt_uns]; exact c_oneOfU w t u x
theorem figs_val : ∀ (l : List UInt8) (a : Nat), (∀ c ∈ l, isFig c.toNat = true) → l.foldl (fun a c => a * 10 + (c.toNat : Int) - 48) (a : Int) = (((l.map (·.toNat)).foldl (fun acc c => acc * 10 + (c - 48)) a : Nat) : Int)
  | [], a, _ => rfl
  | c :: l, a, h => by
    have hc := h c (.head _)
    simp only [isFig, decide_eq_true_eq] at hc
    have e : (a : Int) * 10 + (c.toNat : Int) - 48 = ((a * 10 + (c.toNat - 48) : Nat) : Int) := by omega
    simp only [List.foldl_cons, List.map_cons]
    rw [e]
    exact figs_val l _ fun c hc => h c (.tail _ hc)
theorem b8_nat (l : List Nat) (h : ∀ c ∈ l, c ≤ 255) : (B8 l).map (·.toNat) = l := by
  simp only [B8, List.map_map]
  conv => rhs; rw [← List.map_id l]
  refine List.map_congr_left fun c hc => ?_
  have := h c hc
  simp [Nat.toUInt8]
  omega
theorem dg_fig (n : Nat) : ∀ c ∈ B8 (dg n), isFig c.toNat = true := by
  intro c hc
  obtain ⟨d, hd, rfl⟩ := List.mem_map.mp hc
  obtain ⟨h1, h2⟩ := dg_all n d hd
  have : ((d.toUInt8).toNat) = d := by simp [Nat.toUInt8]; omega
  rw [this]
  simp [isFig]; omega
theorem figs_dg (n : Nat) : figs (B8 (dg n)) = (n : Int) := by
  have e := figs_val (B8 (dg n)) 0 (dg_fig n)
  rw [b8_nat _ fun c hc => by have := dg_all n c hc; omega] at e
  have v := dg_val n
  unfold PySem.NumText.digitsVal at v
  rw [v] at e
  exact e
theorem st32 : isSt ((32 : UInt8).toNat : Int) = false := by decide +kernel
theorem at32 : isAt ((32 : UInt8).toNat : Int) = false := by decide +kernel
theorem fig41 : isFig ((41 : UInt8).toNat : Int) = false := by decide +kernel
theorem fl_at {X : List UInt8} (hX : X = fl5 ∨ X = fl12) : (0 < X.length) ∧ (∀ c ∈ X, isAt c.toNat = true) ∧ ∀ c ∈ X, c.toNat < 97 := by
  rcases hX with rfl | rfl
  · decide +kernel
  · decide +kernel
theorem uns_at : (0 < uns14.length) ∧ (∀ c ∈ uns14, isAt c.toNat = true) ∧ ∀ c ∈ uns14, c.toNat < 97 := by decide +kernel
theorem fl_head {X : List UInt8} (hX : X = fl5 ∨ X = fl12) (l : List UInt8) : ∃ m, X ++ l = 70 :: m := by
  rcases hX with rfl | rfl
  · exact ⟨_, rfl⟩
  · exact ⟨_, rfl⟩
theorem way_head {X : List UInt8} (hX : X = fl5 ∨ X = fl12) (way : Nat) (l : List UInt8) : ∃ c m, wayO way ++ (X ++ l) = c :: m ∧ c ≠ 40 := by
  obtain ⟨m, e⟩ := fl_head hX l
  unfold wayO
  split
  · exact ⟨_, _, rfl, by decide⟩
  · exact ⟨_, _, rfl, by decide⟩
  · exact ⟨70, m, e, by decide⟩
theorem c_flagsA (w : World) (W : Wr) (p e : Nat) (FL : List UInt8) (xs : List Str) (hz : W.d.size ≤ 100000) (h : AtP W p (40 :: FL)) (hl : LT w W p e xs) (hn : xs.length ≤ 1000) (hf : ∀ x ∈ xs, ∀ t, FT w 470 3 [.str x t] (fun _ => True) (fun v => ∃ t, v = .str x t)) :
    WD w W 489 9 p e (.tuple (xs.map .str)) := by
  have hs := h.size (by simp)
  simp only [List.length_cons] at hs
  have hg := AtP.get (i := 0) h
  exact c_flags_here w W p e xs hz (by omega) (by rw [Nat.add_zero] at hg; rw [hg]; rfl) hl hn hf
theorem store_end {g h9 : Heap} {L D : Addr} {w : World} {W : Wr} {e : Nat} {t5 t1 : Tok} {n : Nat} {nw nw2 : List (Addr × Obj)} {v v2 u : Value} {a : Str} {b : Bool} {d1 d2 d3 : Dat}
    (N : News g L h9 ((D, { cls := .type "tuple", data := .seq #[v, .str a t1, .bool b, v2, u] n }) :: (nw2 ++ (W.x, wobj W) :: (W.dx, wdict w W e t5) :: nw)))
    (l : ∀ p ∈ nw2 ++ (W.x, wobj W) :: (W.dx, wdict w W e t5) :: nw, p.1 < D) (hd : ∀ p ∈ nw2, ∀ q ∈ (W.x, wobj W) :: (W.dx, wdict w W e t5) :: nw, p.1 ≠ q.1) (hnw : ∀ r ∈ nw, r.1 ≠ W.x ∧ r.1 ≠ W.dx)
    (h1 : DatIn nw v d1) (h2 : DatIn nw2 v2 d2) (h3 : DatIn [] u d3) :
    ∃ nw', News g L h9 (nw' ++ wled w W e t5) ∧ (∀ r ∈ nw', r.1 ≠ W.x ∧ r.1 ≠ W.dx) ∧ DatIn nw' (.ref D) (.tuple [d1, .str a, .bool b, d2, d3]) := by
  refine ⟨(D, { cls := .type "tuple", data := .seq #[v, .str a t1, .bool b, v2, u] n }) :: (nw2 ++ nw), news_sub N fun q hq => ?_, fun r hr => ?_, ?_⟩
  · simp only [List.cons_append, List.append_assoc, List.mem_cons, List.mem_append, List.not_mem_nil, or_false] at hq ⊢
    rcases hq with h | h | h | h | h
    · exact .inl h
    · exact .inr (.inl h)
    · exact .inr (.inr (.inr (.inr h)))
    · exact .inr (.inr (.inl h))
    · exact .inr (.inr (.inr (.inl h)))
  · rcases List.mem_cons.mp hr with rfl | hr
    · have a1 := l (W.x, wobj W) (by simp)
      have a2 := l (W.dx, wdict w W e t5) (by simp)
      exact ⟨Ne.symm (Nat.ne_of_lt a1), Ne.symm (Nat.ne_of_lt a2)⟩
    · rcases List.mem_append.mp hr with hr | hr
      · exact ⟨hd r hr (W.x, wobj W) (by simp), hd r hr (W.dx, wdict w W e t5) (by simp)⟩
      · exact hnw r hr
  · have e : (#[v, .str a t1, .bool b, v2, u] : Array Value) = [v, .str a t1, .bool b, v2, u].toArray := rfl
    rw [e]
    refine DatIn.tuple (.head _) (.cons (h1.mono fun p hp => .tail _ (List.mem_append_right _ hp)) (.cons (.str _ _) (.cons (.bool _) (.cons (h2.mono fun p hp => .tail _ (List.mem_append_left _ hp)) (.cons (h3.mono fun p hp => absurd hp List.not_mem_nil) .nil)))))
end
section
theorem freshW18 : True := by
  w_top off
  trivial
local macro_rules | `(tactic| k_all) => `(tactic| exact all_dx (by assumption))
theorem c_read_store (w : World) (W : Wr) (p e : Nat) (S WD9 FL : List UInt8) (ps : List (Nat × Nat)) (unl : Option Nat) (way : Nat) (xs : List Str) (hz : W.d.size ≤ 100000)
    (hat : AtP W p (32 :: (S ++ 32 :: (unO unl ++ (wayO way ++ (WD9 ++ 32 :: 40 :: FL)))))) (hS : ∀ c ∈ S, isSt c.toNat = true) (hS0 : 0 < S.length) (hps : 0 < ps.length) (hpl : ps.length ≤ 1000) (hok : ∀ p ∈ ps, 0 < p.1 ∧ 0 < p.2 ∧ p.1 ≤ 4294967295 ∧ p.2 ≤ 4294967295)
    (hsx : (txt S).cps.toList = shSet ps) (hun : ∀ k, unl = some k → k < 10 ^ 18) (hX : WD9 = fl5 ∨ WD9 = fl12)
    (hn : xs.length ≤ 1000) (hf : ∀ x ∈ xs, ∀ t, FT w 470 3 [.str x t] (fun _ => True) (fun v => ∃ t, v = .str x t))
    (hF : ∀ q, AtP W q (40 :: FL) → LT w W q e xs) :
    WD w W 496 10 p e (.tuple [datPairs ps, .str (wayS way), .bool (txt WD9 == Str.ofString "FLAGS.SILENT"), .tuple (xs.map .str), unD unl]) := by
  intro tp
  k_dflt (refine' tells_def (binds := [(Str.ofString "wire", .ref W.x)]) ?ho ?hcd ?hb ?hl ?c2 ?c3 ?c4 ?c5 ?_; k_extra "tdef")
  k_extra "wintro"
  k_steps
  have C := c_spaceA w W p _ hz hat
  walk_at "wcall"; (try clear C); intro v t h' tk' hv F' N'; (try dsimp only)
  subst hv
  k_steps
  have C := c_setA w W (p + 1) S _ _ ps hz hat.tail hS hS0 st32 hps hpl hok hsx
  walk_at "dwcall"; clear C; intro v nw t h' tk' hv F' N' hd'; (try dsimp only)
  have hat2 := hat.tail.app
  generalize p + 1 + S.length = p2 at hat2 N'
  clear hat
  have hnw : ∀ r ∈ nw, r.1 ≠ W.x ∧ r.1 ≠ W.dx := fun r hr => ⟨hd' r hr _ (.head _), hd' r hr _ (.tail _ (.head _))⟩
  have N2 := news_sub N' (l' := (W.x, wobj W) :: (W.dx, wdict w W p2 t) :: nw) fun q hq => by
    rcases List.mem_cons.mp hq with rfl | hq
    · exact List.mem_append_right _ (.head _)
    · rcases List.mem_cons.mp hq with rfl | hq
      · exact List.mem_append_right _ (.tail _ (.head _))
      · exact List.mem_append_left _ hq
  clear N'
  k_steps
  have C := c_spaceA w W p2 _ hz hat2
  walk_at "wcall"; (try clear C); intro v t h' tk' hv F' N'; (try dsimp only)
  subst hv
  k_steps
  obtain ⟨a1, a2, a3⟩ := fl_at hX
  have hat2 := hat2.tail
  cases unl with
  | none =>
    obtain ⟨c, m, e1, e2⟩ := way_head hX way (32 :: 40 :: FL)
    have h9 : AtP W (p2 + 1) (wayO way ++ (WD9 ++ 32 :: 40 :: FL)) := hat2
    have hat3 := h9
    rw [e1] at h9
    have C := fun t => c_skipA0 w W (p2 + 1) c 40 m hz h9 e2 t
    walk_at "wcall"; (try clear C); intro v t h' tk' hv F' N'; (try dsimp only)
    subst hv
    k_steps
    clear h9 e1
    rcases way with _ | _ | way
    · have hat3' : AtP W _ (43 :: (WD9 ++ 32 :: 40 :: FL)) := hat3
      have C := fun t => c_skipA1 w W _ 43 _ hz hat3' t
      walk_at "wcall"; (try clear C); intro v t h' tk' hv F' N'; (try dsimp only)
      subst hv
      k_steps
      have hat4 := hat3'.tail
      have C := c_wordA w W _ WD9 32 _ hz hat4 a1 a2 at32 a3
      walk_at "wcall"; (try clear C); intro v t h' tk' hv F' N'; (try dsimp only)
      obtain ⟨t3, rfl⟩ := hv
      k_steps
      have C := fun u => c_oneOfX w WD9 hX t3 u W.x
      walk_at "fcall"; (try clear C); intro v h' tk' hv F' N'; (try dsimp only)
      obtain ⟨t4, rfl⟩ := hv
      k_steps
      have hat5 := hat4.app
      have C := c_spaceA w W _ _ hz hat5
      walk_at "wcall"; (try clear C); intro v t h' tk' hv F' N'; (try dsimp only)
      subst hv
      k_steps
      have C := c_flagsA w W _ e FL xs hz hat5.tail (hF _ hat5.tail) hn hf
      walk_at "dwcall"; clear C; intro v2 nw2 t5 h5 tk5 hv2 F5 N5 hd5; (try dsimp only)
      k_steps
      rename_i D9 h9 F9 N9 l9
      obtain ⟨nw', e1, e2, e3⟩ := store_end N9 l9 hd5 hnw hv hv2 DatIn.none
      show Done g L _ _ _ _
      exact Done.intro F9 e1 ⟨nw', t5, rfl, e2, e3⟩
    · have hat3' : AtP W _ (45 :: (WD9 ++ 32 :: 40 :: FL)) := hat3
      have C := fun t => c_skipA0 w W _ 45 43 _ hz hat3' (by decide) t
      walk_at "wcall"; (try clear C); intro v t h' tk' hv F' N'; (try dsimp only)
      subst hv
      k_steps
      have C := fun t => c_skipA1 w W _ 45 _ hz hat3' t
      walk_at "wcall"; (try clear C); intro v t h' tk' hv F' N'; (try dsimp only)
      subst hv
      k_steps
      have hat4 := hat3'.tail
      have C := c_wordA w W _ WD9 32 _ hz hat4 a1 a2 at32 a3
      walk_at "wcall"; (try clear C); intro v t h' tk' hv F' N'; (try dsimp only)
      obtain ⟨t3, rfl⟩ := hv
      k_steps
      have C := fun u => c_oneOfX w WD9 hX t3 u W.x
      walk_at "fcall"; (try clear C); intro v h' tk' hv F' N'; (try dsimp only)
      obtain ⟨t4, rfl⟩ := hv
      k_steps
      have hat5 := hat4.app
      have C := c_spaceA w W _ _ hz hat5
      walk_at "wcall"; (try clear C); intro v t h' tk' hv F' N'; (try dsimp only)
      subst hv
      k_steps
      have C := c_flagsA w W _ e FL xs hz hat5.tail (hF _ hat5.tail) hn hf
      walk_at "dwcall"; clear C; intro v2 nw2 t5 h5 tk5 hv2 F5 N5 hd5; (try dsimp only)
      k_steps
      rename_i D9 h9 F9 N9 l9
      obtain ⟨nw', e1, e2, e3⟩ := store_end N9 l9 hd5 hnw hv hv2 DatIn.none
      show Done g L _ _ _ _
      exact Done.intro F9 e1 ⟨nw', t5, rfl, e2, e3⟩
    · have hat4 : AtP W _ (WD9 ++ 32 :: 40 :: FL) := hat3
      obtain ⟨m9, e9⟩ := fl_head hX (32 :: 40 :: FL)
      have hat3' := hat4
      rw [e9] at hat3'
      have C := fun t => c_skipA0 w W _ 70 43 _ hz hat3' (by decide) t
      walk_at "wcall"; (try clear C); intro v t h' tk' hv F' N'; (try dsimp only)
      subst hv
      k_steps
      have C := fun t => c_skipA0 w W _ 70 45 _ hz hat3' (by decide) t
      walk_at "wcall"; (try clear C); intro v t h' tk' hv F' N'; (try dsimp only)
      subst hv
      k_steps
      clear hat3'
      have C := c_wordA w W _ WD9 32 _ hz hat4 a1 a2 at32 a3
      walk_at "wcall"; (try clear C); intro v t h' tk' hv F' N'; (try dsimp only)
      obtain ⟨t3, rfl⟩ := hv
      k_steps
      have C := fun u => c_oneOfX w WD9 hX t3 u W.x
      walk_at "fcall"; (try clear C); intro v h' tk' hv F' N'; (try dsimp only)
      obtain ⟨t4, rfl⟩ := hv
      k_steps
      have hat5 := hat4.app
      have C := c_spaceA w W _ _ hz hat5
      walk_at "wcall"; (try clear C); intro v t h' tk' hv F' N'; (try dsimp only)
      subst hv
      k_steps
      have C := c_flagsA w W _ e FL xs hz hat5.tail (hF _ hat5.tail) hn hf
      walk_at "dwcall"; clear C; intro v2 nw2 t5 h5 tk5 hv2 F5 N5 hd5; (try dsimp only)
      k_steps
      rename_i D9 h9 F9 N9 l9
      obtain ⟨nw', e1, e2, e3⟩ := store_end N9 l9 hd5 hnw hv hv2 DatIn.none
      show Done g L _ _ _ _
      exact Done.intro F9 e1 ⟨nw', t5, rfl, e2, e3⟩
  | some k =>
    have hat6 : AtP W (p2 + 1) (40 :: (uns14 ++ 32 :: (B8 (dg k) ++ 41 :: 32 :: (wayO way ++ (WD9 ++ 32 :: 40 :: FL))))) := by
      have := hat2
      simpa [unO] using this
    have C := fun t => c_skipA1 w W _ 40 _ hz hat6 t
    walk_at "wcall"; (try clear C); intro v t h' tk' hv F' N'; (try dsimp only)
    subst hv
    k_steps
    have hat6 := hat6.tail
    have C := c_wordA w W _ uns14 32 _ hz hat6 uns_at.1 uns_at.2.1 at32 uns_at.2.2
    walk_at "wcall"; (try clear C); intro v t h' tk' hv F' N'; (try dsimp only)
    obtain ⟨t6, rfl⟩ := hv
    k_steps
    have C := fun u => c_oneOfW w t6 u W.x
    walk_at "fcall"; (try clear C); intro v h' tk' hv F' N'; (try dsimp only)
    obtain ⟨t7, rfl⟩ := hv
    k_steps
    have hat6 := hat6.app
    have C := c_spaceA w W _ _ hz hat6
    walk_at "wcall"; (try clear C); intro v t h' tk' hv F' N'; (try dsimp only)
    subst hv
    k_steps
    have hat6 := hat6.tail
    have hk9 := dg_len 17 k (hun k rfl)
    have hk0 := dg_pos k
    have C := c_numberA w W _ (B8 (dg k)) 41 _ hz hat6 (by simpa using hk0) (by simp; omega) (dg_fig k) fig41
    walk_at "wcall"; (try clear C); intro v t h' tk' hv F' N'; (try dsimp only)
    rw [figs_dg] at hv
    obtain ⟨t8, rfl⟩ := hv
    k_steps
    have hat6 := hat6.app
    have C := fun x tx t => c_needA w W _ 41 _ x hz hat6 t tx
    walk_at "wcall"; (try clear C); intro v t h' tk' hv F' N'; (try dsimp only)
    subst hv
    k_steps
    have hat6 := hat6.tail
    have C := c_spaceA w W _ _ hz hat6
    walk_at "wcall"; (try clear C); intro v t h' tk' hv F' N'; (try dsimp only)
    subst hv
    k_steps
    have hat3 := hat6.tail
    rcases way with _ | _ | way
    · have hat3' : AtP W _ (43 :: (WD9 ++ 32 :: 40 :: FL)) := hat3
      have C := fun t => c_skipA1 w W _ 43 _ hz hat3' t
      walk_at "wcall"; (try clear C); intro v t h' tk' hv F' N'; (try dsimp only)
      subst hv
      k_steps
      have hat4 := hat3'.tail
      have C := c_wordA w W _ WD9 32 _ hz hat4 a1 a2 at32 a3
      walk_at "wcall"; (try clear C); intro v t h' tk' hv F' N'; (try dsimp only)
      obtain ⟨t3, rfl⟩ := hv
      k_steps
      have C := fun u => c_oneOfX w WD9 hX t3 u W.x
      walk_at "fcall"; (try clear C); intro v h' tk' hv F' N'; (try dsimp only)
      obtain ⟨t4, rfl⟩ := hv
      k_steps
      have hat5 := hat4.app
      have C := c_spaceA w W _ _ hz hat5
      walk_at "wcall"; (try clear C); intro v t h' tk' hv F' N'; (try dsimp only)
      subst hv
      k_steps
      have C := c_flagsA w W _ e FL xs hz hat5.tail (hF _ hat5.tail) hn hf
      walk_at "dwcall"; clear C; intro v2 nw2 t5 h5 tk5 hv2 F5 N5 hd5; (try dsimp only)
      k_steps
      rename_i D9 h9 F9 N9 l9
      obtain ⟨nw', e1, e2, e3⟩ := store_end N9 l9 hd5 hnw hv hv2 (DatIn.int _ _)
      show Done g L _ _ _ _
      exact Done.intro F9 e1 ⟨nw', t5, rfl, e2, e3⟩
    · have hat3' : AtP W _ (45 :: (WD9 ++ 32 :: 40 :: FL)) := hat3
      have C := fun t => c_skipA0 w W _ 45 43 _ hz hat3' (by decide) t
      walk_at "wcall"; (try clear C); intro v t h' tk' hv F' N'; (try dsimp only)
      subst hv
      k_steps
      have C := fun t => c_skipA1 w W _ 45 _ hz hat3' t
      walk_at "wcall"; (try clear C); intro v t h' tk' hv F' N'; (try dsimp only)
      subst hv
      k_steps
      have hat4 := hat3'.tail
      have C := c_wordA w W _ WD9 32 _ hz hat4 a1 a2 at32 a3
      walk_at "wcall"; (try clear C); intro v t h' tk' hv F' N'; (try dsimp only)
      obtain ⟨t3, rfl⟩ := hv
      k_steps
      have C := fun u => c_oneOfX w WD9 hX t3 u W.x
      walk_at "fcall"; (try clear C); intro v h' tk' hv F' N'; (try dsimp only)
      obtain ⟨t4, rfl⟩ := hv
      k_steps
      have hat5 := hat4.app
      have C := c_spaceA w W _ _ hz hat5
      walk_at "wcall"; (try clear C); intro v t h' tk' hv F' N'; (try dsimp only)
      subst hv
      k_steps
      have C := c_flagsA w W _ e FL xs hz hat5.tail (hF _ hat5.tail) hn hf
      walk_at "dwcall"; clear C; intro v2 nw2 t5 h5 tk5 hv2 F5 N5 hd5; (try dsimp only)
      k_steps
      rename_i D9 h9 F9 N9 l9
      obtain ⟨nw', e1, e2, e3⟩ := store_end N9 l9 hd5 hnw hv hv2 (DatIn.int _ _)
      show Done g L _ _ _ _
      exact Done.intro F9 e1 ⟨nw', t5, rfl, e2, e3⟩
    · have hat4 : AtP W _ (WD9 ++ 32 :: 40 :: FL) := hat3
      obtain ⟨m9, e9⟩ := fl_head hX (32 :: 40 :: FL)
      have hat3' := hat4
      rw [e9] at hat3'
      have C := fun t => c_skipA0 w W _ 70 43 _ hz hat3' (by decide) t
      walk_at "wcall"; (try clear C); intro v t h' tk' hv F' N'; (try dsimp only)
      subst hv
      k_steps
      have C := fun t => c_skipA0 w W _ 70 45 _ hz hat3' (by decide) t
      walk_at "wcall"; (try clear C); intro v t h' tk' hv F' N'; (try dsimp only)
      subst hv
      k_steps
      clear hat3'
      have C := c_wordA w W _ WD9 32 _ hz hat4 a1 a2 at32 a3
      walk_at "wcall"; (try clear C); intro v t h' tk' hv F' N'; (try dsimp only)
      obtain ⟨t3, rfl⟩ := hv
      k_steps
      have C := fun u => c_oneOfX w WD9 hX t3 u W.x
      walk_at "fcall"; (try clear C); intro v h' tk' hv F' N'; (try dsimp only)
      obtain ⟨t4, rfl⟩ := hv
      k_steps
      have hat5 := hat4.app
      have C := c_spaceA w W _ _ hz hat5
      walk_at "wcall"; (try clear C); intro v t h' tk' hv F' N'; (try dsimp only)
      subst hv
      k_steps
      have C := c_flagsA w W _ e FL xs hz hat5.tail (hF _ hat5.tail) hn hf
      walk_at "dwcall"; clear C; intro v2 nw2 t5 h5 tk5 hv2 F5 N5 hd5; (try dsimp only)
      k_steps
      rename_i D9 h9 F9 N9 l9
      obtain ⟨nw', e1, e2, e3⟩ := store_end N9 l9 hd5 hnw hv hv2 (DatIn.int _ _)
      show Done g L _ _ _ _
      exact Done.intro F9 e1 ⟨nw', t5, rfl, e2, e3⟩
end
section
theorem freshW19 : True := by
  w_top off
  trivial
local macro_rules | `(tactic| walk_at "getMethod bytes") => `(tactic| (k_here; (with_reducible refine JB.getm_join ?_)))
/-- a text's octets -/
def octs (x : Str) : Array UInt8 := (x.cps.toList.map (·.toUInt8)).toArray
theorem octs_size (x : Str) : (octs x).size = x.cps.size := by simp [octs]
theorem bytes_of {α : Type} {R : α → Value → Prop} {G : Value → Value → Prop} (f : α → Array UInt8) (hr : ∀ a v y, R a v → G v y → ∃ t, y = .bytes (f a) t) : ∀ (l : List α) (vs ys : List Value), vs.length = l.length →
    (∀ (j : Nat) v, vs[j]? = some v → ∃ a, l[j]? = some a ∧ R a v) → Paired G (vs.filter fun _ => true) ys → JB.BytesAre ys (l.map f)
  | [], [], ys, _, _, h => by
    cases h; exact .nil
  | a :: l, v :: vs, ys, hl, hP, h => by
    rw [List.filter_cons_of_pos rfl] at h
    cases h with
    | cons h1 h2 =>
      obtain ⟨a', ha, hR⟩ := hP 0 v rfl
      cases ha
      obtain ⟨t, rfl⟩ := hr a _ _ hR h1
      exact .cons _ _ (bytes_of f hr l vs _ (Nat.succ.inj hl) (fun j v hv => hP (j + 1) v hv) h2)
  | [], _ :: _, _, hl, _, _ => nomatch hl
  | _ :: _, [], _, hl, _, _ => nomatch hl
theorem foldl_le (m : Nat) : ∀ (l : List (Array UInt8)) (a : Nat), (∀ b ∈ l, b.size ≤ m) → l.foldl (fun a b => a + b.size) a ≤ a + l.length * m
  | [], a, _ => by simp
  | b :: l, a, h => by
    have h1 := h b (.head _)
    have h2 := foldl_le m l (a + b.size) fun b hb => h b (.tail _ hb)
    simp only [List.foldl_cons, List.length_cons, Nat.succ_mul]
    omega
theorem c_flagsO (w : World) (v : Value) (xs : List Str) (hl : xs.length ≤ 10) (h7 : ∀ x ∈ xs, x.cps.size ≤ 1000 ∧ ∀ c ∈ x.cps.toList, c ≤ 127) :
    FT w 442 2 [v] (fun h => DatH h v (.list (xs.map .str))) (fun v => ∃ t, v = .bytes (#[40] ++ Builtin.Bytes.joined #[32] (xs.map octs) ++ #[41]) t) := by
  k_dflt (refine' tells_def (binds := [(Str.ofString "flags", v)]) ?ho ?hcd ?hb ?hl ?c2 ?c3 ?c4 ?c5 ?_; k_extra "tdef")
  k_extra "tintro"
  obtain ⟨r, its, rfl, hT, hlen, hall⟩ := hpre.list
  rw [List.length_map] at hlen
  k_steps
  refine comp_by (fun _ => true) (fun v y => ∃ x, x ∈ xs ∧ DatH g v (.str x) ∧ ∃ t, y = .bytes (octs x) t) F ?_
  k_steps
  have hT2 : Heap.IsList sh r its.toArray := by
    obtain ⟨o, a, b⟩ := hT
    exact ⟨o, F.keep _ _ a, b⟩
  refine goOn ⟨_, _, _, _, by k_asm, by k_asm, ItSrc.list rfl hT2, by rw [sizeLine_eq]; simp; omega, ?_, ?_, ?_⟩
  · rintro C i v s₂ m₂ E' hP F2 N2 hn hm
    exact wpAny_pure ⟨rfl, keeps_same⟩
  · rintro C i v s₂ m₂ E' hi _ F2 N2 hn hm
    obtain ⟨d, hd1, hd2⟩ := hall i v (by simpa using hi)
    rw [List.getElem?_map] at hd1
    obtain ⟨x, hx, rfl⟩ := Option.map_eq_some_iff.mp hd1
    have hxm := List.mem_of_getElem? hx
    obtain ⟨tx, rfl⟩ := hd2.str
    obtain ⟨q1, q2⟩ := h7 x hxm
    k_steps
    have C := c_octets w x tx (by omega) q2
    walk_at "kcall"; (try clear C); intro v h' tk' hv hk'; (try dsimp only)
    obtain ⟨t, rfl⟩ := hv
    k_steps
    exact goOn ⟨⟨x, hxm, hd2, _, rfl⟩, ⟨_, _, rfl, hk'⟩⟩
  · intro D nn vs ys h' tk hlen2 hP hG F' N' hne
    have hs := bytes_of (R := fun x v => DatH g v (.str x)) octs (by
      rintro x v y hx ⟨x', _, hx', t, rfl⟩
      obtain ⟨t1, rfl⟩ := hx.str
      obtain ⟨t2, e⟩ := hx'.str
      have e' : x = x' := (Value.str.inj e).1
      subst e'
      exact ⟨t, rfl⟩) xs vs ys (by simpa [hlen] using hlen2) (fun j v hv => by
      obtain ⟨d, hd1, hd2⟩ := hall j v (by simpa using hP j v hv)
      rw [List.getElem?_map] at hd1
      obtain ⟨x, hx, rfl⟩ := Option.map_eq_some_iff.mp hd1
      exact ⟨x, hx, hd2⟩) hG
    k_steps
    have hsz := foldl_le 1000 (xs.map octs) ((#[32] : Array UInt8).size * ((xs.map octs).length - 1)) (fun b hb => by
      obtain ⟨x, hx, rfl⟩ := List.mem_map.mp hb
      rw [octs_size]; exact (h7 x hx).1)
    rw [List.length_map] at hsz
    have hsz2 := JB.joined_size #[32] (xs.map octs)
    have h1 : (#[32] : Array UInt8).size = 1 := rfl
    have h40 : (#[40] : Array UInt8).size = 1 := rfl
    have h41 : (#[41] : Array UInt8).size = 1 := rfl
    rw [List.length_map] at hsz2
    rw [h1] at hsz hsz2
    have h9 : (#[40] ++ Builtin.Bytes.joined #[32] (xs.map octs)).size = 1 + (Builtin.Bytes.joined #[32] (xs.map octs)).size := by rw [Array.size_append, h40]
    refine JB.join_call (N' _ (.head _)).1 rfl rfl hs (by rw [List.length_map, h1]; omega) ?_
    intro t' k
    k_steps
    k_extra "fdone"
    exact ⟨_, rfl⟩
end
section
local macro_rules | `(tactic| walk_at "spare0") => `(tactic| skip)
theorem freshW20 : True := by
  w_top off
  trivial
local macro_rules | `(tactic| walk_at "binaryOp Add bytes bytes") => `(tactic| (refine add_bytes' (by (simp only [Array.size_append, List.size_toArray, List.length_cons, List.length_nil]; omega)) ?_; intro _ _))
theorem b8_octs (x : Str) (l : List Nat) (h : x.cps.toList = l) : octs x = (B8 l).toArray := by rw [octs, h]
theorem c_figsOf (w : World) (n : Nat) (t : Tok) (h1 : n < 1000000000000000000) : FT w 241 2 [.int (n : Int) t] (fun _ => True) (fun v => ∃ t, v = .bytes (B8 (dg n)).toArray t) := by
  k_dflt (refine' tells_def (binds := [(Str.ofString "number", .int (n : Int) t)]) ?ho ?hcd ?hb ?hl ?c2 ?c3 ?c4 ?c5 ?_; k_extra "tdef")
  k_extra "tintro"
  k_steps
  have hd9 := dg_str n
  have hl9 := dg_len 17 n h1
  rw [← hd9, Array.length_toList] at hl9
  have C := fun t => c_octets w (Str.ofString (toString (n : Int))) t (by omega) (by rw [hd9]; intro c hc; have := dg_all n c hc; omega)
  walk_at "fcall"; (try clear C); intro v h' tk' hv F' N'; (try dsimp only)
  obtain ⟨t2, rfl⟩ := hv
  k_steps
  k_extra "fdone"
  exact ⟨_, congrArg (Value.bytes · _) (b8_octs _ _ hd9)⟩
theorem shSet_small (ps : List (Nat × Nat)) : ∀ c ∈ shSet ps, c ≤ 127 := by
  have hp : ∀ p : Nat × Nat, ∀ c ∈ shPair p, c ≤ 127 := by
    intro p c hc
    unfold shPair at hc
    split at hc
    · have := dg_all _ c hc; omega
    · rcases List.mem_append.mp hc with h | h
      · have := dg_all _ c h; omega
      · rcases List.mem_cons.mp h with rfl | h
        · decide
        · have := dg_all _ c h; omega
  induction ps with
  | nil => intro c hc; nomatch hc
  | cons p r ih =>
    cases r with
    | nil => exact hp p
    | cons q r =>
      intro c hc
      show c ≤ 127
      rcases List.mem_append.mp (show c ∈ shPair p ++ 44 :: shSet (q :: r) from hc) with h | h
      · exact hp p c h
      · rcases List.mem_cons.mp h with rfl | h
        · decide
        · exact ih c h
theorem shSet_len (ps : List (Nat × Nat)) (h : ∀ p ∈ ps, okPair p) : (shSet ps).length ≤ ps.length * 22 := by
  induction ps with
  | nil => simp [shSet]
  | cons p r ih =>
    have h1 := shPair_len p (h p (.head _))
    cases r with
    | nil => show (shPair p).length ≤ 1 * 22; omega
    | cons q r =>
      have h2 := ih fun p hp => h p (.tail _ hp)
      show (shPair p ++ 44 :: shSet (q :: r)).length ≤ _
      simp only [List.length_append, List.length_cons] at h2 ⊢
      omega
theorem c_uidSet (w : World) (uv : Value) (ns : List Nat) (hl : ns.length ≤ 1000) (hb : ∀ n ∈ ns, n < 10000000000) (hok : ∀ p ∈ rgOf ns, okPair p) (hr : (rgOf ns).length ≤ 1000) :
    FT w 437 4 [uv] (fun h => DatH h uv (.list (ns.map fun n : Nat => .int (n : Int)))) (fun v => ∃ t, v = .bytes (B8 (shSet (rgOf ns))).toArray t) := by
  k_dflt (refine' tells_def (binds := [(Str.ofString "uids", uv)]) ?ho ?hcd ?hb ?hl ?c2 ?c3 ?c4 ?c5 ?_; k_extra "tdef")
  k_extra "tintro"
  k_steps
  have C := c_ranges w uv ns hl hb
  have hp9 : DatH sh uv (.list (ns.map fun n : Nat => .int (n : Int))) := hpre.keeps F.keep
  walk_at "dcall"; (try clear C); intro v new h' tk' hv F' N' hne'; (try dsimp only)
  k_steps
  have hD : DatH h' v (datPairs (rgOf ns)) := DatH.of_news N' hv (fun p hp => List.mem_append_left _ hp)
  clear hp9
  have C := c_show_set w v (rgOf ns) hok hr
  walk_at "fcall"; (try clear C); intro v h' tk' hv F' N'; (try dsimp only)
  obtain ⟨x, t, rfl, hx⟩ := hv
  k_steps
  have hz9 : x.cps.size ≤ 100000 := by
    have := shSet_len (rgOf ns) hok
    rw [← hx, Array.length_toList] at this
    omega
  have C := c_octets w x t hz9 (by rw [hx]; exact shSet_small _)
  walk_at "fcall"; (try clear C); intro v h' tk' hv F' N'; (try dsimp only)
  obtain ⟨t2, rfl⟩ := hv
  k_steps
  k_extra "fdone"
  exact ⟨_, congrArg (Value.bytes · _) (b8_octs _ _ hx)⟩
end
section
local macro_rules | `(tactic| walk_at "spare0") => `(tactic| skip)
theorem freshW21 : True := by
  w_top off
  trivial
local macro_rules | `(tactic| walk_at "binaryOp Add bytes bytes") => `(tactic| (refine add_bytes' (by (simp only [Array.size_append, List.size_toArray, List.length_cons, List.length_nil]; omega)) ?_; intro _ _))
local macro_rules | `(tactic| walk_at "fcall") => `(tactic| (refine wpAny_call ?_; refine' FT.call ?C ?B ?F ?X ?N ?T ?hk ?hp ?d ?u ?ret; (case C => first | assumption | solve_by_elim); (case B => k_asm); (case F => k_asm); (case X => k_asm); (case N => k_asm); (case T => k_asm); (case hk => exact rfl); (case hp => first | exact trivial | assumption | exact DatH.keeps (by assumption) (Fr.keep (by k_asm))); (case d => omega); (case u => omega)))
def unV : Option Nat → Tok → Value
  | none, _ => .none
  | some k, t => .int (k : Int) t
theorem c_store (w : World) (uv fv : Value) (ns : List Nat) (x : Str) (tx tu : Tok) (xs : List Str) (unl : Option Nat) (sil : Bool) (hl : ns.length ≤ 1000) (hb : ∀ n ∈ ns, n < 10000000000) (hok : ∀ p ∈ rgOf ns, okPair p) (hr : (rgOf ns).length ≤ 1000)
    (hxs : xs.length ≤ 10) (h7 : ∀ x ∈ xs, x.cps.size ≤ 1000 ∧ ∀ c ∈ x.cps.toList, c ≤ 127) (hx1 : x.cps.size ≤ 10) (hx2 : ∀ c ∈ x.cps.toList, c ≤ 127) (hun : ∀ k, unl = some k → k < 10 ^ 18) :
    FT w 449 5 [uv, .str x tx, fv, unV unl tu, .bool sil] (fun h => DatH h uv (.list (ns.map fun n : Nat => .int (n : Int))) ∧ DatH h fv (.list (xs.map .str)))
      (fun v => ∃ X t, v = .bytes X t ∧ X.toList = [85, 73, 68, 32, 83, 84, 79, 82, 69] ++ (32 :: (B8 (shSet (rgOf ns)) ++ 32 :: (unO unl ++ ((if (x == Str.ofString "=") = true then [] else (octs x).toList) ++ ((if sil = true then fl12 else fl5) ++ 32 :: (#[40] ++ Builtin.Bytes.joined #[32] (xs.map octs) ++ #[41]).toList)))))) := by
  have hsS : (B8 (shSet (rgOf ns))).toArray.size ≤ 100000 := by
    have := shSet_len (rgOf ns) hok
    simp only [List.size_toArray, List.length_map]
    omega
  have hsJ : (Builtin.Bytes.joined #[32] (xs.map octs)).size ≤ 100000 := by
    have a := JB.joined_size #[32] (xs.map octs)
    have b := foldl_le 1000 (xs.map octs) ((#[32] : Array UInt8).size * ((xs.map octs).length - 1)) (fun b hb => by
      obtain ⟨x, hx, rfl⟩ := List.mem_map.mp hb
      rw [octs_size]; exact (h7 x hx).1)
    have h1 : (#[32] : Array UInt8).size = 1 := rfl
    rw [List.length_map, h1] at a b
    omega
  have hsX : (octs x).size ≤ 10 := by rw [octs_size]; exact hx1
  generalize hS : (B8 (shSet (rgOf ns))).toArray = S9 at hsS
  generalize hJ : Builtin.Bytes.joined #[32] (xs.map octs) = J9 at hsJ
  generalize hX : octs x = X9 at hsX
  cases unl with
  | none =>
    show FT w 449 5 [uv, .str x tx, fv, .none, .bool sil] _ _
    k_dflt (refine' tells_def (binds := [(Str.ofString "uids", uv), (Str.ofString "way", .str x tx), (Str.ofString "flags", fv), (Str.ofString "unless", .none), (Str.ofString "is_silent", .bool sil)]) ?ho ?hcd ?hb ?hl ?c2 ?c3 ?c4 ?c5 ?_; k_extra "tdef")
    k_extra "tintro"
    obtain ⟨hp1, hp2⟩ := hpre
    k_steps
    have C := c_uidSet w uv ns hl hb hok hr
    walk_at "fcall"; (try clear C); intro v h' tk' hv F' N'; (try dsimp only)
    obtain ⟨t2, rfl⟩ := hv
    rw [hS]
    k_steps
    · have C := c_octets w x tx (by omega) hx2
      walk_at "fcall"; (try clear C); intro v h' tk' hv F' N'; (try dsimp only)
      obtain ⟨t5, rfl⟩ := hv
      rw [show (List.map (fun c : Nat => c.toUInt8) x.cps.toList).toArray = X9 from hX]
      k_steps
      · have C := c_flagsO w fv xs hxs h7
        walk_at "fcall"; (try clear C); intro v h' tk' hv F' N'; (try dsimp only)
        obtain ⟨t3, rfl⟩ := hv
        rw [hJ]
        k_steps
        k_extra "fdone"
        refine ⟨_, _, rfl, ?_⟩
        subst hS hX hJ
        have e2 : sil = true := by assumption
        have e1 : (x == Str.ofString "=") = false := by
          have e3 : (x != Str.ofString "=") = true := by assumption
          simpa [bne] using e3
        rw [e1, e2]
        simp [unO, uns14, fl5, fl12]
      · have C := c_flagsO w fv xs hxs h7
        walk_at "fcall"; (try clear C); intro v h' tk' hv F' N'; (try dsimp only)
        obtain ⟨t3, rfl⟩ := hv
        rw [hJ]
        k_steps
        k_extra "fdone"
        refine ⟨_, _, rfl, ?_⟩
        subst hS hX hJ
        have e2 : sil = false := by assumption
        have e1 : (x == Str.ofString "=") = false := by
          have e3 : (x != Str.ofString "=") = true := by assumption
          simpa [bne] using e3
        rw [e1, e2]
        simp [unO, uns14, fl5, fl12]
    · have C := c_flagsO w fv xs hxs h7
      walk_at "fcall"; (try clear C); intro v h' tk' hv F' N'; (try dsimp only)
      obtain ⟨t3, rfl⟩ := hv
      rw [hJ]
      k_steps
      k_extra "fdone"
      refine ⟨_, _, rfl, ?_⟩
      subst hS hX hJ
      have e2 : sil = true := by assumption
      have e1 : (x == Str.ofString "=") = true := by
        have e3 : (x != Str.ofString "=") = false := by assumption
        simpa [bne] using e3
      rw [e1, e2]
      simp [unO, uns14, fl5, fl12]
    · have C := c_flagsO w fv xs hxs h7
      walk_at "fcall"; (try clear C); intro v h' tk' hv F' N'; (try dsimp only)
      obtain ⟨t3, rfl⟩ := hv
      rw [hJ]
      k_steps
      k_extra "fdone"
      refine ⟨_, _, rfl, ?_⟩
      subst hS hX hJ
      have e2 : sil = false := by assumption
      have e1 : (x == Str.ofString "=") = true := by
        have e3 : (x != Str.ofString "=") = false := by assumption
        simpa [bne] using e3
      rw [e1, e2]
      simp [unO, uns14, fl5, fl12]
  | some k =>
    show FT w 449 5 [uv, .str x tx, fv, .int (k : Int) tu, .bool sil] _ _
    k_dflt (refine' tells_def (binds := [(Str.ofString "uids", uv), (Str.ofString "way", .str x tx), (Str.ofString "flags", fv), (Str.ofString "unless", .int (k : Int) tu), (Str.ofString "is_silent", .bool sil)]) ?ho ?hcd ?hb ?hl ?c2 ?c3 ?c4 ?c5 ?_; k_extra "tdef")
    k_extra "tintro"
    obtain ⟨hp1, hp2⟩ := hpre
    k_steps
    have C := c_uidSet w uv ns hl hb hok hr
    walk_at "fcall"; (try clear C); intro v h' tk' hv F' N'; (try dsimp only)
    obtain ⟨t2, rfl⟩ := hv
    rw [hS]
    have hK0 : (B8 (dg k)).toArray.size ≤ 18 := by
      have := dg_len 17 k (hun k rfl)
      simpa using this
    generalize hK : (B8 (dg k)).toArray = K9 at hK0
    k_steps
    have C := c_figsOf w k tu (hun k rfl)
    walk_at "fcall"; (try clear C); intro v h' tk' hv F' N'; (try dsimp only)
    obtain ⟨t4, rfl⟩ := hv
    rw [hK]
    k_steps
    · have C := c_octets w x tx (by omega) hx2
      walk_at "fcall"; (try clear C); intro v h' tk' hv F' N'; (try dsimp only)
      obtain ⟨t5, rfl⟩ := hv
      rw [show (List.map (fun c : Nat => c.toUInt8) x.cps.toList).toArray = X9 from hX]
      k_steps
      · have C := c_flagsO w fv xs hxs h7
        walk_at "fcall"; (try clear C); intro v h' tk' hv F' N'; (try dsimp only)
        obtain ⟨t3, rfl⟩ := hv
        rw [hJ]
        k_steps
        k_extra "fdone"
        refine ⟨_, _, rfl, ?_⟩
        subst hS hX hJ hK
        have e2 : sil = true := by assumption
        have e1 : (x == Str.ofString "=") = false := by
          have e3 : (x != Str.ofString "=") = true := by assumption
          simpa [bne] using e3
        rw [e1, e2]
        simp [unO, uns14, fl5, fl12]
      · have C := c_flagsO w fv xs hxs h7
        walk_at "fcall"; (try clear C); intro v h' tk' hv F' N'; (try dsimp only)
        obtain ⟨t3, rfl⟩ := hv
        rw [hJ]
        k_steps
        k_extra "fdone"
        refine ⟨_, _, rfl, ?_⟩
        subst hS hX hJ hK
        have e2 : sil = false := by assumption
        have e1 : (x == Str.ofString "=") = false := by
          have e3 : (x != Str.ofString "=") = true := by assumption
          simpa [bne] using e3
        rw [e1, e2]
        simp [unO, uns14, fl5, fl12]
    · have C := c_flagsO w fv xs hxs h7
      walk_at "fcall"; (try clear C); intro v h' tk' hv F' N'; (try dsimp only)
      obtain ⟨t3, rfl⟩ := hv
      rw [hJ]
      k_steps
      k_extra "fdone"
      refine ⟨_, _, rfl, ?_⟩
      subst hS hX hJ hK
      have e2 : sil = true := by assumption
      have e1 : (x == Str.ofString "=") = true := by
        have e3 : (x != Str.ofString "=") = false := by assumption
        simpa [bne] using e3
      rw [e1, e2]
      simp [unO, uns14, fl5, fl12]
    · have C := c_flagsO w fv xs hxs h7
      walk_at "fcall"; (try clear C); intro v h' tk' hv F' N'; (try dsimp only)
      obtain ⟨t3, rfl⟩ := hv
      rw [hJ]
      k_steps
      k_extra "fdone"
      refine ⟨_, _, rfl, ?_⟩
      subst hS hX hJ hK
      have e2 : sil = false := by assumption
      have e1 : (x == Str.ofString "=") = true := by
        have e3 : (x != Str.ofString "=") = false := by assumption
        simpa [bne] using e3
      rw [e1, e2]
      simp [unO, uns14, fl5, fl12]
end
section
theorem freshW22 : True := by
  w_top off
  trivial
theorem datAll_ints {led : List (Addr × Obj)} : ∀ {vs : List Value} {zs : List Int}, DatAll led vs (zs.map .int) → IntsAre vs zs
  | [], [], _ => .nil
  | [], _ :: _, h => nomatch h
  | _ :: _, [], h => nomatch h
  | v :: vs, z :: zs, h => by
    cases h with
    | cons h1 h2 => cases h1; exact .cons _ _ (datAll_ints h2)
theorem DatH.ints {h : Heap} {v : Value} {zs : List Int} (D : DatH h v (.list (zs.map .int))) : ∃ (r : Addr) (vs : List Value), v = .ref r ∧ h.IsList r vs.toArray ∧ IntsAre vs zs := by
  obtain ⟨led, hl, hd⟩ := D
  cases hd with
  | @list a vs n _ hm hr => exact ⟨a, vs, rfl, ⟨_, hl _ hm, rfl, n, rfl⟩, datAll_ints hr⟩
theorem ints_at : ∀ {vs : List Value} {zs : List Int}, IntsAre vs zs → ∀ (i : Nat) v, vs[i]? = some v → ∃ z t, zs[i]? = some z ∧ v = .int z t
  | _, _, .nil, i, v, h => by simp at h
  | _, _, .cons z t r, 0, v, h => by cases h; exact ⟨z, t, rfl, rfl⟩
  | _, _, .cons z t r, i + 1, v, h => ints_at r i v h
theorem vs_eq {vs its : List Value} (h : vs.length = its.toArray.size) (k : ∀ (j : Nat) v, vs[j]? = some v → its.toArray[j]? = some v) : vs = its := by
  refine List.ext_getElem? fun j => ?_
  rcases Nat.lt_or_ge j vs.length with hj | hj
  · have := k j _ (List.getElem?_eq_getElem hj)
    rw [List.getElem?_eq_getElem hj, ← this]; simp
  · rw [List.getElem?_eq_none hj, List.getElem?_eq_none (by simpa [h] using hj)]
theorem list_keep {h₀ h : Heap} {L r : Addr} {m : Str → Option Value} {its : Array Value} (hT : h₀.IsList r its) (F : Fr h₀ L h m) : h.IsList r its := by
  obtain ⟨o, a, b⟩ := hT
  exact ⟨o, F.keep _ _ a, b⟩
theorem ints_get : ∀ {vs : List Value} {zs : List Int}, IntsAre vs zs → ∀ (i : Nat), i < zs.length → ∃ z t, zs.getD i 0 = z ∧ vs[i]? = some (.int z t)
  | _, _, .nil, i, h => nomatch h
  | _, _, .cons z t r, 0, _ => ⟨z, t, rfl, rfl⟩
  | _, _, .cons z t r, i + 1, h => ints_get r i (Nat.lt_of_succ_lt_succ h)
def pInt (pz : Int → Bool) : Value → Bool
  | .int z _ => pz z
  | _ => false
theorem ints_filter (pz : Int → Bool) : ∀ {vs : List Value} {zs : List Int} {ys : List Value}, IntsAre vs zs → Paired (fun v y => y = v) (vs.filter (pInt pz)) ys → IntsAre ys (zs.filter pz)
  | _, _, ys, .nil, h => by cases h; exact .nil
  | _, _, ys, .cons (n := z) (t := t) hr, h => by
    have e : pInt pz (.int z t) = pz z := rfl
    cases hp : pz z with
    | true =>
      rw [List.filter_cons_of_pos (by rw [e, hp])] at h
      rw [List.filter_cons_of_pos hp]
      cases h with
      | cons h1 h2 => subst h1; exact .cons _ _ (ints_filter pz hr h2)
    | false =>
      rw [List.filter_cons_of_neg (by rw [e, hp]; decide)] at h
      rw [List.filter_cons_of_neg (by simp [hp])]
      exact ints_filter pz hr h
theorem test_one {prog : Program} {w : World} {A : Around} {E : Value → Shared → Prop} {s : Shared} {c : PySem.Expr} {cenv : Env} {b : Bool} (h : wpAny (model prog w) A (isTrue c cenv (eval c cenv)) (fun ok s₃ => AtStop (ok = b ∧ Keeps s s₃)) E s) :
    wpAny (model prog w) A (testsOf [c] cenv) (fun ok s₃ => ok = b ∧ Keeps s s₃) E s := by
  unfold testsOf
  rw [List.forIn_cons]
  simp only [if_true]
  refine wpAny_bind (wpAny_bind (wpAny_mono h (fun ok s₃ h₃ => wpAny_pure ?_) fun _ _ e => e))
  exact wpAny_pure h₃
def lowsOf (zs : List Int) : List Int := zs.filter fun z => !(zs.any (· == z - 1))
def highsOf (zs : List Int) : List Int := zs.filter fun z => !(zs.any (· == z + 1))
theorem pair_obj {a b a' b' : Int} {x y : Tok} (ha : a = a') (hb : b = b') : ∃ t u n, ({ cls := .type "tuple", data := .seq [Value.int a x, Value.int b y].toArray } : Obj) = { cls := .type "tuple", data := .seq #[.int a' t, .int b' u] n } := by
  subst ha hb
  exact ⟨x, y, _, rfl⟩
theorem fresh_top {h₀ h : Heap} {L : Addr} {m : Str → Option Value} (F : Fr h₀ L h m) : h₀.get? h.objs.size = none ∧ h.objs.size ≠ L := by
  refine ⟨?_, Ne.symm (Nat.ne_of_lt F.ns.lt)⟩
  cases q : h₀.get? h.objs.size with
  | none => rfl
  | some o => exact absurd (Heap.lt_size (F.keep _ _ q)) (Nat.lt_irrefl _)
theorem refs_dat (led : List (Addr × Obj)) (new : List (Addr × Obj)) : ∀ (ls hs : List Int), new.length = ls.length → ls.length = hs.length →
    (∀ (j : Nat) (p : Addr × Obj), new[j]? = some p → ∃ t u n, p.2 = ({ cls := .type "tuple", data := .seq #[.int (ls.getD j 0) t, .int (hs.getD j 0) u] n } : Obj)) → (∀ p ∈ new, p ∈ led) →
    DatAll led (refsOf new) ((ls.zip hs).map fun p => Dat.tuple [.int p.1, .int p.2]) := by
  induction new with
  | nil =>
    intro ls hs h1 h2 _ _
    cases ls with
    | nil => exact .nil
    | cons _ _ => cases h1
  | cons p new ih =>
    intro ls hs h1 h2 hG sub
    cases ls with
    | nil => cases h1
    | cons l ls =>
      cases hs with
      | nil => cases h2
      | cons h hs =>
        obtain ⟨t, u, n, e⟩ := hG 0 p rfl
        obtain ⟨a, o⟩ := p
        dsimp only at e
        subst e
        have hm := sub _ (.head _)
        have hd : DatIn led (.ref a) (Dat.tuple [.int l, .int h]) := DatIn.tuple (vs := [.int l t, .int h u]) hm (.cons (.int _ _) (.cons (.int _ _) .nil))
        exact .cons hd (ih ls hs (Nat.succ.inj h1) (Nat.succ.inj h2) (fun j q hq => hG (j + 1) q hq) fun q hq => sub q (.tail _ hq))
section
local macro_rules | `(tactic| walk_at "newTuple") => `(tactic| (refine atStop ?_))
theorem c_runs (w : World) (uv : Value) (zs : List Int) (hl : zs.length ≤ 1000) (hz : ∀ z ∈ zs, 0 ≤ z ∧ z < 10000000000) (he : (lowsOf zs).length = (highsOf zs).length) :
    DT w 501 1 [uv] (fun h => DatH h uv (.list (zs.map .int))) (.tuple (((lowsOf zs).zip (highsOf zs)).map fun p => .tuple [.int p.1, .int p.2])) := by
  k_dflt (refine' tells_defC (binds := [(Str.ofString "numbers", uv)]) ?ho ?hcd ?hb ?hki ?hnd ?c2 ?c3 ?c4 ?_; (case ho => k_is); (case hcd => k_is); (case hb => (intro s X; exact BindsTo.of_eq rfl)); (case hki => exact rfl); (case hnd => decide +kernel); (case c2 => exact rfl); (case c3 => exact rfl); (case c4 => exact rfl); k_whole)
  intro mean mg mb dp un gd outer A₀ base g L ⟨sh, sg, sd, stk, so⟩ cells B F X N Y l1 T hpre hd hu
  obtain ⟨r, its, rfl, hT, hI⟩ := hpre.ints
  have hlen := hI.length
  k_cells Y
  simp only [List.cons_append, List.nil_append] at N
  dsimp only at F N
  dsimp only
  k_steps
  have hT2 : Heap.IsList sh r its.toArray := by
    obtain ⟨o, a, b⟩ := hT
    exact ⟨o, F.keep _ _ a, b⟩
  refine comp_by (pInt fun z => !(zs.any (· == z - 1))) (fun v y => y = v) F ?_
  k_steps
  refine goOn ⟨_, _, _, _, by k_asm, by k_asm, ItSrc.list rfl hT2, by rw [sizeLine_eq]; simp; omega, ?_, ?_, ?_⟩
  · rintro C i v ⟨s2h, s2g, s2d, s2t, s2o⟩ m₂ E' hP F2 N2 hn hm
    refine test_one ?_
    obtain ⟨z, t, hz1, rfl⟩ := ints_at hI i v (by simpa using hP)
    obtain ⟨hz2, hz3⟩ := hz z (List.mem_of_getElem? hz1)
    have hT3 := list_keep hT F2
    dsimp only at hT3
    k_steps
    exact goOn ⟨rfl, keeps_rfl⟩
  · rintro C i v s₂ m₂ E' hP _ F2 N2 hn hm
    k_steps
    exact goOn ⟨rfl, keeps_same⟩
  intro D1 nnD1 vsD1 ysD1 hD1 tkD1 hlenD1 hPD1 hGD1 FD1 ND1 hneD1
  have hID1 : IntsAre ysD1 _ := ints_filter _ hI (vs_eq hlenD1 hPD1 ▸ hGD1)
  clear hGD1 hPD1
  k_steps
  rename Fr _ _ _ _ => F9
  rename News _ _ _ _ => N9
  simp only [List.cons_append, List.nil_append] at N9
  have hT4 := list_keep hT F9
  refine comp_by (pInt fun z => !(zs.any (· == z + 1))) (fun v y => y = v) F9 ?_
  k_steps
  refine goOn ⟨_, _, _, _, by k_asm, by k_asm, ItSrc.list rfl hT4, by rw [sizeLine_eq]; simp; omega, ?_, ?_, ?_⟩
  · rintro C i v ⟨s2h, s2g, s2d, s2t, s2o⟩ m₂ E' hP F2 N2 hn hm
    refine test_one ?_
    obtain ⟨z, t, hz1, rfl⟩ := ints_at hI i v (by simpa using hP)
    obtain ⟨hz2, hz3⟩ := hz z (List.mem_of_getElem? hz1)
    have hT3 := list_keep hT F2
    dsimp only at hT3
    k_steps
    exact goOn ⟨rfl, keeps_rfl⟩
  · rintro C i v s₂ m₂ E' hP _ F2 N2 hn hm
    k_steps
    exact goOn ⟨rfl, keeps_same⟩
  intro D2 nnD2 vsD2 ysD2 hD2 tkD2 hlenD2 hPD2 hGD2 FD2 ND2 hneD2
  have hID2 : IntsAre ysD2 _ := ints_filter _ hI (vs_eq hlenD2 hPD2 ▸ hGD2)
  clear hGD2 hPD2
  k_steps
  rename Fr _ _ _ _ => F8
  rename News _ _ _ _ => N8
  simp only [List.cons_append, List.nil_append] at N8
  have hl1 : ysD1.length = (lowsOf zs).length := hID1.length
  have hl2 : ysD2.length = (highsOf zs).length := hID2.length
  have hl3 : (lowsOf zs).length ≤ zs.length := List.length_filter_le _ _
  refine comp_objs (fun i o => ∃ t u n, o = ({ cls := .type "tuple", data := .seq #[.int ((lowsOf zs).getD i 0) t, .int ((highsOf zs).getD i 0) u] n } : Obj)) F8 (by rintro i o ⟨t, u, n, rfl⟩; exact ⟨rfl, _, _, rfl⟩) ?_
  k_steps
  refine len_listN N8 (by k_mem) (by simp; omega) ?_
  intro t9 k9
  rw [show ysD1.toArray.size = (lowsOf zs).length by simpa using hl1]
  dsimp only
  k_steps
  refine goOn ⟨_, _, _, _, by k_asm, by k_asm, ItSrcB.upto rfl (by assumption) (by omega), by rw [sizeLine_eq]; omega, ?_, ?_⟩
  · rintro C i v ⟨s2h, s2g, s2d, s2t, s2o⟩ m₂ E' hi ⟨ti, rfl⟩ F2 N2 hn hm
    obtain ⟨_, u1, rfl, q2⟩ := ints_get hID1 i hi
    obtain ⟨_, u2, rfl, q4⟩ := ints_get hID2 i (by show i < (highsOf zs).length; omega)
    k_steps
    refine item_list (News.isList (by k_asm) (by k_mem)) (by omega) (by omega) (by simpa using q2) ?_
    k_steps
    refine goOn (wpAny_newTuple ?_ (by show 2 ≤ sizeLine; rw [sizeLine_eq]; decide))
    rename Fr _ _ _ _ => F5
    refine goOn ⟨⟨_, _, rfl, (fresh_top F5).1, (fresh_top F5).2, Heap.get?_push_size _ rfl, pair_obj ?_ ?_⟩, _, _, rfl, fun b o e => Heap.get?_push_of_some _ e⟩
    · rfl
    · show (highsOf zs).getD (Int.toNat (i : Int)) 0 = _
      rw [Int.toNat_natCast]
  · intro D3 nn3 new3 h3 tk3 hlen3 hG3 F3 N3
    k_steps
    rename Fr _ _ _ _ => F6
    rename News _ _ _ _ => N6
    show Done g L _ _ _ _
    refine Done.intro F6 (news_sub N6 (l' := (_, ({ cls := .type "tuple", data := .seq (refsOf new3).toArray } : Obj)) :: new3) ?_) (DatIn.tuple (.head _) (refs_dat _ new3 _ _ hlen3 he hG3 fun p hp => .tail _ hp))
    intro p hp
    rcases List.mem_cons.mp hp with rfl | hp
    · exact .head _
    · exact .tail _ (.tail _ (List.mem_append_left _ hp))
end
end
section
theorem freshW24 : True := by
  w_top off
  trivial
def lowsN (ns : List Nat) : List Nat := ns.filter fun n => !(ns.any fun m => m + 1 == n)
def highsN (ns : List Nat) : List Nat := ns.filter fun n => !(ns.any fun m => m == n + 1)
abbrev toZ (ns : List Nat) : List Int := ns.map fun n : Nat => (n : Int)
theorem lows_toZ (ns : List Nat) : lowsOf (toZ ns) = toZ (lowsN ns) := by
  unfold lowsOf lowsN toZ
  rw [List.filter_map]
  congr 1
  refine List.filter_congr fun n _ => ?_
  simp only [Function.comp, List.any_map]
  congr 1
  refine List.any_congr rfl fun m => ?_
  rw [Bool.eq_iff_iff]
  simp only [Function.comp, beq_iff_eq]
  omega
theorem highs_toZ (ns : List Nat) : highsOf (toZ ns) = toZ (highsN ns) := by
  unfold highsOf highsN toZ
  rw [List.filter_map]
  congr 1
  refine List.filter_congr fun n _ => ?_
  simp only [Function.comp, List.any_map]
  congr 1
  refine List.any_congr rfl fun m => ?_
  rw [Bool.eq_iff_iff]
  simp only [Function.comp, beq_iff_eq]
  omega
theorem rg_app (ns : List Nat) (n : Nat) : rgOf (ns ++ [n]) = rgStep (rgOf ns) n := by simp [rgOf]
theorem lows_snoc (ns : List Nat) (n : Nat) (h : ∀ m ∈ ns, m < n) : lowsN (ns ++ [n]) = if (ns.any fun m => m + 1 == n) = true then lowsN ns else lowsN ns ++ [n] := by
  unfold lowsN
  rw [List.filter_append]
  have e1 : ns.filter (fun k => !((ns ++ [n]).any fun m => m + 1 == k)) = ns.filter fun k => !(ns.any fun m => m + 1 == k) := by
    refine List.filter_congr fun k hk => ?_
    have := h k hk
    rw [List.any_append]
    simp only [List.any_cons, List.any_nil, Bool.or_false]
    rw [show (n + 1 == k) = false by rw [beq_eq_false_iff_ne]; omega, Bool.or_false]
  rw [e1]
  have e2 : ((ns ++ [n]).any fun m => m + 1 == n) = (ns.any fun m => m + 1 == n) := by
    rw [List.any_append]
    simp
  by_cases hc : (ns.any fun m => m + 1 == n) = true
  · rw [if_pos hc, List.filter_cons_of_neg (by rw [e2, hc]; decide)]; simp
  · rw [if_neg hc, List.filter_cons_of_pos (by rw [e2]; simpa using hc)]; simp
theorem highs_snoc (ns : List Nat) (n : Nat) (h : ∀ m ∈ ns, m < n) : highsN (ns ++ [n]) = (highsN ns).filter (fun k => !(n == k + 1)) ++ [n] := by
  unfold highsN
  rw [List.filter_append]
  congr 1
  · rw [List.filter_filter]
    refine List.filter_congr fun k hk => ?_
    rw [List.any_append]
    simp only [List.any_cons, List.any_nil, Bool.or_false]
    rw [Bool.not_or, Bool.and_comm]
  · rw [List.filter_cons_of_pos]
    · rfl
    · rw [List.any_append]
      simp only [List.any_cons, List.any_nil, Bool.or_false]
      rw [show (n == n + 1) = false by rw [beq_eq_false_iff_ne]; omega, Bool.or_false]
      rw [Bool.not_eq_true', List.any_eq_false]
      intro m hm
      have := h m hm
      simp; omega
theorem zip_snoc {α β : Type} (l : List α) (r : List β) (a : α) (b : β) (h : l.length = r.length) : (l ++ [a]).zip (r ++ [b]) = l.zip r ++ [(a, b)] := by
  rw [List.zip_append h]; rfl
/-- the runs that the writer makes are the runs that the law names -/
theorem runs_are : ∀ (k : Nat) (ns : List Nat), ns.length = k → ns.Pairwise (· < ·) → ns ≠ [] → (lowsN ns).length = (highsN ns).length ∧ rgOf ns = (lowsN ns).zip (highsN ns) ∧ ∃ H, highsN ns = H ++ [ns.getLastD 0] := by
  intro k
  induction k with
  | zero => intro ns h _ hne; exact absurd (List.length_eq_zero_iff.mp h) hne
  | succ k ih =>
    intro ns hk hp hne
    obtain ⟨ms, n, rfl⟩ : ∃ ms n, ns = ms ++ [n] := ⟨ns.dropLast, ns.getLast hne, (List.dropLast_concat_getLast hne).symm⟩
    rw [List.pairwise_append] at hp
    obtain ⟨hp1, _, hp3⟩ := hp
    have hlt : ∀ m ∈ ms, m < n := fun m hm => hp3 m hm n (by simp)
    have hlast : (ms ++ [n]).getLastD 0 = n := by simp
    rw [rg_app, lows_snoc ms n hlt, highs_snoc ms n hlt, hlast]
    by_cases hm : ms = []
    · subst hm
      refine ⟨by simp [lowsN, highsN], by simp [lowsN, highsN, rgOf, rgStep], _, rfl⟩
    · obtain ⟨h1, h2, H, h3⟩ := ih ms (by simpa using hk) hp1 hm
      obtain ⟨qs, q, rfl⟩ : ∃ qs q, ms = qs ++ [q] := ⟨ms.dropLast, ms.getLast hm, (List.dropLast_concat_getLast hm).symm⟩
      have hq : (qs ++ [q]).getLastD 0 = q := by simp
      rw [hq] at h3
      have hqn := hlt q (by simp)
      have hqs : ∀ m ∈ qs, m < q := fun m hm => (List.pairwise_append.mp hp1).2.2 m hm q (by simp)
      have hHs : ∀ m ∈ H, m < q := by
        intro m hmH
        have hmm : m ∈ highsN (qs ++ [q]) := by rw [h3]; simp [hmH]
        have hm2 : m ∈ qs ++ [q] := (List.mem_filter.mp hmm).1
        rcases List.mem_append.mp hm2 with h | h
        · exact hqs m h
        · exfalso
          have hnd : (highsN (qs ++ [q])).Pairwise (· < ·) := List.Pairwise.sublist List.filter_sublist hp1
          rw [h3, List.pairwise_append] at hnd
          have := hnd.2.2 m hmH q (by simp)
          rw [List.mem_singleton.mp h] at this
          omega
      have hne2 : (lowsN (qs ++ [q])) ≠ [] := by
        intro e
        rw [e, h3] at h1
        simp at h1
      obtain ⟨Lq, l, hL⟩ : ∃ Lq l, lowsN (qs ++ [q]) = Lq ++ [l] := ⟨_, _, (List.dropLast_concat_getLast hne2).symm⟩
      have hlen : Lq.length = H.length := by rw [hL, h3] at h1; simpa using h1
      have hrg : rgOf (qs ++ [q]) = Lq.zip H ++ [(l, q)] := by rw [h2, hL, h3, zip_snoc _ _ _ _ hlen]
      have hany : ((qs ++ [q]).any fun m => m + 1 == n) = decide (q + 1 = n) := by
        rw [List.any_append]
        simp only [List.any_cons, List.any_nil, Bool.or_false]
        have : (qs.any fun m => m + 1 == n) = false := by
          rw [List.any_eq_false]
          intro m hm
          have := hqs m hm
          simp; omega
        rw [this, Bool.false_or]
        rw [Bool.eq_iff_iff, beq_iff_eq, decide_eq_true_eq]
      have hst : rgStep (rgOf (qs ++ [q])) n = if n ≤ q + 1 then Lq.zip H ++ [(l, n)] else Lq.zip H ++ [(l, q)] ++ [(n, n)] := by
        rw [hrg]
        unfold rgStep
        simp
      have hfil : (highsN (qs ++ [q])).filter (fun k => !(n == k + 1)) = if q + 1 = n then H else H ++ [q] := by
        rw [h3, List.filter_append]
        have e1 : H.filter (fun k => !(n == k + 1)) = H := by
          rw [List.filter_eq_self]
          intro m hm
          have := hHs m hm
          simp; omega
        rw [e1]
        by_cases hc : q + 1 = n
        · rw [if_pos hc, List.filter_cons_of_neg (by simp; omega)]; simp
        · rw [if_neg hc, List.filter_cons_of_pos (by simp; omega)]; simp
      rw [hany, hst, hfil]
      by_cases hc : q + 1 = n
      · rw [if_pos hc, if_pos (by simpa using hc), if_pos (by omega), hL]
        refine ⟨by simp [hlen], ?_, H, rfl⟩
        rw [zip_snoc _ _ _ _ hlen]
      · rw [if_neg hc, if_neg (by simpa using hc), if_neg (by omega), hL]
        refine ⟨by simp [hlen], ?_, H ++ [q], rfl⟩
        rw [zip_snoc _ _ _ _ (by simp [hlen]), zip_snoc _ _ _ _ hlen]
def bitZ (mk : Int) (z : Int) : Bool := (mk.fdiv (2 ^ z.toNat)).fmod 2 == 1
def bits (mk : Int) : List Int := ((List.range 14).map fun i : Nat => (1 + (i : Int))).filter (bitZ mk)
def bitsN (mk : Int) : List Nat := ((List.range 14).map fun i : Nat => 1 + i).filter fun n : Nat => bitZ mk (n : Int)
def nsOf (mk : Int) : List Nat := bitsN mk ++ [(20 + mk.fmod 4294967000).toNat]
theorem fmod_nn (mk : Int) : 0 ≤ mk.fmod 4294967000 ∧ mk.fmod 4294967000 < 4294967000 := ⟨Int.fmod_nonneg_of_pos _ (by decide), Int.fmod_lt_of_pos _ (by decide)⟩
theorem bits_toZ (mk : Int) : bits mk = toZ (bitsN mk) := by
  unfold bits bitsN toZ
  rw [List.filter_map, List.filter_map, List.map_map]
  rfl
theorem zs_toZ (mk : Int) : bits mk ++ [20 + mk.fmod 4294967000] = toZ (nsOf mk) := by
  have h := (fmod_nn mk).1
  unfold nsOf toZ
  rw [List.map_append, bits_toZ]
  congr 1
  simp only [List.map_cons, List.map_nil]
  rw [Int.toNat_of_nonneg (by omega)]
theorem bitsN_mem (mk : Int) : ∀ n ∈ bitsN mk, 0 < n ∧ n < 15 := by
  intro n hn
  obtain ⟨i, hi, rfl⟩ := List.mem_map.mp (List.mem_filter.mp hn).1
  have := List.mem_range.mp hi
  omega
theorem ns_asc (mk : Int) : (nsOf mk).Pairwise (· < ·) := by
  unfold nsOf
  rw [List.pairwise_append]
  refine ⟨List.Pairwise.sublist List.filter_sublist ?_, List.pairwise_singleton _ _, fun a ha b hb => ?_⟩
  · rw [List.pairwise_map]
    exact List.pairwise_lt_range.imp fun h => by omega
  · rw [List.mem_singleton.mp hb]
    have := bitsN_mem mk a ha
    have := fmod_nn mk
    omega
theorem ns_mem (mk : Int) : ∀ n ∈ nsOf mk, 0 < n ∧ n ≤ 4294967295 := by
  intro n hn
  have h := fmod_nn mk
  rcases List.mem_append.mp hn with hn | hn
  · have := bitsN_mem mk n hn; omega
  · rw [List.mem_singleton.mp hn]; omega
theorem ns_len (mk : Int) : (nsOf mk).length ≤ 15 := by
  unfold nsOf bitsN
  have : (((List.range 14).map fun i : Nat => 1 + i).filter fun n : Nat => bitZ mk (n : Int)).length ≤ _ := List.length_filter_le _ _
  simp only [List.length_map, List.length_range] at this
  simp only [List.length_append, List.length_cons, List.length_nil]
  omega
theorem ns_ne (mk : Int) : nsOf mk ≠ [] := by simp [nsOf]
theorem rg_mem (mk : Int) : ∀ p ∈ rgOf (nsOf mk), p.1 ∈ nsOf mk ∧ p.2 ∈ nsOf mk := by
  intro p hp
  rw [(runs_are _ _ rfl (ns_asc mk) (ns_ne mk)).2.1] at hp
  have h := List.of_mem_zip (a := p.1) (b := p.2) hp
  exact ⟨(List.mem_filter.mp h.1).1, (List.mem_filter.mp h.2).1⟩
theorem rg_ok (mk : Int) : ∀ p ∈ rgOf (nsOf mk), 0 < p.1 ∧ 0 < p.2 ∧ p.1 ≤ 4294967295 ∧ p.2 ≤ 4294967295 := by
  intro p hp
  obtain ⟨h1, h2⟩ := rg_mem mk p hp
  obtain ⟨a, b⟩ := ns_mem mk _ h1
  obtain ⟨c, d⟩ := ns_mem mk _ h2
  exact ⟨a, c, b, d⟩
theorem rg_len (mk : Int) : 0 < (rgOf (nsOf mk)).length ∧ (rgOf (nsOf mk)).length ≤ 15 := by
  obtain ⟨h1, h2, H, h3⟩ := runs_are _ _ rfl (ns_asc mk) (ns_ne mk)
  have hl : (lowsN (nsOf mk)).length ≤ (nsOf mk).length := List.length_filter_le _ _
  have := ns_len mk
  rw [h2, List.length_zip, ← h1, Nat.min_self]
  refine ⟨?_, by omega⟩
  rw [h1, h3]; simp
theorem runs_dat (mk : Int) : ((lowsOf (toZ (nsOf mk))).zip (highsOf (toZ (nsOf mk)))).map (fun p => Dat.tuple [.int p.1, .int p.2]) = (rgOf (nsOf mk)).map fun p => Dat.tuple [.int (p.1 : Int), .int (p.2 : Int)] := by
  rw [lows_toZ, highs_toZ, (runs_are _ _ rfl (ns_asc mk) (ns_ne mk)).2.1, List.zip_map, List.map_map]
  rfl
theorem runs_len (mk : Int) : (lowsOf (toZ (nsOf mk))).length = (highsOf (toZ (nsOf mk))).length := by
  rw [lows_toZ, highs_toZ, List.length_map, List.length_map]
  exact (runs_are _ _ rfl (ns_asc mk) (ns_ne mk)).1
theorem shSet_txt (ps : List (Nat × Nat)) : (txt (B8 (shSet ps))).cps.toList = shSet ps := by
  show ((B8 (shSet ps)).map (·.toNat)).toArray.toList = _
  rw [b8_nat _ fun c hc => by have := shSet_small ps c hc; omega]
theorem shPair_st (p : Nat × Nat) : ∀ c ∈ shPair p, isSt (c : Int) = true := by
  have hd : ∀ n, ∀ c ∈ dg n, isSt (c : Int) = true := by
    intro n c hc
    have := dg_all n c hc
    unfold isSt
    rw [decide_eq_true (by omega)]
    rfl
  intro c hc
  unfold shPair at hc
  split at hc
  · exact hd _ c hc
  · rcases List.mem_append.mp hc with h | h
    · exact hd _ c h
    · rcases List.mem_cons.mp h with rfl | h
      · decide +kernel
      · exact hd _ c h
theorem shSet_st (ps : List (Nat × Nat)) : ∀ c ∈ shSet ps, isSt (c : Int) = true := by
  induction ps with
  | nil => intro c hc; nomatch hc
  | cons p r ih =>
    cases r with
    | nil => exact shPair_st p
    | cons q r =>
      intro c hc
      rcases List.mem_append.mp (show c ∈ shPair p ++ 44 :: shSet (q :: r) from hc) with h | h
      · exact shPair_st p c h
      · rcases List.mem_cons.mp h with rfl | h
        · decide +kernel
        · exact ih c h
theorem b8_st (ps : List (Nat × Nat)) : ∀ c ∈ B8 (shSet ps), isSt c.toNat = true := by
  intro c hc
  obtain ⟨d, hd, rfl⟩ := List.mem_map.mp hc
  have h1 := shSet_small ps d hd
  have : (d.toUInt8).toNat = d := by simp [Nat.toUInt8]; omega
  rw [this]
  exact shSet_st ps d hd
theorem shSet_pos (ps : List (Nat × Nat)) (h : 0 < ps.length) : 0 < (B8 (shSet ps)).length := by
  rw [List.length_map]
  have hp : ∀ p : Nat × Nat, 0 < (shPair p).length := by
    intro p
    unfold shPair
    have := dg_pos p.1
    split
    · exact this
    · simp; omega
  cases ps with
  | nil => cases h
  | cons p r =>
    cases r with
    | nil => exact hp p
    | cons q r =>
      show 0 < (shPair p ++ 44 :: shSet (q :: r)).length
      have := hp p
      simp only [List.length_append, List.length_cons]
      omega
end
section
theorem freshW25 : True := by
  w_top off
  trivial
def FLGS : List Str := [⟨#[92, 83, 101, 101, 110]⟩, ⟨#[36, 70, 111, 114, 119, 97, 114, 100, 101, 100]⟩, ⟨#[92, 68, 101, 108, 101, 116, 101, 100]⟩, ⟨#[107]⟩, ⟨#[92, 68, 114, 97, 102, 116]⟩]
def flP (q i : Nat) : Nat := q + 1 + [0, 6, 17, 26, 28].getD i 0
def flQ (q i : Nat) : Nat := flP q i + [5, 10, 8, 1, 6].getD i 0
def flX (i : Nat) : Str := FLGS.getD i ⟨#[]⟩
theorem at41 : isAt ((41 : UInt8).toNat : Int) = false := by decide +kernel
def flO (m : Nat) : List UInt8 := (#[40] ++ Builtin.Bytes.joined #[32] ((FLGS.take m).map octs) ++ #[41]).toList
theorem AtP.off {W : Wr} {q : Nat} {l : List UInt8} (h : AtP W q l) (k : Nat) : AtP W (q + k) (l.drop k) := by
  show W.d.toList.drop (q + k) = l.drop k
  rw [← List.drop_drop, show W.d.toList.drop q = l from h]
theorem AtP.one {W : Wr} {p : Nat} {c : UInt8} {l : List UInt8} (h : AtP W p (c :: l)) (d : UInt8) : ((W.d.toList.drop p).take 1 == [d]) = (c == d) := by
  rw [one_at h]
  simp
section
variable (w : World) (W : Wr) (p : Nat) (hz : W.d.size ≤ 100000)
include hz
theorem c_flagBA (R : List UInt8) (c : UInt8) (l : List UInt8) (h : AtP W p (92 :: (R ++ c :: l))) (h0 : 0 < R.length) (hR : ∀ c ∈ R, isAt c.toNat = true) (hc : isAt c.toNat = false) (h7 : ∀ c ∈ R, c.toNat ≤ 127) :
    WT w W 347 7 [] p (p + 1 + R.length) (fun v => ∃ t, v = .str (Str.ofString "\\" ++ txt R) t) := by
  have h2 := h.tail
  obtain ⟨a, b, d⟩ := h2.run isAt hR hc
  have C := c_flagB w W p R.length hz (by rw [h.one]; rfl) a h0 b d (by rw [h2.cut_]; exact h7)
  rw [h2.cut_] at C
  exact C
theorem c_flagNA (r : UInt8) (R : List UInt8) (c : UInt8) (l : List UInt8) (h : AtP W p ((r :: R) ++ c :: l)) (hr : (r == 92) = false) (hR : ∀ c ∈ r :: R, isAt c.toNat = true) (hc : isAt c.toNat = false) (h7 : ∀ c ∈ r :: R, c.toNat ≤ 127) :
    WT w W 347 7 [] p (p + (r :: R).length) (fun v => ∃ t, v = .str (Str.ofString "" ++ txt (r :: R)) t) := by
  obtain ⟨a, b, d⟩ := h.run isAt hR hc
  have C := c_flagN w W p (r :: R).length hz (by rw [AtP.one (show AtP W p (r :: (R ++ c :: l)) from h)]; exact hr) a (by simp) b d (by rw [h.cut_]; exact h7)
  rw [h.cut_] at C
  exact C
theorem c_fi0 (c : UInt8) (l : List UInt8) (h : AtP W p (92 :: ([83, 101, 101, 110] ++ c :: l))) (hc : isAt c.toNat = false) : WT w W 347 7 [] p (p + 5) (fun v => ∃ t, v = .str (flX 0) t) := by
  have C := c_flagBA w W p hz [83, 101, 101, 110] c l h (by decide) (by decide +kernel) hc (by decide +kernel)
  rw [show Str.ofString "\\" ++ txt [83, 101, 101, 110] = flX 0 by decide +kernel] at C
  exact C
theorem c_fi1 (c : UInt8) (l : List UInt8) (h : AtP W p ((36 :: [70, 111, 114, 119, 97, 114, 100, 101, 100]) ++ c :: l)) (hc : isAt c.toNat = false) : WT w W 347 7 [] p (p + 10) (fun v => ∃ t, v = .str (flX 1) t) := by
  have C := c_flagNA w W p hz 36 [70, 111, 114, 119, 97, 114, 100, 101, 100] c l h (by decide) (by decide +kernel) hc (by decide +kernel)
  rw [show Str.ofString "" ++ txt (36 :: [70, 111, 114, 119, 97, 114, 100, 101, 100]) = flX 1 by decide +kernel] at C
  exact C
theorem c_fi2 (c : UInt8) (l : List UInt8) (h : AtP W p (92 :: ([68, 101, 108, 101, 116, 101, 100] ++ c :: l))) (hc : isAt c.toNat = false) : WT w W 347 7 [] p (p + 8) (fun v => ∃ t, v = .str (flX 2) t) := by
  have C := c_flagBA w W p hz [68, 101, 108, 101, 116, 101, 100] c l h (by decide) (by decide +kernel) hc (by decide +kernel)
  rw [show Str.ofString "\\" ++ txt [68, 101, 108, 101, 116, 101, 100] = flX 2 by decide +kernel] at C
  exact C
theorem c_fi3 (c : UInt8) (l : List UInt8) (h : AtP W p ((107 :: []) ++ c :: l)) (hc : isAt c.toNat = false) : WT w W 347 7 [] p (p + 1) (fun v => ∃ t, v = .str (flX 3) t) := by
  have C := c_flagNA w W p hz 107 [] c l h (by decide) (by decide +kernel) hc (by decide +kernel)
  rw [show Str.ofString "" ++ txt (107 :: []) = flX 3 by decide +kernel] at C
  exact C
theorem c_fi4 (c : UInt8) (l : List UInt8) (h : AtP W p (92 :: ([68, 114, 97, 102, 116] ++ c :: l))) (hc : isAt c.toNat = false) : WT w W 347 7 [] p (p + 6) (fun v => ∃ t, v = .str (flX 4) t) := by
  have C := c_flagBA w W p hz [68, 114, 97, 102, 116] c l h (by decide) (by decide +kernel) hc (by decide +kernel)
  rw [show Str.ofString "\\" ++ txt [68, 114, 97, 102, 116] = flX 4 by decide +kernel] at C
  exact C
theorem c_fl0 (h : AtP W p (flO 0)) : LT w W p W.d.size (FLGS.take 0) := by
  rw [show flO 0 = [40, 41] by decide +kernel] at h
  have hs := h.size (by decide)
  have C := c_list0 w W p hz (by rw [h.one]; rfl) (by rw [(h.off 1).one]; rfl)
  rw [show p + 1 + 1 = W.d.size from hs] at C
  exact C
theorem c_fl1 (h : AtP W p (flO 1)) : LT w W p W.d.size (FLGS.take 1) := by
  rw [show flO 1 = [40, 92, 83, 101, 101, 110, 41] by decide +kernel] at h
  have hs := h.size (by decide)
  have C := c_list w W p 0 (flP p) (flQ p) flX hz (by decide) (by rw [h.one]; rfl) rfl (by rw [(h.off 1).one]; rfl) (fun i hi => by
    match i, hi with
    | 0, _ => exact c_fi0 w W (p + 1) hz 41 _ (h.off 1) at41) (fun i hi => by
    exact absurd hi (Nat.not_lt_zero _)) (by show ((W.d.toList.drop (p + 6)).take 1 == [41]) = true; rw [(h.off 6).one]; rfl)
  rw [show flQ p 0 + 1 = W.d.size from hs] at C
  exact C
theorem c_fl2 (h : AtP W p (flO 2)) : LT w W p W.d.size (FLGS.take 2) := by
  rw [show flO 2 = [40, 92, 83, 101, 101, 110, 32, 36, 70, 111, 114, 119, 97, 114, 100, 101, 100, 41] by decide +kernel] at h
  have hs := h.size (by decide)
  have C := c_list w W p 1 (flP p) (flQ p) flX hz (by decide) (by rw [h.one]; rfl) rfl (by rw [(h.off 1).one]; rfl) (fun i hi => by
    match i, hi with
    | 0, _ => exact c_fi0 w W (p + 1) hz 32 _ (h.off 1) at32
    | 1, _ => exact c_fi1 w W (p + 7) hz 41 _ (h.off 7) at41) (fun i hi => by
    match i, hi with
    | 0, _ => exact ⟨by show ((W.d.toList.drop (p + 6)).take 1 == [41]) = false; rw [(h.off 6).one]; rfl, by show ((W.d.toList.drop (p + 6)).take 1 == [32]) = true; rw [(h.off 6).one]; rfl, rfl⟩) (by show ((W.d.toList.drop (p + 17)).take 1 == [41]) = true; rw [(h.off 17).one]; rfl)
  rw [show flQ p 1 + 1 = W.d.size from hs] at C
  exact C
theorem c_fl3 (h : AtP W p (flO 3)) : LT w W p W.d.size (FLGS.take 3) := by
  rw [show flO 3 = [40, 92, 83, 101, 101, 110, 32, 36, 70, 111, 114, 119, 97, 114, 100, 101, 100, 32, 92, 68, 101, 108, 101, 116, 101, 100, 41] by decide +kernel] at h
  have hs := h.size (by decide)
  have C := c_list w W p 2 (flP p) (flQ p) flX hz (by decide) (by rw [h.one]; rfl) rfl (by rw [(h.off 1).one]; rfl) (fun i hi => by
    match i, hi with
    | 0, _ => exact c_fi0 w W (p + 1) hz 32 _ (h.off 1) at32
    | 1, _ => exact c_fi1 w W (p + 7) hz 32 _ (h.off 7) at32
    | 2, _ => exact c_fi2 w W (p + 18) hz 41 _ (h.off 18) at41) (fun i hi => by
    match i, hi with
    | 0, _ => exact ⟨by show ((W.d.toList.drop (p + 6)).take 1 == [41]) = false; rw [(h.off 6).one]; rfl, by show ((W.d.toList.drop (p + 6)).take 1 == [32]) = true; rw [(h.off 6).one]; rfl, rfl⟩
    | 1, _ => exact ⟨by show ((W.d.toList.drop (p + 17)).take 1 == [41]) = false; rw [(h.off 17).one]; rfl, by show ((W.d.toList.drop (p + 17)).take 1 == [32]) = true; rw [(h.off 17).one]; rfl, rfl⟩) (by show ((W.d.toList.drop (p + 26)).take 1 == [41]) = true; rw [(h.off 26).one]; rfl)
  rw [show flQ p 2 + 1 = W.d.size from hs] at C
  exact C
theorem c_fl4 (h : AtP W p (flO 4)) : LT w W p W.d.size (FLGS.take 4) := by
  rw [show flO 4 = [40, 92, 83, 101, 101, 110, 32, 36, 70, 111, 114, 119, 97, 114, 100, 101, 100, 32, 92, 68, 101, 108, 101, 116, 101, 100, 32, 107, 41] by decide +kernel] at h
  have hs := h.size (by decide)
  have C := c_list w W p 3 (flP p) (flQ p) flX hz (by decide) (by rw [h.one]; rfl) rfl (by rw [(h.off 1).one]; rfl) (fun i hi => by
    match i, hi with
    | 0, _ => exact c_fi0 w W (p + 1) hz 32 _ (h.off 1) at32
    | 1, _ => exact c_fi1 w W (p + 7) hz 32 _ (h.off 7) at32
    | 2, _ => exact c_fi2 w W (p + 18) hz 32 _ (h.off 18) at32
    | 3, _ => exact c_fi3 w W (p + 27) hz 41 _ (h.off 27) at41) (fun i hi => by
    match i, hi with
    | 0, _ => exact ⟨by show ((W.d.toList.drop (p + 6)).take 1 == [41]) = false; rw [(h.off 6).one]; rfl, by show ((W.d.toList.drop (p + 6)).take 1 == [32]) = true; rw [(h.off 6).one]; rfl, rfl⟩
    | 1, _ => exact ⟨by show ((W.d.toList.drop (p + 17)).take 1 == [41]) = false; rw [(h.off 17).one]; rfl, by show ((W.d.toList.drop (p + 17)).take 1 == [32]) = true; rw [(h.off 17).one]; rfl, rfl⟩
    | 2, _ => exact ⟨by show ((W.d.toList.drop (p + 26)).take 1 == [41]) = false; rw [(h.off 26).one]; rfl, by show ((W.d.toList.drop (p + 26)).take 1 == [32]) = true; rw [(h.off 26).one]; rfl, rfl⟩) (by show ((W.d.toList.drop (p + 28)).take 1 == [41]) = true; rw [(h.off 28).one]; rfl)
  rw [show flQ p 3 + 1 = W.d.size from hs] at C
  exact C
theorem c_fl5 (h : AtP W p (flO 5)) : LT w W p W.d.size (FLGS.take 5) := by
  rw [show flO 5 = [40, 92, 83, 101, 101, 110, 32, 36, 70, 111, 114, 119, 97, 114, 100, 101, 100, 32, 92, 68, 101, 108, 101, 116, 101, 100, 32, 107, 32, 92, 68, 114, 97, 102, 116, 41] by decide +kernel] at h
  have hs := h.size (by decide)
  have C := c_list w W p 4 (flP p) (flQ p) flX hz (by decide) (by rw [h.one]; rfl) rfl (by rw [(h.off 1).one]; rfl) (fun i hi => by
    match i, hi with
    | 0, _ => exact c_fi0 w W (p + 1) hz 32 _ (h.off 1) at32
    | 1, _ => exact c_fi1 w W (p + 7) hz 32 _ (h.off 7) at32
    | 2, _ => exact c_fi2 w W (p + 18) hz 32 _ (h.off 18) at32
    | 3, _ => exact c_fi3 w W (p + 27) hz 32 _ (h.off 27) at32
    | 4, _ => exact c_fi4 w W (p + 29) hz 41 _ (h.off 29) at41) (fun i hi => by
    match i, hi with
    | 0, _ => exact ⟨by show ((W.d.toList.drop (p + 6)).take 1 == [41]) = false; rw [(h.off 6).one]; rfl, by show ((W.d.toList.drop (p + 6)).take 1 == [32]) = true; rw [(h.off 6).one]; rfl, rfl⟩
    | 1, _ => exact ⟨by show ((W.d.toList.drop (p + 17)).take 1 == [41]) = false; rw [(h.off 17).one]; rfl, by show ((W.d.toList.drop (p + 17)).take 1 == [32]) = true; rw [(h.off 17).one]; rfl, rfl⟩
    | 2, _ => exact ⟨by show ((W.d.toList.drop (p + 26)).take 1 == [41]) = false; rw [(h.off 26).one]; rfl, by show ((W.d.toList.drop (p + 26)).take 1 == [32]) = true; rw [(h.off 26).one]; rfl, rfl⟩
    | 3, _ => exact ⟨by show ((W.d.toList.drop (p + 28)).take 1 == [41]) = false; rw [(h.off 28).one]; rfl, by show ((W.d.toList.drop (p + 28)).take 1 == [32]) = true; rw [(h.off 28).one]; rfl, rfl⟩) (by show ((W.d.toList.drop (p + 35)).take 1 == [41]) = true; rw [(h.off 35).one]; rfl)
  rw [show flQ p 4 + 1 = W.d.size from hs] at C
  exact C
end
theorem c_flM (w : World) (W : Wr) (p m : Nat) (hz : W.d.size ≤ 100000) (hm : m < 6) (h : AtP W p (flO m)) : LT w W p W.d.size (FLGS.take m) := by
  have h6 : m = 0 ∨ m = 1 ∨ m = 2 ∨ m = 3 ∨ m = 4 ∨ m = 5 := by omega
  rcases h6 with rfl | rfl | rfl | rfl | rfl | rfl
  · exact c_fl0 w W p hz h
  · exact c_fl1 w W p hz h
  · exact c_fl2 w W p hz h
  · exact c_fl3 w W p hz h
  · exact c_fl4 w W p hz h
  · exact c_fl5 w W p hz h
theorem c_names (w : World) : ∀ x ∈ FLGS, ∀ t, FT w 470 3 [.str x t] (fun _ => True) (fun v => ∃ t, v = .str x t) := by
  intro x hx t
  simp only [FLGS, List.mem_cons, List.not_mem_nil, or_false] at hx
  rcases hx with rfl | rfl | rfl | rfl | rfl
  · exact c_nameS w t
  · exact c_nameF w t
  · exact c_nameD w t
  · exact c_nameK w t
  · exact c_nameR w t
theorem flgs_small : ∀ x ∈ FLGS, x.cps.size ≤ 1000 ∧ ∀ c ∈ x.cps.toList, c ≤ 127 := by
  intro x hx
  simp only [FLGS, List.mem_cons, List.not_mem_nil, or_false] at hx
  rcases hx with rfl | rfl | rfl | rfl | rfl <;> exact ⟨by decide, by decide⟩
end
section
theorem freshW26 : True := by
  w_top off
  trivial
section
variable {prog : Program} {w : World} {A : Around} {E : Value → Shared → Prop} {s : Shared} {h₀ : Heap} {L : Addr} {news n₁ n₂ : List (Addr × Obj)} {Q : Value → Shared → Prop} {va vb : Value} {d1 d2 d4 d5 : Dat} {b : Bool}
theorem reads_five (N : News h₀ L s.heap news) (H : DatIn n₁ va (.tuple [d1, d2, .bool b, d4, d5])) (sa : ∀ p ∈ n₁, p ∈ news) (k1 : kqdOk 8 d1 = true) (k2 : kqdOk 8 d2 = true) (k4 : kqdOk 8 d4 = true) (k5 : kqdOk 8 d5 = true) :
    ∃ as, Reads s.heap va (.tuple [kqdP d1, kqdP d2, .bool b, kqdP d4, kqdP d5]) as := by
  have H := H.mono sa
  cases H with
  | @tuple a vs n _ hm r =>
    cases r with | cons h1 r =>
    cases r with | cons h2 r =>
    cases r with | cons h3 r =>
    cases r with | cons h4 r =>
    cases r with | cons h5 r =>
    cases r
    cases h3
    obtain ⟨a1, q1⟩ := kqd_in N 8 h1 k1
    obtain ⟨a2, q2⟩ := kqd_in N 8 h2 k2
    obtain ⟨a4, q4⟩ := kqd_in N 8 h4 k4
    obtain ⟨a5, q5⟩ := kqd_in N 8 h5 k5
    exact ⟨_, reads_tuple_at (N.get hm) rfl rfl (ReadsAll.cons q1 (ReadsAll.cons q2 (ReadsAll.cons (Reads.bool b) (ReadsAll.cons q4 (ReadsAll.cons q5 ReadsAll.nil)))))⟩
theorem shaped_five (k1 : kqdOk 8 d1 = true) (k2 : kqdOk 8 d2 = true) (k4 : kqdOk 8 d4 = true) (k5 : kqdOk 8 d5 = true) : SeqAt.shaped (.tuple [kqdP d1, kqdP d2, .bool b, kqdP d4, kqdP d5]) = true := by
  obtain ⟨a1, b1⟩ := kqd_lay 8 d1 k1
  obtain ⟨a2, b2⟩ := kqd_lay 8 d2 k2
  obtain ⟨a4, b4⟩ := kqd_lay 8 d4 k4
  obtain ⟨a5, b5⟩ := kqd_lay 8 d5 k5
  have hc : (PyData.tuple [kqdP d1, kqdP d2, .bool b, kqdP d4, kqdP d5]).canLay0 = true := by
    simp only [PyData.canLay0, PyData.canLayAll0, a1, a2, a4, a5, Bool.true_and, Bool.and_true]
  have hdp : (PyData.tuple [kqdP d1, kqdP d2, .bool b, kqdP d4, kqdP d5]).depth ≤ 9 := by
    simp only [PyData.depth, PyData.depthAll]
    omega
  unfold SeqAt.shaped
  rw [hc, Bool.true_and]
  exact decide_eq_true (Nat.le_trans hdp (by decide))
theorem eqv_self (n : Nat) (d : Dat) (k : kqdOk n d = true) : PyData.eqv (kqdP d) (kqdP d) = true := (kqd_eqv n d d n k k).mpr rfl
theorem five_eq (N : News h₀ L s.heap news) (Ha : DatIn n₁ va (.tuple [d1, d2, .bool b, d4, d5])) (sa : ∀ p ∈ n₁, p ∈ news) (Hb : DatIn n₂ vb (.tuple [d1, d2, .bool b, d4, d5])) (sb : ∀ p ∈ n₂, p ∈ news)
    (k1 : kqdOk 8 d1 = true) (k2 : kqdOk 8 d2 = true) (k4 : kqdOk 8 d4 = true) (k5 : kqdOk 8 d5 = true) (hu : A.units + 64 < cLine) (h : Q (.bool true) s) : wpAny (model prog w) A (compareOp .Eq va vb) Q E s := by
  obtain ⟨as, ra⟩ := reads_five N Ha sa k1 k2 k4 k5
  obtain ⟨bs, rb⟩ := reads_five N Hb sb k1 k2 k4 k5
  refine eq_dataH ra rb (shaped_five k1 k2 k4 k5) (shaped_five k1 k2 k4 k5) hu ?_
  have e : PyData.eqv (.tuple [kqdP d1, kqdP d2, .bool b, kqdP d4, kqdP d5]) (.tuple [kqdP d1, kqdP d2, .bool b, kqdP d4, kqdP d5]) = true := by
    simp only [PyData.eqv, PyData.eqvAll, eqv_self 8 _ k1, eqv_self 8 _ k2, eqv_self 8 _ k4, eqv_self 8 _ k5, Bool.true_and, Bool.and_true]
    cases b <;> rfl
  rw [e]; exact h
end
theorem ok_pairs (ps : List (Nat × Nat)) : kqdOk 8 (datPairs ps) = true := by simp [kqdOk]
theorem ok_way (way : Nat) : kqdOk 8 (.str (wayS way)) = true := by
  unfold wayS
  split <;> decide +kernel
theorem ok_flags (m : Nat) : kqdOk 8 (.tuple ((FLGS.take m).map .str)) = true := by
  simp only [kqdOk, List.all_map, List.all_eq_true]
  intro x hx
  have hx := List.mem_of_mem_take hx
  simp only [FLGS, List.mem_cons, List.not_mem_nil, or_false] at hx
  rcases hx with rfl | rfl | rfl | rfl | rfl <;> decide +kernel
theorem ok_un (u : Option Nat) : kqdOk 8 (unD u) = true := by cases u <;> rfl
theorem datH_ints {h₀ h : Heap} {L D : Addr} {news : List (Addr × Obj)} {vs : List Value} {zs : List Int} {n : Nat} (N : News h₀ L h news) (hm : (D, PySem.W.listOf vs.toArray n) ∈ news) (hI : IntsAre vs zs) : DatH h (.ref D) (.list (zs.map .int)) := by
  have hd : ∀ {vs : List Value} {zs : List Int}, IntsAre vs zs → DatAll news vs (zs.map .int) := by
    intro vs zs h
    induction h with
    | nil => exact .nil
    | cons _ _ _ ih => exact .cons (.int _ _) ih
  exact DatH.of_news N (DatIn.list hm (hd hI)) fun p hp => hp
theorem datH_strs {h₀ h : Heap} {L D : Addr} {news : List (Addr × Obj)} {vs : List Value} {xs : List Str} {n : Nat} (N : News h₀ L h news) (hm : (D, PySem.W.listOf vs.toArray n) ∈ news) (hI : StrsAre vs xs) : DatH h (.ref D) (.list (xs.map .str)) :=
  DatH.of_news N (DatIn.list hm (strs_dat hI)) fun p hp => hp
theorem pick_five (a b c d e : Value) (z : Int) (h0 : 0 ≤ z) (h1 : z < 6) : slicePick #[a, b, c, d, e] none (some z) none = ([a, b, c, d, e].take z.toNat).toArray := by
  have h6 : z = 0 ∨ z = 1 ∨ z = 2 ∨ z = 3 ∨ z = 4 ∨ z = 5 := by omega
  rcases h6 with rfl | rfl | rfl | rfl | rfl | rfl <;> rfl
theorem strs_five (t1 t2 t3 t4 t5 : Tok) (m : Nat) : StrsAre ([Value.str (Str.ofString "\\Seen") t1, .str (Str.ofString "$Forwarded") t2, .str (Str.ofString "\\Deleted") t3, .str (Str.ofString "k") t4, .str (Str.ofString "\\Draft") t5].take m) (FLGS.take m) := by
  have h : FLGS = [Str.ofString "\\Seen", Str.ofString "$Forwarded", Str.ofString "\\Deleted", Str.ofString "k", Str.ofString "\\Draft"] := by decide +kernel
  rw [h]
  have key : ∀ {vs : List Value} {xs : List Str}, StrsAre vs xs → ∀ m, StrsAre (vs.take m) (xs.take m) := by
    intro vs xs h
    induction h with
    | nil => intro m; simp; exact .nil
    | cons y t r ih =>
      intro m
      cases m with
      | zero => exact .nil
      | succ m => exact .cons y t (ih m)
  exact key (.cons _ _ (.cons _ _ (.cons _ _ (.cons _ _ (.cons _ _ .nil))))) m
theorem datH_ns {h₀ h : Heap} {L D : Addr} {news : List (Addr × Obj)} {vs : List Value} {mk : Int} {n : Nat} (N : News h₀ L h news) (hm : (D, PySem.W.listOf vs.toArray n) ∈ news) (hI : IntsAre vs (bits mk ++ [20 + mk.fmod 4294967000])) :
    DatH h (.ref D) (.list ((nsOf mk).map fun n : Nat => .int (n : Int))) := by
  rw [zs_toZ] at hI
  have := datH_ints N hm hI
  rw [List.map_map] at this
  exact this
theorem datH_z {h₀ h : Heap} {L D : Addr} {news : List (Addr × Obj)} {vs : List Value} {mk : Int} {n : Nat} (N : News h₀ L h news) (hm : (D, PySem.W.listOf vs.toArray n) ∈ news) (hI : IntsAre vs (bits mk ++ [20 + mk.fmod 4294967000])) :
    DatH h (.ref D) (.list ((toZ (nsOf mk)).map .int)) := by
  rw [zs_toZ] at hI
  exact datH_ints N hm hI
theorem way_item (wy : Int) : Txt.item (Str.ofString "+-=") (wy.fmod 3) = wayS (wy.fmod 3).toNat ∧ (wy.fmod 3).toNat < 3 := by
  have h0 : 0 ≤ wy.fmod 3 := Int.fmod_nonneg_of_pos _ (by decide)
  have h1 : wy.fmod 3 < 3 := Int.fmod_lt_of_pos _ (by decide)
  have h : wy.fmod 3 = 0 ∨ wy.fmod 3 = 1 ∨ wy.fmod 3 = 2 := by omega
  refine ⟨?_, by omega⟩
  rcases h with h | h | h <;> rw [h] <;> decide +kernel
theorem way_small (way : Nat) : (wayS way).cps.size ≤ 10 ∧ ∀ c ∈ (wayS way).cps.toList, c ≤ 127 := by
  unfold wayS
  split <;> exact ⟨by decide, by decide⟩
theorem way_octs (way : Nat) : (if (wayS way == Str.ofString "=") = true then [] else (octs (wayS way)).toList) = wayO way := by
  unfold wayS wayO
  split <;> decide +kernel
theorem sil_is (sil : Bool) : ((if sil = true then fl12 else fl5) = fl5 ∨ (if sil = true then fl12 else fl5) = fl12) ∧ (txt (if sil = true then fl12 else fl5) == Str.ofString "FLAGS.SILENT") = sil := by
  cases sil
  · exact ⟨.inl rfl, by decide +kernel⟩
  · exact ⟨.inr rfl, by decide +kernel⟩
theorem un_is (wy : Int) : ∃ k : Nat, (wy.fdiv 18).fmod (10 ^ Int.toNat 18) = (k : Int) ∧ k < 10 ^ 18 := by
  have h0 : 0 ≤ (wy.fdiv 18).fmod (10 ^ Int.toNat 18) := Int.fmod_nonneg_of_pos _ (by decide)
  have h1 : (wy.fdiv 18).fmod (10 ^ Int.toNat 18) < 10 ^ Int.toNat 18 := Int.fmod_lt_of_pos _ (by decide)
  refine ⟨((wy.fdiv 18).fmod (10 ^ Int.toNat 18)).toNat, (Int.toNat_of_nonneg h0).symm, ?_⟩
  have e : (10 : Int) ^ Int.toNat 18 = ((10 ^ 18 : Nat) : Int) := by decide
  rw [e] at h1 ⊢
  rw [e] at h0
  omega
theorem flN (wy : Int) : 0 ≤ (wy.fdiv 3).fmod 6 ∧ (wy.fdiv 3).fmod 6 < 6 := ⟨Int.fmod_nonneg_of_pos _ (by decide), Int.fmod_lt_of_pos _ (by decide)⟩
theorem flO_len : ∀ m, m < 6 → (flO m).length ≤ 50 := by decide +kernel
theorem wayO_len (way : Nat) : (wayO way).length ≤ 1 := by unfold wayO; split <;> decide
theorem unO_len (u : Option Nat) (h : ∀ k, u = some k → k < 10 ^ 18) : (unO u).length ≤ 100 := by
  cases u with
  | none => decide
  | some k =>
    have := dg_len 17 k (h k rfl)
    simp only [unO, uns14, List.length_cons, List.length_append, List.length_map, List.length_nil]
    omega
theorem store_size (mk : Int) (u : Option Nat) (way m : Nat) (sil : Bool) (X : Array UInt8) (hu : ∀ k, u = some k → k < 10 ^ 18) (hm : m < 6)
    (hX : X.toList = [85, 73, 68, 32, 83, 84, 79, 82, 69] ++ (32 :: (B8 (shSet (rgOf (nsOf mk))) ++ 32 :: (unO u ++ (wayO way ++ ((if sil = true then fl12 else fl5) ++ 32 :: flO m)))))) : X.size ≤ 100000 := by
  have h1 := shSet_len (rgOf (nsOf mk)) fun p hp => by
    obtain ⟨a, b, c, d⟩ := rg_ok mk p hp
    exact ⟨a, b, by omega, by omega⟩
  have h2 := (rg_len mk).2
  have h3 := flO_len m hm
  have h4 := wayO_len way
  have h5 := unO_len u hu
  have h6 : (if sil = true then fl12 else fl5).length ≤ 12 := by cases sil <;> decide
  have := congrArg List.length hX
  simp only [Array.length_toList, List.length_append, List.length_cons, List.length_nil, List.length_map] at this
  omega
theorem flO_head : ∀ m, m < 6 → flO m = 40 :: (flO m).tail := by decide +kernel
theorem news_comm {h₀ h : Heap} {L : Addr} {a b : List (Addr × Obj)} (N : News h₀ L h (a ++ b)) : News h₀ L h (b ++ a) := fun p hp => N p (List.mem_append.mpr (List.mem_append.mp hp).symm)
end
section
theorem freshW27 : True := by
  w_top off
  trivial
theorem c_init (w : World) (x dx : Addr) (d : Array UInt8) (td tp : Tok) (p : Nat) :
    Tells w 256 1 [.ref x, .bytes d td, .int (p : Int) tp] [(x, instObj 426 dx), (dx, dictOf [] 0)] (fun _ => True) (fun v l => ∃ D', l = [(x, instObj 426 dx), (dx, D')] ∧ v = .none ∧ ∃ k1 k2, D' = wdict w ⟨x, dx, d, td, k1, k2⟩ p tp) := by
  k_dflt (refine' tells_def (binds := [(Str.ofString "self", .ref x), (Str.ofString "data", .bytes d td), (Str.ofString "at", .int (p : Int) tp)]) ?ho ?hcd ?hb ?hl ?c2 ?c3 ?c4 ?c5 ?_; (case ho => k_is); (case hcd => k_is); (case hb => (intro s X; exact binds_K X rfl (by k_is) rfl rfl rfl)); (case hl => exact locs rfl); (case c2 => exact rfl); (case c3 => exact rfl); (case c4 => exact rfl); (case c5 => decide); k_whole)
  intro mean mg mb dp un gd outer A₀ base g L ⟨sh, sg, sd, stk, so⟩ B F X N T hpre hd hu
  dsimp only at F N
  (try dsimp only)
  have hne : x ≠ dx := fun e => by
    have h1 := (N _ (.head _)).1
    have h2 := (N _ (.tail _ (.head _))).1
    dsimp only at h1 h2
    rw [e, h2] at h1
    cases h1
  k_steps
  show Done g L _ _ _ _
  exact Done.intro (by k_asm) (by k_asm) ⟨_, rfl, rfl, _, _, rfl⟩
theorem new_wire {w : World} {mean : ExcName → Option Value} {mg mb : Str → Option Value} {dp un : Nat} {gd : Option (List Code)} {cn : Str} {cs : Scope} {a : Addr} {ccd : Value} {cl : List (Str × Addr)} {outer : List Env}
    {A₀ : Around} {base h₀ : Heap} {L : Addr} {m : Str → Option Value} {s : Shared} {news : List (Addr × Obj)} {E : Value → Shared → Prop} {d : Array UInt8} {td tp : Tok} {p : Nat} {Q : Value → Shared → Prop}
    (B : Below A₀ base outer h₀) (F : Fr h₀ L s.heap m) (X : (hd.heap_39 w.params).In h₀) (N : News h₀ L s.heap news) (T : Top hd.view_39 (looseW hd.view_39 [Str.ofString "PostError"]) mean mg mb h₀) (hk : cs.kind = .function)
    (hd : dp + 10 < recursionLimit) (hu : un + 8 * 10 < cLine)
    (h : ∀ x dx k1 k2 h' tk', Fr h₀ L h' m → News h₀ L h' ((x, instObj 426 dx) :: (dx, wdict w ⟨x, dx, d, td, k1, k2⟩ p tp) :: news) → (∀ q ∈ news, q.1 < dx) → dx < x → Q (.ref x) { s with heap := h', toks := tk' }) :
    wpAny (model Challenge.rw_nz0317_01.row.prog w) (ktrTop dp un gd cn cs L a ccd cl outer) (call (.ref 426) [.bytes d td, .int (p : Int) tp]) Q E s := by
  refine call_cls (K := Mine.hd.heap_39 w.params) (fI := 256) F X N ?hm ?hi ?hf fun x dx h' F' N' l1 l2 => ?_
  case hm => k_is
  case hi => k_is
  case hf => k_is
  show codeAny _ (ktrTop (dp + 1) (un + 1) (pushGuards (Code.builtin "type.__call__" ⟨[.ref 426, .bytes d td, .int (p : Int) tp], []⟩).guards gd) cn cs L a ccd cl outer) _ _ _
  refine Tells.fill (s := { s with heap := h' }) (c_init w x dx d td tp p) B F' X N' T hk l1 l2 (by omega) (by omega) ?_
  rintro v D' h9 tk9 ⟨rfl, k1, k2, rfl⟩ F9 N9
  exact ⟨rfl, h x dx k1 k2 h9 tk9 F9 N9 l1 l2⟩
end
section
theorem freshW23 : True := by
  w_top off
  trivial
theorem ItSrc.bound {prog : Program} {w : World} {A : Around} {s : Shared} {xv : Value} {as : List Addr} {n : Nat} {P : Nat → Value → Prop} (h : ItSrc prog w A xv s as n P) : ItSrc prog w A xv s as n (fun i v => i < n ∧ P i v) :=
  fun Q E hq => h Q E fun o St fp hfp W hst => hq o St fp hfp W.bound hst
theorem intsAre_of : ∀ (vs : List Value) (zs : List Int), vs.length = zs.length → (∀ (j : Nat) v, vs[j]? = some v → ∃ t, v = .int (zs.getD j 0) t) → IntsAre vs zs
  | [], [], _, _ => .nil
  | [], _ :: _, h, _ => nomatch h
  | _ :: _, [], h, _ => nomatch h
  | v :: vs, z :: zs, h, k => by
    obtain ⟨t, rfl⟩ := k 0 v rfl
    exact .cons _ _ (intsAre_of vs zs (Nat.succ.inj h) fun j v hj => k (j + 1) v hj)
theorem c_right (w : World) (mk wy : Int) (t u : Tok) : FT w 506 12 [.int mk t, .int wy u] (fun _ => True) (fun v => v = .bool true) := by
  k_dflt (refine' tells_defC (binds := [(Str.ofString "mask", .int mk t), (Str.ofString "ways", .int wy u)]) ?ho ?hcd ?hb ?hki ?hnd ?c2 ?c3 ?c4 ?_; (case ho => k_is); (case hcd => k_is); (case hb => (intro s X; exact BindsTo.of_eq rfl)); (case hki => exact rfl); (case hnd => decide +kernel); (case c2 => exact rfl); (case c3 => exact rfl); (case c4 => exact rfl); k_whole)
  intro mean mg mb dp un gd outer A₀ base g L ⟨sh, sg, sd, stk, so⟩ cells B F X N Y l1 T hpre hd hu
  k_cells Y
  simp only [List.cons_append, List.nil_append] at N
  dsimp only at F N
  dsimp only
  k_steps
  refine comp_by (pInt (bitZ mk)) (fun v y => y = v) F ?_
  k_steps
  refine goOn ⟨_, _, _, _, by k_asm, by k_asm, (ItSrc.range (n := 14) rfl (by assumption) (by decide +kernel) (by decide +kernel)).bound, by rw [sizeLine_eq]; omega, ?_, ?_, ?_⟩
  · rintro C i v ⟨s2h, s2g, s2d, s2t, s2o⟩ m₂ E' ⟨hi, ti, rfl⟩ F2 N2 hn hm
    refine test_one ?_
    k_steps
    exact goOn ⟨rfl, keeps_rfl⟩
  · rintro C i v s₂ m₂ E' hP _ F2 N2 hn hm
    k_steps
    exact goOn ⟨rfl, keeps_same⟩
  intro D1 nnD1 vsD1 ysD1 hD1 tkD1 hlenD1 hPD1 hGD1 FD1 ND1 hneD1
  have hI1 : IntsAre ysD1 (bits mk) := ints_filter _ (intsAre_of vsD1 _ (by rw [hlenD1]; rfl) fun j v hj => by
    obtain ⟨h1, t, rfl⟩ := hPD1 j v hj
    refine ⟨t, ?_⟩
    rw [List.getD_eq_getElem?_getD, List.getElem?_map, List.getElem?_range h1]
    rfl) hGD1
  clear hGD1 hPD1
  have hl1 : ysD1.length = (bits mk).length := hI1.length
  have hl2 : (bits mk).length ≤ 14 := List.length_filter_le _ _
  k_steps
  · obtain ⟨k, hk, hk2⟩ := un_is wy
    rename Fr _ _ _ _ => F7
    rw [hk] at F7 ⊢
    rename Fr _ _ _ _ => F6
    rename News _ _ _ _ => N6
    obtain ⟨hway, hway3⟩ := way_item wy
    obtain ⟨hf0, hf1⟩ := flN wy
    obtain ⟨hsw1, hsw2⟩ := way_small (wy.fmod 3).toNat
    rw [hway] at F6 ⊢
    rw [pick_five _ _ _ _ _ _ hf0 hf1] at N6
    generalize hwayg : (wy.fmod 3).toNat = way at hway3 hsw1 hsw2 F6 ⊢
    have hm6 : ((wy.fdiv 3).fmod 6).toNat < 6 := by omega
    generalize hmg : ((wy.fdiv 3).fmod 6).toNat = mm at hm6 N6
    generalize hsil : ((wy.fdiv 2).fmod 2 == 1) = sil at F6 ⊢
    refine wpAny_call ?_
    refine' FT.call (c_store w _ _ (nsOf mk) (wayS way) _ _ (FLGS.take mm) (some k) sil (by have := ns_len mk; omega) (fun n hn => by have := ns_mem mk n hn; omega) (fun p hp => by obtain ⟨a, b, c, d⟩ := rg_ok mk p hp; exact ⟨a, b, by omega, by omega⟩) (by have := (rg_len mk).2; omega) (by rw [List.length_take]; have : FLGS.length = 5 := rfl; omega) (fun x hx => flgs_small x (List.mem_of_mem_take hx)) hsw1 hsw2 (fun j hj => by cases hj; exact hk2)) ?B1 ?F1 ?X1 ?N1 ?T1 ?hk1 ?hp1 ?d1 ?u1 ?ret1
    case B1 => k_asm
    case F1 => k_asm
    case X1 => k_asm
    case N1 => k_asm
    case T1 => k_asm
    case hk1 => exact rfl
    case hp1 => exact ⟨datH_ns N6 (by k_mem) (by assumption), datH_strs N6 (by k_mem) (strs_five _ _ _ _ _ mm)⟩
    case d1 => omega
    case u1 => omega
    intro v h' tk' hv F' N'
    (try dsimp only)
    obtain ⟨X9, tX9, rfl, hX9⟩ := hv
    rw [way_octs] at hX9
    have hsz := store_size mk (some k) way mm sil X9 (fun j hj => by cases hj; exact hk2) hm6 hX9
    have hcut : cut X9 0 9 = #[85, 73, 68, 32, 83, 84, 79, 82, 69] := by
      unfold cut
      rw [hX9]
      rfl
    k_steps
    refine' new_wire (p := 9) ?B2 ?F2 ?X2 ?N2 ?T2 ?hk2 ?d2 ?u2 ?hh2
    case B2 => k_asm
    case F2 => k_asm
    case X2 => k_asm
    case N2 => k_asm
    case T2 => k_asm
    case hk2 => exact rfl
    case d2 => omega
    case u2 => omega
    intro x9 dx9 k1 k2 h9 tk9 F9 N9 l9 l9'
    (try dsimp only)
    have hne : x9 ≠ dx9 := Ne.symm (Nat.ne_of_lt l9')
    k_lt l9
    have hfl := flO_head mm hm6
    have hAt : AtP ⟨x9, dx9, X9, tX9, k1, k2⟩ 9 (32 :: (B8 (shSet (rgOf (nsOf mk))) ++ 32 :: (unO (some k) ++ (wayO way ++ ((if sil = true then fl12 else fl5) ++ 32 :: 40 :: (flO mm).tail))))) := by
      rw [← hfl]
      show X9.toList.drop 9 = _
      rw [hX9]
      rfl
    k_steps
    · exfalso
      have h9 : ((cut X9 0 (Int.toNat 9)).toList != (#[85, 73, 68, 32, 83, 84, 79, 82, 69] : Array UInt8).toList) = true := by assumption
      rw [show Int.toNat 9 = 9 from rfl, hcut] at h9
      exact absurd h9 (by decide)
    have C := c_read_store w ⟨x9, dx9, X9, tX9, k1, k2⟩ 9 X9.size (B8 (shSet (rgOf (nsOf mk)))) (if sil = true then fl12 else fl5) (flO mm).tail (rgOf (nsOf mk)) (some k) way (FLGS.take mm) hsz hAt (b8_st _) (shSet_pos _ (rg_len mk).1) (rg_len mk).1 (by have := (rg_len mk).2; omega) (rg_ok mk) (shSet_txt _) (fun j hj => by cases hj; exact hk2) (sil_is sil).1 (by rw [List.length_take]; have : FLGS.length = 5 := rfl; omega) (fun x hx => c_names w x (List.mem_of_mem_take hx)) (fun q hq => c_flM w _ q mm hsz hm6 (by rw [hfl]; exact hq))
    rw [(sil_is sil).2] at C
    refine wpAny_call ?_
    refine' WD.call C ?B3 ?F3 ?X3 ?N3 ?T3 ?hk3 ?hx3 ?U3 ?d3 ?u3 ?ret3
    case B3 => k_asm
    case F3 => k_asm
    case X3 => k_asm
    case N3 => k_asm
    case T3 => k_asm
    case hk3 => exact rfl
    case hx3 => k_mem
    case U3 => (intro t; k_upd)
    case d3 => omega
    case u3 => omega
    clear C
    intro v2 nw2 t2 h2 tk2 hv2 F2 N2 hd2
    (try dsimp only at N2)
    (try dsimp only)
    have N3 := news_comm N2
    simp only [List.cons_append, List.nil_append] at N3
    clear N2 hd2
    k_steps
    refine wpAny_call ?_
    refine' DT.call (c_runs w _ (toZ (nsOf mk)) (by rw [List.length_map]; have := ns_len mk; omega) (fun z hz => by obtain ⟨n, hn, rfl⟩ := List.mem_map.mp hz; have := ns_mem mk n hn; omega) (runs_len mk)) ?B4 ?F4 ?X4 ?N4 ?T4 ?hk4 ?hp4 ?d4 ?u4 ?ret4
    case B4 => k_asm
    case F4 => k_asm
    case X4 => k_asm
    case N4 => k_asm
    case T4 => k_asm
    case hk4 => exact rfl
    case hp4 => exact datH_z (by k_asm) (by k_mem) (by assumption)
    case d4 => omega
    case u4 => omega
    intro v3 nw3 h3 tk3 hv3 F3 N4 hd3
    rw [runs_dat] at hv3
    (try dsimp only at N4)
    (try dsimp only)
    have N5 := news_comm N4
    simp only [List.cons_append, List.append_assoc] at N5
    clear N4 hd3
    k_steps
    rename News _ _ _ _ => N7
    refine five_eq N7 hv2 (fun p hp => ?_) (DatIn.tuple (.head _) (.cons (hv3.mono fun p hp => ?_) (.cons (.str _ _) (.cons (.bool _) (.cons (DatIn.tuple (.tail _ (.head _)) (strs_dat (strs_five _ _ _ _ _ mm))) (.cons (show DatIn _ _ (unD (some k)) from (DatIn.int _ _)) .nil)))))) (fun p hp => hp) (ok_pairs _) (ok_way _) (ok_flags _) (ok_un _) (by show un + 64 < cLine; omega) ?_
    · simp only [List.mem_cons, List.mem_append, hp, true_or, or_true]
    · simp only [List.mem_cons, List.mem_append, hp, true_or, or_true]
    k_steps
    k_extra "fdone"
    rw [beq_self_eq_true]
  · rename Fr _ _ _ _ => F6
    rename News _ _ _ _ => N6
    obtain ⟨hway, hway3⟩ := way_item wy
    obtain ⟨hf0, hf1⟩ := flN wy
    obtain ⟨hsw1, hsw2⟩ := way_small (wy.fmod 3).toNat
    rw [hway] at F6 ⊢
    rw [pick_five _ _ _ _ _ _ hf0 hf1] at N6
    generalize hwayg : (wy.fmod 3).toNat = way at hway3 hsw1 hsw2 F6 ⊢
    have hm6 : ((wy.fdiv 3).fmod 6).toNat < 6 := by omega
    generalize hmg : ((wy.fdiv 3).fmod 6).toNat = mm at hm6 N6
    generalize hsil : ((wy.fdiv 2).fmod 2 == 1) = sil at F6 ⊢
    refine wpAny_call ?_
    refine' FT.call (c_store w _ _ (nsOf mk) (wayS way) _ 0 (FLGS.take mm) none sil (by have := ns_len mk; omega) (fun n hn => by have := ns_mem mk n hn; omega) (fun p hp => by obtain ⟨a, b, c, d⟩ := rg_ok mk p hp; exact ⟨a, b, by omega, by omega⟩) (by have := (rg_len mk).2; omega) (by rw [List.length_take]; have : FLGS.length = 5 := rfl; omega) (fun x hx => flgs_small x (List.mem_of_mem_take hx)) hsw1 hsw2 (fun j hj => by cases hj)) ?B1b ?F1b ?X1b ?N1b ?T1b ?hk1b ?hp1b ?d1b ?u1b ?ret1b
    case B1b => k_asm
    case F1b => k_asm
    case X1b => k_asm
    case N1b => k_asm
    case T1b => k_asm
    case hk1b => exact rfl
    case hp1b => exact ⟨datH_ns N6 (by k_mem) (by assumption), datH_strs N6 (by k_mem) (strs_five _ _ _ _ _ mm)⟩
    case d1b => omega
    case u1b => omega
    intro v h' tk' hv F' N'
    (try dsimp only)
    obtain ⟨X9, tX9, rfl, hX9⟩ := hv
    rw [way_octs] at hX9
    have hsz := store_size mk none way mm sil X9 (fun j hj => by cases hj) hm6 hX9
    have hcut : cut X9 0 9 = #[85, 73, 68, 32, 83, 84, 79, 82, 69] := by
      unfold cut
      rw [hX9]
      rfl
    k_steps
    refine' new_wire (p := 9) ?B2b ?F2b ?X2b ?N2b ?T2b ?hk2b ?d2b ?u2b ?hh2b
    case B2b => k_asm
    case F2b => k_asm
    case X2b => k_asm
    case N2b => k_asm
    case T2b => k_asm
    case hk2b => exact rfl
    case d2b => omega
    case u2b => omega
    intro x9 dx9 k1 k2 h9 tk9 F9 N9 l9 l9'
    (try dsimp only)
    have hne : x9 ≠ dx9 := Ne.symm (Nat.ne_of_lt l9')
    k_lt l9
    have hfl := flO_head mm hm6
    have hAt : AtP ⟨x9, dx9, X9, tX9, k1, k2⟩ 9 (32 :: (B8 (shSet (rgOf (nsOf mk))) ++ 32 :: (unO none ++ (wayO way ++ ((if sil = true then fl12 else fl5) ++ 32 :: 40 :: (flO mm).tail))))) := by
      rw [← hfl]
      show X9.toList.drop 9 = _
      rw [hX9]
      rfl
    k_steps
    · exfalso
      have h9 : ((cut X9 0 (Int.toNat 9)).toList != (#[85, 73, 68, 32, 83, 84, 79, 82, 69] : Array UInt8).toList) = true := by assumption
      rw [show Int.toNat 9 = 9 from rfl, hcut] at h9
      exact absurd h9 (by decide)
    have C := c_read_store w ⟨x9, dx9, X9, tX9, k1, k2⟩ 9 X9.size (B8 (shSet (rgOf (nsOf mk)))) (if sil = true then fl12 else fl5) (flO mm).tail (rgOf (nsOf mk)) none way (FLGS.take mm) hsz hAt (b8_st _) (shSet_pos _ (rg_len mk).1) (rg_len mk).1 (by have := (rg_len mk).2; omega) (rg_ok mk) (shSet_txt _) (fun j hj => by cases hj) (sil_is sil).1 (by rw [List.length_take]; have : FLGS.length = 5 := rfl; omega) (fun x hx => c_names w x (List.mem_of_mem_take hx)) (fun q hq => c_flM w _ q mm hsz hm6 (by rw [hfl]; exact hq))
    rw [(sil_is sil).2] at C
    refine wpAny_call ?_
    refine' WD.call C ?B3b ?F3b ?X3b ?N3b ?T3b ?hk3b ?hx3b ?U3b ?d3b ?u3b ?ret3b
    case B3b => k_asm
    case F3b => k_asm
    case X3b => k_asm
    case N3b => k_asm
    case T3b => k_asm
    case hk3b => exact rfl
    case hx3b => k_mem
    case U3b => (intro t; k_upd)
    case d3b => omega
    case u3b => omega
    clear C
    intro v2 nw2 t2 h2 tk2 hv2 F2 N2 hd2
    (try dsimp only at N2)
    (try dsimp only)
    have N3 := news_comm N2
    simp only [List.cons_append, List.nil_append] at N3
    clear N2 hd2
    k_steps
    refine wpAny_call ?_
    refine' DT.call (c_runs w _ (toZ (nsOf mk)) (by rw [List.length_map]; have := ns_len mk; omega) (fun z hz => by obtain ⟨n, hn, rfl⟩ := List.mem_map.mp hz; have := ns_mem mk n hn; omega) (runs_len mk)) ?B4b ?F4b ?X4b ?N4b ?T4b ?hk4b ?hp4b ?d4b ?u4b ?ret4b
    case B4b => k_asm
    case F4b => k_asm
    case X4b => k_asm
    case N4b => k_asm
    case T4b => k_asm
    case hk4b => exact rfl
    case hp4b => exact datH_z (by k_asm) (by k_mem) (by assumption)
    case d4b => omega
    case u4b => omega
    intro v3 nw3 h3 tk3 hv3 F3 N4 hd3
    rw [runs_dat] at hv3
    (try dsimp only at N4)
    (try dsimp only)
    have N5 := news_comm N4
    simp only [List.cons_append, List.append_assoc] at N5
    clear N4 hd3
    k_steps
    rename News _ _ _ _ => N7
    refine five_eq N7 hv2 (fun p hp => ?_) (DatIn.tuple (.head _) (.cons (hv3.mono fun p hp => ?_) (.cons (.str _ _) (.cons (.bool _) (.cons (DatIn.tuple (.tail _ (.head _)) (strs_dat (strs_five _ _ _ _ _ mm))) (.cons (show DatIn _ _ (unD none) from DatIn.none) .nil)))))) (fun p hp => hp) (ok_pairs _) (ok_way _) (ok_flags _) (ok_un _) (by show un + 64 < cLine; omega) ?_
    · simp only [List.mem_cons, List.mem_append, hp, true_or, or_true]
    · simp only [List.mem_cons, List.mem_append, hp, true_or, or_true]
    k_steps
    k_extra "fdone"
    rw [beq_self_eq_true]
end
section
theorem freshW28 : True := by
  w_top off
  trivial
section
variable {prog : Program} {w : World} {A : Around} {E : Value → Shared → Prop} {s : Shared} {env : Env} {h₀ : Heap} {x : Str} {body : List Stmt} {Q : Flow → Shared → Prop} {xv : Value} {as : List Addr} {n : Nat} {P : Nat → Value → Prop} {news : List (Addr × Obj)} {m₀ : Str → Option Value} {L : Addr}
/-- a for whose turns leave all as it is -/
theorem for_still (src : ItSrc prog w A xv s as n P) (has : ∀ a ∈ as, (h₀.get? a).isSome) (F : Fr h₀ L s.heap m₀) (N : News h₀ L s.heap news)
    (turn : ∀ i v h tk own J, i < n → P i v → (∀ p ∈ own, p.1 = J) → (∀ p ∈ news, p.1 ≠ J) → Fr h₀ L h (fun y => if y = x then some v else m₀ y) → News h₀ L h (news ++ own) →
      wpAny (model prog w) A (execs body env) (ForPost h₀ L (fun m l => (∀ y, y ≠ x → m y = m₀ y) ∧ l = news) own J { s with heap := h, toks := tk } Q) E { s with heap := h, toks := tk })
    (done : ∀ (u : Str → Option Value) h tk, Fr h₀ L h (fun z => if z = x then u z else m₀ z) → News h₀ L h news → Q .next { s with heap := h, toks := tk }) (hL : env.locals = L := by rfl) :
    AtStop (wpAny (model prog w) A (pyIter xv) (fun it s₂ => LoopAtV prog w A h₀ env x body Q E it s₂) E s) :=
  for_same (fun _ l => l = news) src has F N rfl (fun i v nx h tk own J hi hP he ho hx F' N' => by subst he; exact turn i v h tk own J hi hP ho hx F' N') (fun u nx h tk he F' N' => by subst he; exact done u h tk F' N') hL
theorem still_end {own : List (Addr × Obj)} {J : Addr} {h' : Heap} {tk : Nat} {m' : Str → Option Value} (F : Fr h₀ L h' m') (N : News h₀ L h' (news ++ own)) (hI : ∀ p ∈ news, p.1 ≠ J) (hm : ∀ y, y ≠ x → m' y = m₀ y) :
    ForPost h₀ L (fun m l => (∀ y, y ≠ x → m y = m₀ y) ∧ l = news) own J s Q .next { s with heap := h', toks := tk } := for_end F N hI ⟨hm, rfl⟩
/-- an item of a list of ints, at a place in bounds from either end -/
theorem item_any {value slice : PySem.Expr} {D : Addr} {vs : List Value} {zs : List Int} {c : Nat} {j : Int} {u : Tok} {Q : Value → Shared → Prop} (N : News h₀ L s.heap news) (hm : (D, PySem.W.listOf vs.toArray c) ∈ news) (hI : IntsAre vs zs) (h1 : -(zs.length : Int) ≤ j) (h2 : j < (zs.length : Int)) (h3 : zs.length ≤ 1000)
    (h : ∀ z t, Q (.int z t) s) (hs : subscripted slice false (.ref D) (.int j u) = operate [.ref D, .int j u] (getItem (.ref D) (.int j u)) := by with_unfolding_all rfl) :
    wpAny (model prog w) A (subscriptTail value slice (.ref D) (.int j u)) Q E s := by
  have hl := N.isList hm
  have hlen := hI.length
  have hsz : (vs.toArray).size = zs.length := by simp [hlen]
  rcases Int.lt_or_le j 0 with hj | hj
  · obtain ⟨z, t, _, hv⟩ := ints_get hI (j + (zs.length : Int)).toNat (by omega)
    refine tail_any hl.typeIs slot_list_getitem.lookup (wpAny_getItem_list_neg (x := .int z t) hl hj (by rw [hsz]; omega) (by omega) ?_ (h z t)) hs
    rw [hsz]; simpa using hv
  · obtain ⟨z, t, _, hv⟩ := ints_get hI j.toNat (by omega)
    exact tail_any hl.typeIs slot_list_getitem.lookup (wpAny_getItem_list (x := .int z t) hl hj (by omega) (by simpa using hv) (h z t)) hs
end
theorem c_law (w : World) (v : Value) (zs : List Int) (hz : zs.length ≤ 63) {name' qual' : Str} {params' : Arguments} {body' : List Stmt} {scope' : Scope} {dV' kV' doc' pm' cdv' ct' oc' : Value} {an' od' : Option Addr} {osl' : Array (Option Value)}
    (ho' : (hd.heap_39 w.params).lookup 513 = some ⟨oc', od', .func (fnOf name' qual' params' body' scope' dV' kV' doc' pm' an' cdv' ct'), osl'⟩) :
    BodyIs w 12 [(Str.ofString "script", v)] (fun h => ∃ r vs, v = .ref r ∧ h.IsList r vs.toArray ∧ IntsAre vs zs) (fun v l => l = [] ∧ v = .bool true) qual' scope' body' := by
  k_dflt (refine' body_one ?ho ?h ho'; (case ho => k_is); k_whole)
  clear ho'
  intro f cdv mean mg mb dp un gd outer A₀ base g L ⟨sh, sg, sd, stk, so⟩ B F X N T hpre hd hu
  (try dsimp only at F N)
  (try dsimp only)
  obtain ⟨r, vs, rfl, hT, hI⟩ := hpre
  have hlen := hI.length
  k_steps
  · rename Fr _ _ _ _ => F6
    rename News _ _ _ _ => N6
    have hI9 : ∀ t, IntsAre [.int 77 t] [77] := fun t => .cons _ _ .nil
    refine for_still (ItSrc.upto (n := 1) rfl (by assumption) (by omega)) (fun _ h => nomatch h) F6 N6 ?_ ?_
    · rintro i _ h₁ tk₁ own J hi ⟨ti, rfl⟩ ho hx F' N'
      simp only [List.cons_append, List.nil_append] at N'
      k_steps
      refine item_any N' (by k_mem) (hI9 _) (by first | omega | (simp only [List.length_cons, List.length_nil]; omega)) (by first | omega | (simp only [List.length_cons, List.length_nil]; omega)) (by first | decide | omega) ?_
      intro z9 t9
      k_steps
      have C := fun a b t u => c_right w a b t u
      walk_at "fcall"; (try clear C); intro v h' tk' hv F' N'; (try dsimp only)
      subst hv
      k_steps
      refine still_end (by k_asm) ?_ hx (fun y hy => by simp only [if_neg hy])
      first | assumption | (rename News _ _ _ _ => N5; exact N5)
    · rintro u9 h₁ tk₁ F' N'
      k_steps
      k_extra "fdone"
  · rename Fr _ _ _ _ => F6
    rename News _ _ _ _ => N6
    refine for_still (ItSrc.upto (n := (zs.take 16).length) rfl (by assumption) (by omega)) (fun _ h => nomatch h) F6 N6 ?_ ?_
    · rintro i _ h₁ tk₁ own J hi ⟨ti, rfl⟩ ho hx F' N'
      simp only [List.cons_append, List.nil_append] at N'
      k_steps
      refine item_any N' (by k_mem) (by assumption) (by first | omega | (simp only [List.length_cons, List.length_nil]; omega)) (by first | omega | (simp only [List.length_cons, List.length_nil]; omega)) (by first | decide | omega) ?_
      intro z9 t9
      k_steps
      have C := fun a b t u => c_right w a b t u
      walk_at "fcall"; (try clear C); intro v h' tk' hv F' N'; (try dsimp only)
      subst hv
      k_steps
      refine still_end (by k_asm) ?_ hx (fun y hy => by simp only [if_neg hy])
      first | assumption | (rename News _ _ _ _ => N5; exact N5)
    · rintro u9 h₁ tk₁ F' N'
      k_steps
      k_extra "fdone"
end
section
theorem main : PySem.Challenge.rw_nz0317_01.Holds := hd (by
  k_go0
  dsimp only
  rename IntsAre _ _ => hI9
  rename News _ _ _ _ => N9
  rename Fr _ _ _ _ => F9
  rename Below _ _ _ _ => B9
  rename Frag.In _ _ => X9
  rename Top _ _ _ _ _ _ => T9
  rename Heap.IsList _ _ _ => hL9
  refine' wpAny_mono (c_law _ _ _ ?hz ?ho _ _ _ _ _ _ _ _ _ _ _ _ _ _ B9 F9 X9 N9 T9 ⟨_, _, rfl, hL9, hI9⟩ ?hd ?hu) (fun fl s' hd => ?_) (fun _ _ x => x.elim)
  case ho => k_is
  case hz => omega
  case hd => decide
  case hu => decide
  obtain ⟨m', led', h', tk', rfl, F', N', rfl, hv⟩ := hd
  cases fl with
  | ret v =>
    dsimp only at hv ⊢
    subst hv
    k_steps
    all_goals trace_state
  | next => cases hv
  | brk => cases hv
  | cont => cases hv)
end
end Mine

theorem PySem.Challenge.cw_nz0317_01_holds : PySem.Challenge.rw_nz0317_01.Holds := by
  exact Mine.main
