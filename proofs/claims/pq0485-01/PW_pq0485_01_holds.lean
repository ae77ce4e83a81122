import PyProof.Rows.All
import Wide.All
import OpenK.AllK
import Wide.FinOn
import PySem.Challenge.RW_pq0485_01
set_option compiler.extract_closed false
set_option bootstrap.genMatcherCode false
set_option hygiene false
open PySem PySem.W PyProof.Rows
set_option Elab.async false
set_option maxRecDepth 100000
set_option maxHeartbeats 8000000
set_option linter.unusedSimpArgs false
set_option linter.unusedVariables false
namespace Mine
def q0 : String := "q"
theorem q1 : q0 = q0 := rfl
name_quick tw6907747680420023104 for q0 by q1
name_quick tw8725556140233255809 for q0 by q1
name_quick tw1523951592034530338 for q0 by q1
name_quick tw9594665118957945026 for q0 by q1
name_quick tw13559156169165276386 for q0 by q1
name_quick tw17000458434675057986 for q0 by q1
name_quick tw17863021456227041891 for q0 by q1
name_quick tw136631920214876835 for q0 by q1
name_quick tw505943868828395459 for q0 by q1
name_quick tw17274371674624000324 for q0 by q1
name_quick tw15278061642289888581 for q0 by q1
name_quick tw7615264395923872581 for q0 by q1
name_quick tw11108263761283441063 for q0 by q1
name_quick tw15900120412870309639 for q0 by q1
name_quick tw10346894026039390216 for q0 by q1
name_quick tw5882768191206486792 for q0 by q1
name_quick tw16697116713213952808 for q0 by q1
name_quick tw17111948838632640456 for q0 by q1
name_quick tw18101931140130867144 for q0 by q1
name_quick tw3039592710220408265 for q0 by q1
name_quick tw12172078356533094185 for q0 by q1
name_quick tw12611609854453135530 for q0 by q1
name_quick tw13480552361792772618 for q0 by q1
name_quick tw15263041282635125899 for q0 by q1
name_quick tw16966814322356759819 for q0 by q1
name_quick tw6147512888328947467 for q0 by q1
name_quick tw14979626087600564940 for q0 by q1
name_quick tw4640097943517422316 for q0 by q1
name_quick tw8642067239939848140 for q0 by q1
name_quick tw1617757218408452269 for q0 by q1
name_quick tw15766043655864335149 for q0 by q1
name_quick tw13180171748994924942 for q0 by q1
name_quick tw16415621359673392558 for q0 by q1
name_quick tw11566699232636054958 for q0 by q1
name_quick tw9458956999447867950 for q0 by q1
name_quick tw15823609455315575823 for q0 by q1
name_quick tw15883128290750243503 for q0 by q1
name_quick tw15560500314895047343 for q0 by q1
name_quick tw6811704253286101967 for q0 by q1
name_quick tw9759809726879904816 for q0 by q1
name_quick tw3916196269025109296 for q0 by q1
name_quick tw3698559305507148144 for q0 by q1
name_quick tw6035434395606221488 for q0 by q1
name_quick tw7009043117176579089 for q0 by q1
name_quick tw8075568018651887793 for q0 by q1
name_quick tw17434858337260393937 for q0 by q1
name_quick tw7496433998918960881 for q0 by q1
name_quick tw11863081143760314161 for q0 by q1
name_quick tw17057272898397164401 for q0 by q1
name_quick tw16349216596472256690 for q0 by q1
name_quick tw6662432510661729299 for q0 by q1
name_quick tw14112274594779413971 for q0 by q1
name_quick tw5732905514179830355 for q0 by q1
name_quick tw4075660801711882420 for q0 by q1
name_quick tw11636919720809706868 for q0 by q1
name_quick tw6363645014702824404 for q0 by q1
name_quick tw11964429278604863157 for q0 by q1
name_quick tw10064045618751647445 for q0 by q1
name_quick tw17954471519018878134 for q0 by q1
name_quick tw12635813782599140982 for q0 by q1
name_quick tw15663404670287596823 for q0 by q1
name_quick tw6004533443673955352 for q0 by q1
name_quick tw17988542015724977305 for q0 by q1
name_quick tw9407582987413476825 for q0 by q1
name_quick tw8098380416015320538 for q0 by q1
name_quick tw14896874001708588922 for q0 by q1
name_quick tw3577408171920636059 for q0 by q1
name_quick tw13215998728584607739 for q0 by q1
name_quick tw6817277305950994716 for q0 by q1
name_quick tw17476080006546285661 for q0 by q1
name_quick tw5529568453561195837 for q0 by q1
name_quick tw3636048126100218174 for q0 by q1
name_quick tw7955060689067889023 for q0 by q1
name_quick tw3093977132361051618 for q0 by q1
name_quick tw4011157648589011858 for q0 by q1
name_quick tw3424931102881643321 for q0 by q1
name_quick tw6434138532213402376 for q0 by q1
name_quick tw8424611434330503625 for q0 by q1
name_quick tw9467589175468403638 for q0 by q1
name_quick tw5189142188285759775 for q0 by q1
name_quick tw7250012664060256230 for q0 by q1
name_quick tw10938465397075749097 for q0 by q1
name_quick tw11939915149646268982 for q0 by q1
name_quick tw9951705424602377420 for q0 by q1
name_quick tw1218959903707654005 for q0 by q1
name_quick tw16846860572762119324 for q0 by q1
name_quick tw13759679279233594173 for q0 by q1
name_quick tw17532440430192770315 for q0 by q1
name_quick tw14834023430324568649 for q0 by q1
name_quick tw7365555872484859036 for q0 by q1
name_quick tw6380047634161181297 for q0 by q1
name_quick tw13016732220969518872 for q0 by q1
name_quick tw10996506086634736982 for q0 by q1
name_quick tw14714103240675001986 for q0 by q1
name_quick tw6059929106960060952 for q0 by q1
name_quick tw4434333111790514575 for q0 by q1
name_quick tw8703263022893421829 for q0 by q1
name_quick tw1355338860687761863 for q0 by q1
name_quick tw392140993173905013 for q0 by q1
name_quick tw5396446701170858492 for q0 by q1
name_quick tw16350708796919097252 for q0 by q1
name_quick tw13678640442995254988 for q0 by q1
name_quick tw18260038339965228139 for q0 by q1
name_quick tw13607416678640721797 for q0 by q1
name_quick tw4797165386629745026 for q0 by q1
name_quick tw1537898542681612871 for q0 by q1
name_quick tw18340240734955500558 for q0 by q1
name_quick tw17730428716208468724 for q0 by q1
name_quick tw10887116778572429059 for q0 by q1
name_quick tw14386061602966655976 for q0 by q1
name_quick tw15894407043143930727 for q0 by q1
name_quick tw3131671291697673992 for q0 by q1
name_quick tw4549333791460862111 for q0 by q1
name_quick tw3778451253796500701 for q0 by q1
name_quick tw4407734736301137906 for q0 by q1
name_quick tw15323854079317868165 for q0 by q1
name_quick tw8537084889766193716 for q0 by q1
name_quick tw1184552218554016812 for q0 by q1
name_quick tw1291980286583624508 for q0 by q1
name_quick tw10424941004445345732 for q0 by q1
name_quick tw8119918657739134586 for q0 by q1
name_quick tw4090926877573551719 for q0 by q1
name_quick tw6929956602132211858 for q0 by q1
name_quick tw16049961110935095269 for q0 by q1
name_quick tw1414301608579184545 for q0 by q1
name_quick tw17001327861769816259 for q0 by q1
name_quick tw16916688483869632129 for q0 by q1
name_quick tw3766158894648301139 for q0 by q1
name_quick tw5721027456603625697 for q0 by q1
name_quick tw11270796479367742343 for q0 by q1
name_quick tw13036272033356848781 for q0 by q1
name_quick tw7392212959928792091 for q0 by q1
name_quick tw12866136484021002089 for q0 by q1
name_quick tw2611137233208623240 for q0 by q1
name_quick tw9529234661008812162 for q0 by q1
name_quick tw8708707556590381134 for q0 by q1
name_quick tw16817318245366136608 for q0 by q1
name_quick tw9948023125614773506 for q0 by q1
name_quick tw16349804527192203551 for q0 by q1
name_quick tw16241802466949684156 for q0 by q1
name_quick tw1333364371103165705 for q0 by q1
name_quick tw12329403913580668285 for q0 by q1
name_quick tw2408619945344806742 for q0 by q1
name_quick tw1962928258387122110 for q0 by q1
name_quick tw470574548607681690 for q0 by q1
name_quick tw4978915544186085027 for q0 by q1
name_quick tw8719427161674164953 for q0 by q1
name_quick tw8603108125212654177 for q0 by q1
name_quick tw12734952128020822468 for q0 by q1
name_quick tw17532718790514356516 for q0 by q1
name_quick tw2627984346626558326 for q0 by q1
name_quick tw17069979004554194336 for q0 by q1
name_quick tw3764465048917985505 for q0 by q1
name_quick tw11462045893675790159 for q0 by q1
name_quick tw1702518465993881591 for q0 by q1
name_quick tw5032809538720368765 for q0 by q1
name_quick tw5357591511691535388 for q0 by q1
name_quick tw5345256250457102556 for q0 by q1
name_quick tw10227693086864044499 for q0 by q1
name_quick tw13335737130258781183 for q0 by q1
name_quick tw17517737089405305841 for q0 by q1
name_quick tw2711585505577850959 for q0 by q1
name_quick tw15980859228951719591 for q0 by q1
name_quick tw6550987210724342151 for q0 by q1
name_quick tw11625766737575182897 for q0 by q1
name_quick tw13615603153576403970 for q0 by q1
name_quick tw8693227569615203950 for q0 by q1
name_quick tw9800571698397750058 for q0 by q1
name_quick tw13640514254501968386 for q0 by q1
name_quick tw8579058602437062094 for q0 by q1
name_quick tw3362959441861295915 for q0 by q1
name_quick tw3972328310683599613 for q0 by q1
name_quick tw6019396324639902685 for q0 by q1
name_quick tw10919533547850550483 for q0 by q1
name_quick tw14108194823987119177 for q0 by q1
name_quick tw14311459727803291754 for q0 by q1
name_quick tw912392155897948271 for q0 by q1
name_quick tw15112985482279097393 for q0 by q1
name_quick tw7299303143086499733 for q0 by q1
name_quick tw7581352650102555174 for q0 by q1
name_quick tw13981391230805400906 for q0 by q1
name_quick tw8017206721242287953 for q0 by q1
name_quick tw14433975572909055671 for q0 by q1
name_quick tw1749818173716722547 for q0 by q1
name_quick tw3891137856419664920 for q0 by q1
name_quick tw2283851925072248500 for q0 by q1
name_quick tw3442601649717412197 for q0 by q1
name_quick tw1156252341971683116 for q0 by q1
name_quick tw10073347824450446311 for q0 by q1
name_quick tw1258299570235058372 for q0 by q1
name_quick tw13912434898499826684 for q0 by q1
name_quick tw1503297043503765363 for q0 by q1
name_quick tw43969757491396457 for q0 by q1
name_quick tw11445135464325071761 for q0 by q1
name_quick tw5268983451555188008 for q0 by q1
name_quick tw11985326045990495214 for q0 by q1
name_quick tw16176465441171805009 for q0 by q1
name_quick tw14821650378409806113 for q0 by q1
name_quick tw3152983702415266003 for q0 by q1
name_quick tw2422670821966735624 for q0 by q1
name_quick tw282004115355043989 for q0 by q1
name_quick tw2862820112641550484 for q0 by q1
name_quick tw932993149863042379 for q0 by q1
name_quick tw16531745337717519161 for q0 by q1
name_quick tw7232422423428716515 for q0 by q1
name_quick tw1829445100760108279 for q0 by q1
name_quick tw17730448691065144110 for q0 by q1
name_quick tw16593013826814733010 for q0 by q1
name_quick tw2334299552400917057 for q0 by q1
name_quick tw900395245841561262 for q0 by q1
name_quick tw16752143609539240740 for q0 by q1
name_quick tw9979284746773624096 for q0 by q1
name_quick tw8595292554425487202 for q0 by q1
name_quick tw18350330562280901221 for q0 by q1
name_quick tw14126943448341045398 for q0 by q1
name_quick tw16741492637210864865 for q0 by q1
name_quick tw14224011070414065920 for q0 by q1
name_quick tw9763268239775435451 for q0 by q1
name_quick tw15480198773659482676 for q0 by q1
name_quick tw13317431791736044220 for q0 by q1
name_quick tw13900631225919944168 for q0 by q1
name_quick tw3264259588550801142 for q0 by q1
name_quick tw2460228577881660442 for q0 by q1
name_quick tw3820604794100220378 for q0 by q1
name_quick tw9862997608875712007 for q0 by q1
name_quick tw6654550962395885724 for q0 by q1
name_quick tw8860024209350480642 for q0 by q1
name_quick tw2905824091091238844 for q0 by q1
name_quick tw662354867322794072 for q0 by q1
name_quick tw8727135674562949291 for q0 by q1
name_quick tw16643706677886111943 for q0 by q1
name_quick tw17164873540382356111 for q0 by q1
name_quick tw5200128776193632040 for q0 by q1
name_quick tw3560238982266916124 for q0 by q1
name_quick tw6679490504615227074 for q0 by q1
name_quick tw18056578402003937789 for q0 by q1
name_quick tw6792406925840432001 for q0 by q1
name_quick tw5902227825499142635 for q0 by q1
name_quick tw387338674003428930 for q0 by q1
name_quick tw8376441433122354887 for q0 by q1
name_quick tw16374537267813192141 for q0 by q1
name_quick tw14530364306720264245 for q0 by q1
name_quick tw9787463984185863102 for q0 by q1
name_quick tw5076957145309523181 for q0 by q1
name_quick tw951843321253372498 for q0 by q1
name_quick tw17828083071136270317 for q0 by q1
name_quick tw1772237422875290029 for q0 by q1
name_quick tw11452132507678324671 for q0 by q1
name_quick tw14553827428707814869 for q0 by q1
name_quick tw4748654258956052638 for q0 by q1
name_quick tw15423634916342008072 for q0 by q1
name_quick tw4039474712603431140 for q0 by q1
name_quick tw16018607276475445134 for q0 by q1
name_quick tw5706481520468235054 for q0 by q1
name_quick tw15490439104401381959 for q0 by q1
name_quick tw17552769576498331613 for q0 by q1
name_quick tw9315938663221665524 for q0 by q1
name_quick tw7276740287692124622 for q0 by q1
name_quick tw17888162413812561239 for q0 by q1
name_quick tw3094477031063562474 for q0 by q1
name_quick tw3976722010076183465 for q0 by q1
name_quick tw16643379632663270332 for q0 by q1
name_quick tw13789449189825218787 for q0 by q1
name_quick tw8796240567053077481 for q0 by q1
name_quick tw1092655722715705105 for q0 by q1
name_quick tw4552823106982906706 for q0 by q1
name_quick tw13141144453892091621 for q0 by q1
name_quick tw15168306246750427876 for q0 by q1
name_quick tw3856783459128436802 for q0 by q1
name_quick tw18220123701641295943 for q0 by q1
name_quick tw7323676302269181137 for q0 by q1
name_quick tw7397068168572129948 for q0 by q1
name_quick tw11161088081135249708 for q0 by q1
name_quick tw8032284361305108907 for q0 by q1
name_quick tw16947794391021106201 for q0 by q1
name_quick tw11729385059970357855 for q0 by q1
name_quick tw6711915476519705758 for q0 by q1
name_quick tw2039238271031011813 for q0 by q1
name_quick tw17975652961387846372 for q0 by q1
name_quick tw7269565832213808900 for q0 by q1
name_quick tw4558998842232669794 for q0 by q1
name_quick tw12832477231654346042 for q0 by q1
name_quick tw7275051467321613617 for q0 by q1
name_quick tw17672482021469178181 for q0 by q1
name_quick tw13236226663087606529 for q0 by q1
name_quick tw7035115661146626270 for q0 by q1
name_quick tw12659028871203227004 for q0 by q1
name_quick tw151948405760981731 for q0 by q1
name_quick tw5349121933718820234 for q0 by q1
name_quick tw8753696776887207221 for q0 by q1
name_quick tw11788150170368784547 for q0 by q1
name_quick tw9501820088010722379 for q0 by q1
name_quick tw16979880578912567463 for q0 by q1
name_quick tw1706496860858754268 for q0 by q1
name_quick tw4527066259768149269 for q0 by q1
name_quick tw14023627001141898710 for q0 by q1
name_quick tw10010936943081839664 for q0 by q1
name_quick tw2447775223705975068 for q0 by q1
name_quick tw15742981410569661332 for q0 by q1
name_quick tw10833955939284561965 for q0 by q1
name_quick tw704327219915372674 for q0 by q1
name_quick tw9151444980202551346 for q0 by q1
name_quick tw6122645084068987007 for q0 by q1
name_quick tw721709456127091705 for q0 by q1
name_quick tw17964007177503468958 for q0 by q1
name_quick tw183835017167291270 for q0 by q1
name_quick tw9564595351457756722 for q0 by q1
name_quick tw11420187438672877268 for q0 by q1
name_quick tw14884601019740666482 for q0 by q1
name_quick tw9011979029575296479 for q0 by q1
name_quick tw7198390536060210744 for q0 by q1
name_quick tw14223099787259518943 for q0 by q1
name_quick tw11543547407058413889 for q0 by q1
name_quick tw10948738476641704880 for q0 by q1
name_quick tw10470071008263537045 for q0 by q1
name_quick tw2719445374943340272 for q0 by q1
name_quick tw9908251947323293946 for q0 by q1
name_quick tw14333388528381170442 for q0 by q1
name_quick tw3105397867545767578 for q0 by q1
name_quick tw11333186260410459676 for q0 by q1
name_quick tw12813236842856870187 for q0 by q1
name_quick tw12392613427281201732 for q0 by q1
name_quick tw12233582284571471492 for q0 by q1
name_quick tw5978237884098788730 for q0 by q1
name_quick tw15066959818950650227 for q0 by q1
name_quick tw12835720964997663042 for q0 by q1
name_quick tw7650934615059315214 for q0 by q1
name_quick tw1258717718454355964 for q0 by q1
name_quick tw7401281599722004195 for q0 by q1
name_quick tw4658958612460137192 for q0 by q1
name_quick tw17018628822417861297 for q0 by q1
name_quick tw12177639751122801600 for q0 by q1
name_quick tw17846936440860909165 for q0 by q1
name_quick tw15475462885187679331 for q0 by q1
name_quick tw2478078296215019888 for q0 by q1
name_quick tw17000155066101142889 for q0 by q1
name_quick tw18211773271919218964 for q0 by q1
name_quick tw11277716924127702174 for q0 by q1
name_quick tw4292500188555128830 for q0 by q1
name_quick tw8206430501311747189 for q0 by q1
name_quick tw6245536207120538393 for q0 by q1
name_quick tw15919542637913265678 for q0 by q1
name_quick tw11306939235166856333 for q0 by q1
name_quick tw3282434896037501709 for q0 by q1
name_quick tw16145008321745377990 for q0 by q1
name_quick tw1377046205977697930 for q0 by q1
name_quick tw17279654841073493023 for q0 by q1
name_quick tw9931943479562821362 for q0 by q1
name_quick tw878741703135273975 for q0 by q1
name_quick tw10317580896714288900 for q0 by q1
name_quick tw16548257151911338427 for q0 by q1
name_quick tw6589095468515690095 for q0 by q1
name_quick tw2660918139993853925 for q0 by q1
name_quick tw10007627690174824804 for q0 by q1
name_quick tw12825359941727978080 for q0 by q1
name_quick tw9285146279643344392 for q0 by q1
name_quick tw460243522976405022 for q0 by q1
name_quick tw17497748084772794779 for q0 by q1
name_quick tw4319705520415482375 for q0 by q1
name_quick tw11588390666370768167 for q0 by q1
name_quick tw11853533878840232495 for q0 by q1
name_quick tw3619232141914619222 for q0 by q1
name_quick tw6683783046931543321 for q0 by q1
name_quick tw8400853705098224536 for q0 by q1
name_quick tw14168537005229113720 for q0 by q1
name_quick tw15007238320947547705 for q0 by q1
name_quick tw18345786424863182364 for q0 by q1
name_quick tw347637069881736656 for q0 by q1
name_quick tw4302124980754421698 for q0 by q1
name_quick tw11013792430000457035 for q0 by q1
name_quick tw10314498396905981064 for q0 by q1
name_quick tw14326252917377295143 for q0 by q1
name_quick tw10323183001455561277 for q0 by q1
name_quick tw17100903815162463580 for q0 by q1
name_quick tw4933834842325187142 for q0 by q1
name_quick tw10706342367453228570 for q0 by q1
name_quick tw4980102563643897964 for q0 by q1
name_quick tw7299951869573292228 for q0 by q1
name_quick tw12850107946570832962 for q0 by q1
name_quick tw7745614565497352828 for q0 by q1
name_quick tw117213463901210413 for q0 by q1
name_quick tw5600631692406592102 for q0 by q1
open_top hd for PySem.Challenge.rw_pq0485_01

/-- the head above leaves the walk in the mode of a top; what follows walks as below a caller -/
theorem walkOff : True := by w_top off; trivial

noncomputable abbrev Led := List (Addr × Obj)

noncomputable abbrev Ar (dp un : Nat) (gd : Option (List Code)) (env : Env) (outer : List Env) : Around :=
  { handled := none, depth := dp, frames := some (env :: outer), guards := gd, units := un }

/-- a contract of a def: what stands ahead (M, and R that stays), what comes back -/
noncomputable def Ct (w : World) (f : Addr) (args : List Value) (need : Nat) (M R : Led) (Post : Value → Led → Led → Prop) : Prop :=
  ∀ (dp un : Nat) (gd : Option (List Code)) (A₀ : Around) (base h₀ : Heap) (outer : List Env) (env : Env) (L : Addr) (m : Str → Option Value) (s : Shared)
    (p : Program) (loose : List Str) (mean : ExcName → Option Value) (mg mb : Str → Option Value) (Q : Result → Shared → Prop),
    Below A₀ base outer h₀ → Fr h₀ L s.heap m → (hd.heap_39 w.params).In h₀ → News h₀ L s.heap (M ++ R) → Top p loose mean mg mb h₀ →
    env.frame = some L → env.scope.kind = .function → dp + need < recursionLimit → un + 8 * need < cLine →
    (∀ r M' tl h' tk', Fr h₀ L h' m → News h₀ L h' (M' ++ (tl ++ R)) → (∀ q ∈ M ++ R, ∀ p ∈ tl, q.1 < p.1) → Post r M' tl →
      Q (.ok (.ret r)) { s with heap := h', toks := tk' }) →
    codeAny (model PySem.Challenge.rw_pq0485_01.row.prog w) (Ar dp un gd env outer) (.call (.ref f) ⟨args, []⟩) Q s

/-- ledgers within ledgers, by small terms -/
theorem sub_nil {B : Led} : ∀ p ∈ ([] : Led), p ∈ B := fun _ h => nomatch h
theorem sub_same {A : Led} : ∀ p ∈ A, p ∈ A := fun _ h => h
theorem sub_cons {e : Addr × Obj} {A B : Led} (h : e ∈ B) (t : ∀ p ∈ A, p ∈ B) : ∀ p ∈ e :: A, p ∈ B := List.forall_mem_cons.mpr ⟨h, t⟩
theorem sub_app {A₁ A₂ B : Led} (h : ∀ p ∈ A₁, p ∈ B) (t : ∀ p ∈ A₂, p ∈ B) : ∀ p ∈ A₁ ++ A₂, p ∈ B := fun p hp => (List.mem_append.mp hp).elim (h p) (t p)
theorem sub_tail {e : Addr × Obj} {A B : Led} (h : ∀ p ∈ A, p ∈ B) : ∀ p ∈ A, p ∈ e :: B := fun p hp => .tail _ (h p hp)
theorem sub_left {A B₁ B₂ : Led} (h : ∀ p ∈ A, p ∈ B₁) : ∀ p ∈ A, p ∈ B₁ ++ B₂ := fun p hp => List.mem_append_left _ (h p hp)
theorem sub_right {A B₁ B₂ : Led} (h : ∀ p ∈ A, p ∈ B₂) : ∀ p ∈ A, p ∈ B₁ ++ B₂ := fun p hp => List.mem_append_right _ (h p hp)
theorem sub_trans {A B C : Led} (h : ∀ p ∈ A, p ∈ B) (k : ∀ p ∈ B, p ∈ C) : ∀ p ∈ A, p ∈ C := fun p hp => k p (h p hp)
/-- what follows a call that gives a value and leaves nothing -/
theorem out0 {h₀ : Heap} {L : Addr} {m : Str → Option Value} {R : Led} {W : Led → Prop} {v : Value} {G : Value → Heap → Nat → Prop} (k : ∀ h' tk', Fr h₀ L h' m → News h₀ L h' R → G v h' tk') :
    ∀ r M' tl h' tk', Fr h₀ L h' m → News h₀ L h' (M' ++ (tl ++ R)) → W tl → (r = v ∧ M' = [] ∧ tl = []) → G r h' tk' := by
  rintro _ _ _ h' tk' F N _ ⟨rfl, rfl, rfl⟩
  exact k h' tk' F N
/-- a case shown once for a word that names its letters -/
theorem cps {G : Prop} (T : Prop → Prop) (k : T G) (h : T G → G) : G := h k
/-- room for a call within a call -/
theorem room1 {dp a b : Nat} (h : dp + a < recursionLimit) (hb : 1 + b ≤ a) : dp + 1 + b < recursionLimit := Nat.lt_of_le_of_lt (Nat.add_assoc dp 1 b ▸ Nat.add_le_add_left hb dp) h
theorem room2 {un a b : Nat} (h : un + 8 * a < cLine) (hb : 1 + b ≤ a) : un + 3 + 8 * b < cLine :=
  Nat.lt_of_le_of_lt (Nat.add_assoc un 3 (8 * b) ▸ Nat.add_le_add_left (Nat.le_trans (Nat.add_le_add_right (by decide : 3 ≤ 8 * 1) (8 * b)) (Nat.mul_add 8 1 b ▸ Nat.mul_le_mul_left 8 hb)) un) h
theorem all_led {P : Addr × Obj → Prop} {a b : Led} (h : ∀ p ∈ a, P p) (h' : ∀ p ∈ b, P p) : ∀ p ∈ a ++ b, P p := fun p hp => (List.mem_append.mp hp).elim (h p) (h' p)
theorem lt_room {a b c : Nat} (h : a + b < c) : a < c := Nat.lt_of_le_of_lt (Nat.le_add_right a b) h
theorem le_k {a b X : Nat} (h : a ≤ b) : a ≤ X + b := Nat.le_trans h (Nat.le_add_left b X)
theorem le_x {a b X : Nat} (h : 1 + a ≤ b) : 1 + (X + a) ≤ X + b := Nat.add_left_comm X 1 a ▸ Nat.add_le_add_left h X
theorem le_n {a b X n : Nat} (h : X + b ≤ n) (hb : a ≤ b) : a ≤ n := Nat.le_trans (le_k hb) h
theorem le_m {a q n : Nat} (h : q + (a + 1) ≤ n) : 1 + (q + a) ≤ n := Nat.add_comm (q + a) 1 ▸ h
theorem room3 {un k b c : Nat} (h : un + 8 * k < c) (hb : 3 + b ≤ 8 * k) : un + 3 + b < c := Nat.lt_of_le_of_lt (Nat.add_assoc un 3 b ▸ Nat.add_le_add_left hb un) h
theorem room4 {un X k b c : Nat} (h : un + 8 * (X + k) < c) (hb : 3 + b ≤ 8 * k) : un + 3 + b < c := room3 h (Nat.le_trans hb (Nat.mul_le_mul_left 8 (Nat.le_add_left k X)))
theorem mil_eq {a b : Nat} (h : a = b) (h' : b < 1000) : a < 1000000 := h ▸ Nat.lt_trans h' (by decide)
theorem le_pred {X k n : Nat} (h : X + (k + 1) ≤ n) : 1 + (n - 1) ≤ n := Nat.add_comm (n - 1) 1 ▸ Nat.le_of_eq (Nat.sub_add_cancel (Nat.le_trans (Nat.le_add_left 1 (X + k)) h))
theorem le_nx {X a b n : Nat} (h : X + b ≤ n) (hb : 1 + a ≤ b) : 1 + (X + a) ≤ n := Nat.le_trans (le_x hb) h
theorem room5 {un n X k b c : Nat} (h : un + 8 * n < c) (hn : X + k ≤ n) (hb : 3 + b ≤ 8 * k) : un + 3 + b < c := room3 h (Nat.le_trans hb (Nat.mul_le_mul_left 8 (Nat.le_trans (Nat.le_add_left k X) hn)))
theorem add_mid {i k n : Nat} (h : i + (k + 1) = n) : i + 1 + k = n := (Nat.add_right_comm i 1 k).trans h
theorem le_w {t X k : Nat} (h : t ≤ X) : 1 + (t + k) ≤ 1 + X + k := Nat.add_assoc 1 X k ▸ Nat.add_le_add_left (Nat.add_le_add_right h k) 1
theorem le_y {t H k a b : Nat} (h : t + a ≤ H) (hk : 1 + k ≤ a + b) : 1 + (t + k) ≤ H + b := Nat.le_trans (le_x hk) (Nat.add_assoc t a b ▸ Nat.add_le_add_right h b)
theorem le_z {t H k a b : Nat} (h : t + a ≤ H) (hk : k ≤ a + b) : t + k ≤ H + b := Nat.le_trans (Nat.add_le_add_left hk t) (Nat.add_assoc t a b ▸ Nat.add_le_add_right h b)
theorem le_swap {a b c : Nat} (h : a + b ≤ c) : b + a ≤ c := Nat.add_comm a b ▸ h
theorem le_ht {i H n k : Nat} (h : k + 1 + H ≤ n + 1) (hi : i ≤ H) : i ≤ n := Nat.le_trans hi (Nat.le_trans (Nat.le_add_left H k) (Nat.le_of_succ_le_succ (Nat.le_trans (Nat.le_of_eq (Nat.add_right_comm k H 1)) h)))
theorem le_mul8 {un c c' k : Nat} (hu : un + 8 * c' < k) (h : c ≤ c') : un + 8 * c < k := Nat.lt_of_le_of_lt (Nat.add_le_add_left (Nat.mul_le_mul_left 8 h) un) hu
theorem le_dp {dp c c' k : Nat} (hu : dp + c' < k) (h : c ≤ c') : dp + c < k := Nat.lt_of_le_of_lt (Nat.add_le_add_left h dp) hu
theorem mil_add {a b s t : Nat} (h : s + t ≤ 1000) (ha : a ≤ s) (hb : b ≤ t) : a + b < 1000000 := Nat.lt_of_le_of_lt (Nat.le_trans (Nat.add_le_add ha hb) h) (by decide)
theorem mil_add1 {a b s t : Nat} (h : s + t ≤ 1000) (ha : a ≤ s) (hb : b ≤ t) : 1 + (a + b) < 1000000 := Nat.lt_of_le_of_lt (Nat.add_le_add_left (Nat.le_trans (Nat.add_le_add ha hb) h) 1) (by decide)
/-- a frame by a name of its own -/
noncomputable def FrameIs (m mm : PySem.Str → Option Value) : Prop := ∀ x v, m x = some v → mm x = some v
theorem frame_name {h₀ h : Heap} {L : Addr} {m : PySem.Str → Option Value} {G : Prop} (F : Fr h₀ L h m) (k : ∀ mm, Fr h₀ L h mm → FrameIs m mm → G) : G := k m F fun _ _ e => e
theorem all_cons {P : Addr × Obj → Prop} {e : Addr × Obj} {l : Led} (h : P e) (t : ∀ q ∈ l, P q) : ∀ q ∈ e :: l, P q := List.forall_mem_cons.mpr ⟨h, t⟩
theorem all_nil {P : Addr × Obj → Prop} : ∀ q ∈ ([] : Led), P q := fun _ h => nomatch h
theorem all_eq {P : Addr × Obj → Prop} {A B : Led} (e : A = B) (h : ∀ q ∈ B, P q) : ∀ q ∈ A, P q := e ▸ h
theorem ar_ht5 {H : Nat} : 1 + (1 + H) + 5 ≤ 6 + H + 5 := Nat.add_le_add_right (Nat.le_trans (Nat.le_of_eq (Nat.add_assoc 1 1 H).symm) (Nat.add_le_add_right (by decide) H)) 5
theorem ar_ht6 {a H : Nat} (h : a ≤ H) : a + 6 ≤ 6 + H := Nat.le_trans (Nat.add_le_add_right h 6) (Nat.le_of_eq (Nat.add_comm H 6))
theorem ar_pos {a i n : Nat} (h2 : a + 1 = i) (h1 : i + 0 = n) : 0 < n := h1 ▸ h2 ▸ Nat.succ_pos a
theorem ar_pred {a m : Nat} (h : a = 1 + m) : a = 1 + (a - 1) := by rw [h, Nat.add_sub_cancel_left]
/-- nine letters at once -/
theorem ex9 {A B C D E F G H I : Sort _} {p : A → B → C → D → E → F → G → H → I → Prop} (a : A) (b : B) (c : C) (d : D) (e : E) (f : F) (g : G) (h : H) (i : I) (k : p a b c d e f g h i) : ∃ a b c d e f g h i, p a b c d e f g h i := ⟨a, b, c, d, e, f, g, h, i, k⟩

noncomputable abbrev tupO (vs : List Value) (n : Nat) : Obj := { cls := .type "tuple", data := .seq vs.toArray n }
noncomputable abbrev lstO (vs : List Value) (n : Nat) : Obj := { cls := .type "list", data := .seq vs.toArray n }

section
variable {prog : Program} {w : World} {A : Around} {E : Value → Shared → Prop} {s : Shared} {env : Env} {h₀ : Heap} {x : Str} {body : List Stmt} {Q : Flow → Shared → Prop}

/-- the end of a turn -/
inductive SqEnd (h₀ : Heap) (L I : Addr) (oI : Obj) (e : Addr × Obj) (J : (Str → Option Value) → Led → Prop) (s₁ s₂ : Shared) : Prop
  | ex (h' : _) (tk : _) (m' : _) (nx : _) (h1 : s₂ = { s₁ with heap := h', toks := tk }) (h2 : Fr h₀ L h' m') (h3 : News h₀ L h' ((I, oI) :: nx)) (h4 : (∀ p ∈ nx, p.1 ≠ I)) (h5 : e ∈ nx) (h6 : J m' nx)
noncomputable def SqPost (h₀ : Heap) (L I : Addr) (oI : Obj) (e : Addr × Obj) (J : (Str → Option Value) → Led → Prop) (s₁ : Shared) (Q : Flow → Shared → Prop) (f : Flow) (s₂ : Shared) : Prop :=
  match f with
  | .ret v => Q (.ret v) s₂
  | .brk => Q .next s₂
  | _ => SqEnd h₀ L I oI e J s₁ s₂

theorem loop_core {l : Addr} {o : Obj} {vs : List Value} {m₀ : Str → Option Value} {news : Led} (J : Nat → (Str → Option Value) → Led → Prop)
    (St : Nat → Heap → Prop) {s₂ : Shared} {I : Addr} (W : l ≠ I → Walks prog w A I [I, l] [I] vs.toArray.size (fun i v => vs.toArray[i]? = some v) St)
    (hst : St 0 s₂.heap) (hI : ∀ i h, St i h → ∃ oI, h.get? I = some oI) (hfree : ∀ p ∈ news, p.1 ≠ I) (hIL : I ≠ env.locals) (hI0 : h₀.get? I = none) (hm : (l, o) ∈ news)
    (F : Fr h₀ env.locals s₂.heap m₀) (N : News h₀ env.locals s₂.heap news) (hj : J 0 m₀ news)
    (turn : ∀ i v m₁ news₁ h tk oI, vs[i]? = some v → (∀ p ∈ news₁, p.1 ≠ I) → (l, o) ∈ news₁ → J i m₁ news₁ → Fr h₀ env.locals h (fun y => if y = x then some v else m₁ y) → News h₀ env.locals h ((I, oI) :: news₁) →
      wpAny (model prog w) A (execs body env) (SqPost h₀ env.locals I oI (l, o) (J (i + 1)) { s₂ with heap := h, toks := tk } Q) E { s₂ with heap := h, toks := tk })
    (done : ∀ m₁ nx h tk, (l, o) ∈ nx → J vs.length m₁ nx → Fr h₀ env.locals h m₁ → News h₀ env.locals h nx → Q .next { s₂ with heap := h, toks := tk }) :
    LoopAtV prog w A h₀ env x body Q E (.ref I) s₂ := by
  have hne : l ≠ I := hfree _ hm
  have hl0 : h₀.get? l = none := (N _ hm).2.2
  have hlL : l ≠ env.locals := (N _ hm).2.1
  refine ex9 I _ _ _ _ St m₀ news (fun i m nx => (l, o) ∈ nx ∧ J i m nx) ⟨rfl, W hne, ?_, ?_, ?_, hst, F, N, ⟨hm, hj⟩, ?_, ?_⟩
  · intro hq
    rcases List.mem_cons.mp hq with e | hq
    · exact hIL e.symm
    · exact hlL (List.mem_singleton.mp hq).symm
  · intro b hb; rw [List.mem_singleton.mp hb]; exact hI0
  · intro p hp hq; exact hfree p hp (List.mem_singleton.mp hq)
  · rintro i v m₁ news₁ s₁ own ⟨hh', tk', rfl⟩ hin hP ⟨hlm, hJ⟩ hoff hown _ hmem hst₁ F₁ N₁
    obtain ⟨oI, hoI⟩ := hI _ _ hst₁
    have hIo : (I, oI) ∈ own := hmem _ (.head _) hI0 oI hoI
    have hv : vs[i]? = some v := by simpa using hP
    have hoff' : ∀ p ∈ news₁, p.1 ≠ I := fun p hp e => hoff p hp (by rw [e]; exact .head _)
    have hlo : hh'.get? l = some o := (N₁ _ (List.mem_append_right _ hlm)).1
    have N₂ : News h₀ env.locals hh' ((I, oI) :: news₁) := fun p hp => by
      rcases List.mem_cons.mp hp with rfl | hp
      · exact N₁ _ (List.mem_append_left _ hIo)
      · exact N₁ _ (List.mem_append_right _ hp)
    refine wpAny_mono (turn i v m₁ news₁ hh' tk' oI hv hoff' hlm hJ F₁ N₂) (fun f s₃ p => ?_) fun _ _ e => e
    have fin : SqEnd h₀ env.locals I oI (l, o) (J (i + 1)) { s₂ with heap := hh', toks := tk' } s₃ → LoopStepU h₀ env.locals [I] own (fun m nx => (l, o) ∈ nx ∧ J (i + 1) m nx) { s₂ with heap := hh', toks := tk' } .next s₃ := by
      rintro ⟨h', tk, m', nx, e, F', N', ha, hl, hJ'⟩
      refine ⟨rfl, h', tk, m', nx, e, F', fun p hp => ?_, fun p hp hq => ha p hp (List.mem_singleton.mp hq), hl, hJ'⟩
      rcases List.mem_append.mp hp with hp | hp
      · have hp1 := hown p hp
        have hp2 := (N₁ p (List.mem_append_left _ hp)).1
        rcases List.mem_cons.mp hp1 with e1 | e1
        · have : p = (I, oI) := by
            rcases p with ⟨a, b⟩
            simp only at e1 hp2
            subst e1
            rw [hoI] at hp2
            rw [Option.some.inj hp2]
          rw [this]; exact N' _ (.head _)
        · have e1 := List.mem_singleton.mp e1
          have : p = (l, o) := by
            rcases p with ⟨a, b⟩
            simp only at e1 hp2
            subst e1
            rw [hlo] at hp2
            rw [Option.some.inj hp2]
          rw [this]; exact N' _ (.tail _ hl)
      · exact N' p (.tail _ hp)
    cases f with
    | ret v => exact .ret p
    | brk => exact .brk p
    | next => exact .next (fin p)
    | cont => exact .cont (fin p)
  · rintro h' tk m' news' F' N' _ ⟨hl, hJ⟩
    exact done m' news' h' tk hl (by simpa using hJ) F' N'

theorem loop_list {l : Addr} {vs : List Value} {n : Nat} {m₀ : Str → Option Value} {news : Led} (J : Nat → (Str → Option Value) → Led → Prop)
    (hh : A.handled = none) (hm : (l, lstO vs n) ∈ news)
    (F : Fr h₀ env.locals s.heap m₀) (N : News h₀ env.locals s.heap news) (hj : J 0 m₀ news)
    (turn : ∀ I i v m₁ news₁ h tk oI, vs[i]? = some v → (∀ p ∈ news, p.1 < I) → (∀ p ∈ news₁, p.1 ≠ I) → (l, lstO vs n) ∈ news₁ → J i m₁ news₁ → Fr h₀ env.locals h (fun y => if y = x then some v else m₁ y) → News h₀ env.locals h ((I, oI) :: news₁) →
      wpAny (model prog w) A (execs body env) (SqPost h₀ env.locals I oI (l, lstO vs n) (J (i + 1)) { s with heap := h, toks := tk } Q) E { s with heap := h, toks := tk })
    (done : ∀ m₁ nx h tk, (l, lstO vs n) ∈ nx → J vs.length m₁ nx → Fr h₀ env.locals h m₁ → News h₀ env.locals h nx → Q .next { s with heap := h, toks := tk }) :
    wpAny (model prog w) A (pyIter (.ref l)) (fun it s₂ => LoopAtV prog w A h₀ env x body Q E it s₂) E s := by
  have hls : s.heap.IsList l vs.toArray := ⟨_, (N _ hm).1, rfl, _, rfl⟩
  refine wpAny_pyIter_list hls ?_
  have hfr : ∀ p ∈ news, p.1 < s.heap.objs.size := fun p hp => Heap.lt_size (N p hp).1
  refine loop_core (I := s.heap.objs.size) J (fun i h => h.IsListIter s.heap.objs.size l i ∧ h.IsList l vs.toArray) (fun hne => Walks.list hh s.heap.objs.size l hne vs.toArray) ⟨⟨_, Heap.get?_push_size _ rfl, rfl, rfl⟩, hls.at fun o e => Heap.get?_push_of_some _ e⟩ (fun i h ⟨⟨o, e, _⟩, _⟩ => ⟨o, e⟩) (fun p hp => Nat.ne_of_lt (hfr p hp)) (Nat.ne_of_gt F.ns.lt) (next_is_new F) hm (F.push _) (fun p hp => ⟨Heap.get?_push_of_some _ (N p hp).1, (N p hp).2⟩) hj ?_ done
  intro i v m₁ news₁ h tk oI hv h1 h2 hJ F₁ N₁
  exact turn _ i v m₁ news₁ h tk oI hv hfr h1 h2 hJ F₁ N₁

theorem loop_tup {l : Addr} {vs : List Value} {n : Nat} {m₀ : Str → Option Value} {news : Led} (J : Nat → (Str → Option Value) → Led → Prop)
    (hh : A.handled = none) (hm : (l, tupO vs n) ∈ news)
    (F : Fr h₀ env.locals s.heap m₀) (N : News h₀ env.locals s.heap news) (hj : J 0 m₀ news)
    (turn : ∀ I i v m₁ news₁ h tk oI, vs[i]? = some v → (∀ p ∈ news, p.1 < I) → (∀ p ∈ news₁, p.1 ≠ I) → (l, tupO vs n) ∈ news₁ → J i m₁ news₁ → Fr h₀ env.locals h (fun y => if y = x then some v else m₁ y) → News h₀ env.locals h ((I, oI) :: news₁) →
      wpAny (model prog w) A (execs body env) (SqPost h₀ env.locals I oI (l, tupO vs n) (J (i + 1)) { s with heap := h, toks := tk } Q) E { s with heap := h, toks := tk })
    (done : ∀ m₁ nx h tk, (l, tupO vs n) ∈ nx → J vs.length m₁ nx → Fr h₀ env.locals h m₁ → News h₀ env.locals h nx → Q .next { s with heap := h, toks := tk }) :
    wpAny (model prog w) A (pyIter (.ref l)) (fun it s₂ => LoopAtV prog w A h₀ env x body Q E it s₂) E s := by
  have hls : s.heap.IsTuple l vs.toArray := ⟨_, (N _ hm).1, rfl, _, rfl⟩
  refine wpAny_pyIter_tuple hls ?_
  have hfr : ∀ p ∈ news, p.1 < s.heap.objs.size := fun p hp => Heap.lt_size (N p hp).1
  refine loop_core (I := s.heap.objs.size) J (fun i h => h.IsTupleIter s.heap.objs.size l i ∧ h.IsTuple l vs.toArray) (fun hne => Walks.tuple hh s.heap.objs.size l hne vs.toArray) ⟨⟨_, Heap.get?_push_size _ rfl, rfl, rfl⟩, hls.at fun o e => Heap.get?_push_of_some _ e⟩ (fun i h ⟨⟨o, e, _⟩, _⟩ => ⟨o, e⟩) (fun p hp => Nat.ne_of_lt (hfr p hp)) (Nat.ne_of_gt F.ns.lt) (next_is_new F) hm (F.push _) (fun p hp => ⟨Heap.get?_push_of_some _ (N p hp).1, (N p hp).2⟩) hj ?_ done
  intro i v m₁ news₁ h tk oI hv h1 h2 hJ F₁ N₁
  exact turn _ i v m₁ news₁ h tk oI hv hfr h1 h2 hJ F₁ N₁

end

local macro_rules | `(tactic| omega) => `(tactic| first | ((with_reducible first | assumption | decide | exact Nat.le_of_ble_eq_true rfl); done) | ((fail_if_success (fail_if_success (omega (config := {})))); (with_reducible first | exact Nat.le_refl _ | exact Nat.le_add_left _ _ | exact Nat.le_add_right _ _ | exact Nat.zero_le _ | exact Ne.symm (by assumption) | exact Nat.ne_of_lt (by assumption) | exact Nat.ne_of_gt (by assumption) | ((first | refine room1 (by assumption) ?_ | refine room2 (by assumption) ?_); (first | decide | exact le_k (by decide) | exact le_x (by decide) | exact le_m (by assumption) | exact le_n (by assumption) (by decide) | exact le_pred (by assumption) | exact le_nx (by assumption) (by decide) | exact le_w (by first | assumption | exact Nat.le_refl _) | exact le_y (by assumption) (by decide))) | exact room3 (by assumption) (by decide) | exact room4 (by assumption) (by decide) | exact room5 (by assumption) (by assumption) (by decide) | exact add_mid (by assumption) | exact Nat.le_sub_of_add_le (by first | assumption | exact le_n (by assumption) (by decide)) | exact lt_room (by assumption) | exact le_z (by assumption) (by decide) | exact le_swap (by assumption) | exact le_ht (by assumption) (by assumption) | exact Nat.lt_of_le_of_lt (by assumption) (by assumption) | exact mil_eq (by assumption) (by assumption)); done) | fail)
local macro_rules | `(tactic| ktr_units) => `(tactic| first | ((first | exact room3 (by assumption) (by decide) | exact room4 (by assumption) (by decide) | exact room5 (by assumption) (by assumption) (by decide)); done) | fail)
local macro_rules | `(tactic| k_ne) => `(tactic| first | ((first | assumption | exact Ne.symm (by assumption) | exact Nat.ne_of_lt (by assumption) | exact Nat.ne_of_gt (by assumption)); done) | ((fail_if_success (fail_if_success (refine neN ?_; (try dsimp only); omega (config := {})))); (first | exact Nat.ne_of_lt (And.left (by first | ((iterate 9 (try first | assumption | apply And.right)); done) | fail)) | exact Nat.ne_of_gt (And.left (by first | ((iterate 9 (try first | assumption | apply And.right)); done) | fail)) | exact And.left (by first | ((iterate 9 (try first | assumption | apply And.right)); done) | fail) | exact Ne.symm (And.left (by first | ((iterate 9 (try first | assumption | apply And.right)); done) | fail)) | exact Nat.ne_of_lt (by first | ((iterate 7 (try first | exact Nat.lt_add_one _ | exact And.left (by assumption) | apply Nat.lt_add_one_of_lt)); done) | fail) | exact Nat.ne_of_gt (by first | ((iterate 7 (try first | exact Nat.lt_add_one _ | exact And.left (by assumption) | apply Nat.lt_add_one_of_lt)); done) | fail)); done) | fail)
local macro_rules | `(tactic| ktr_room) => `(tactic| first | (exact lt_room (by assumption); done) | fail)
noncomputable abbrev sA : PySem.Str := Str.ofString "a"

/-- a set that holds nothing, or the str a alone -/
inductive TxO (prog : Program) (w : World) (o : Obj) (b : Bool) : Prop
  | ex (es : Array (Int × Value)) (ep : Nat) (t : SetTable) (h1 : o = { cls := .type "set", dict := none, data := .set es ep t }) (h2 : t.mask = 7) (h3 : t.dummies = #[]) (h4 : t.led = !(w.params.followText "set-order")) (h5 :
    match b with
    | false => es = #[] ∧ t.place = #[]
    | true => ∃ tk j, es = #[((PySem.strKind prog w).hash sA, .str sA tk)] ∧ t.place = #[j])

section
variable {prog : Program} {w : World} {A : Around} {E : Value → Shared → Prop} {s : Shared}

theorem tx_fresh : TxO prog w { cls := .type "set", dict := none, data := .set #[] 0 (.fresh 0 0 !(w.params.followText "set-order")) } false := ⟨_, _, _, rfl, rfl, rfl, rfl, rfl, rfl⟩

theorem free_empty {t : SetTable} (h : Int) (hp : t.place = #[]) (hd : t.dummies = #[]) (hm : t.mask = 7) : ∃ j, t.freeSlot h = some (j, false) := by
  obtain ⟨mask, place, dummies, finger, led, moves, plain⟩ := t
  dsimp only at hp hd hm
  subst hp hd hm
  exact ⟨_, rfl⟩

theorem tx_fits {o : Obj} {b : Bool} (h : TxO prog w o b) : ∃ es ep t, o.data = .set es ep t ∧ t.fits es.size = true ∧ es.size = cond b 1 0 := by
  obtain ⟨es, ep, t, rfl, hm, hd, hl, hb⟩ := h
  refine ⟨es, ep, t, rfl, ?_⟩
  cases b with
  | false => obtain ⟨rfl, hp⟩ := hb; simp [SetTable.fits, SetTable.fill, hp, hd, hm]
  | true => obtain ⟨tk, j, rfl, hp⟩ := hb; simp [SetTable.fits, SetTable.fill, hp, hd, hm]

theorem tx_addH {a : Addr} {o : Obj} {b : Bool} {tk : Tok} {Q : Bool → Shared → Prop} (ho : s.heap.get? a = some o) (ht : TxO prog w o b)
    (h : ∀ h' o', TxO prog w o' true → h'.get? a = some o' → Heap.SameBut a s.heap h' → Q (!b) { s with heap := h' }) :
    wpAny (model prog w) A (setAddHashed a (.str sA tk) ((PySem.strKind prog w).hash sA)) Q E s := by
  obtain ⟨es, ep, t, rfl, hm, hd, hled, hb⟩ := ht
  have hfit : t.fits es.size = true := by
    cases b with
    | false => obtain ⟨rfl, hp⟩ := hb; simp [SetTable.fits, SetTable.fill, hp, hd, hm]
    | true => obtain ⟨tk, j, rfl, hp⟩ := hb; simp [SetTable.fits, SetTable.fill, hp, hd, hm]
  have hel : ElemsOf (PySem.strKind prog w) es.toList := by
    cases b with
    | false => obtain ⟨rfl, hp⟩ := hb; intro e he; simp at he
    | true =>
      obtain ⟨tk, j, rfl, hp⟩ := hb
      intro e he
      simp only [List.mem_singleton] at he
      subst he
      exact ⟨⟨sA, strKind_is _ _ _ _, rfl⟩, rfl⟩
  have hbs : es.size < scanBound := by
    cases b with
    | false => obtain ⟨rfl, hp⟩ := hb; decide
    | true => obtain ⟨tk, j, rfl, hp⟩ := hb; show 1 < scanBound; decide
  unfold setAddHashed setAddHashedIn
  refine wpAny_holding (wpAny_bind (wpAny_setState_of ho rfl hfit ?_))
  dsimp only
  rw [byScan_of (knd := PySem.strKind prog w) rfl hbs hel]
  simp only [↓reduceIte]
  unfold setAddByScan
  refine wpAny_bind ?_
  refine wpAny_bind (wpAny_rule ?_)
  refine wpAny_bind (wpAny_setScan_of (knd := PySem.strKind prog w) (k := sA) (strKind_is _ _ _ _) ho rfl hfit hel ?_)
  cases b with
  | true =>
    obtain ⟨tk', j, rfl, hp⟩ := hb
    have : List.findIdx? (fun e : Int × Value => (PySem.strKind prog w).is sA e.2) #[((PySem.strKind prog w).hash sA, Value.str sA tk')].toList = some 0 := by
      simp [strKind_is]
    rw [this]
    refine wpAny_pure (wpAny_pure ?_)
    exact h s.heap _ ⟨_, _, _, rfl, hm, hd, hled, _, _, rfl, hp⟩ ho (Heap.SameBut.refl a s.heap)
  | false =>
    obtain ⟨rfl, hp⟩ := hb
    obtain ⟨j, hj⟩ := free_empty ((PySem.strKind prog w).hash sA) hp hd hm
    show wpAny _ _ _ _ _ _
    have hl : layNew t #[] ((PySem.strKind prog w).hash sA) (.str sA tk) = (#[((PySem.strKind prog w).hash sA, .str sA tk)], { t with place := #[j] }, false, false) := by
      unfold layNew
      rw [hj]
      obtain ⟨mask, place, dummies, finger, led, moves, plain⟩ := t
      dsimp only at hp hd hm
      subst hp hd hm
      rfl
    rw [hl]
    dsimp only
    refine wpAny_bind (wpAny_pure ?_)
    have hupd : ∀ (t' : SetTable), t'.mask = 7 → t'.dummies = #[] → t'.led = !(w.params.followText "set-order") → t'.place = #[j] → ∀ (R : Option Bool → Shared → Prop),
        (∀ s₁, (match (some true : Option Bool) with | some added => Q added s₁ | none => False) → R (some true) s₁) →
        wpAny (model prog w) A (do
          storeSet a #[((PySem.strKind prog w).hash sA, Value.str sA tk)] t'
          if (!false && t'.tooFull) = true then do
            (match (relayAll t' #[((PySem.strKind prog w).hash sA, Value.str sA tk)] (SetTable.grown 1)).2.2 with | true => rule "set.scan.the-table-gave-way" | false => pure ())
            storeSet a (relayAll t' #[((PySem.strKind prog w).hash sA, Value.str sA tk)] (SetTable.grown 1)).1 (relayAll t' #[((PySem.strKind prog w).hash sA, Value.str sA tk)] (SetTable.grown 1)).2.1
            pure (some true)
          else pure (some true)) R E s := by
      intro t' h1 h2 h4 h3 R hR
      refine wpAny_bind (wpAny_storeSet_of ho rfl ?_ (by show 1 ≤ sizeLine; rw [sizeLine_eq]; omega))
      have hno : (!false && t'.tooFull) = false := by
        simp [SetTable.tooFull, SetTable.fill, h1, h2, h3]
      rw [hno]
      simp only [Bool.false_eq_true, if_false]
      refine wpAny_pure (hR _ ?_)
      refine h _ _ ⟨_, ep + 1, t', rfl, h1, h2, h4, tk, j, rfl, h3⟩ ?_ (Heap.SameBut.update ..)
      exact Heap.get?_update_self _ ho rfl
    split
    · refine wpAny_bind ?_
      rw [hashByValue_scannable 8 (by rfl)]
      refine wpAny_pure ?_
      split
      · refine hupd { t with place := #[j] } hm hd hled rfl _ fun s₁ q => ?_
        exact wpAny_pure q
      · refine hupd { t with place := #[j], plain := false } hm hd hled rfl _ fun s₁ q => ?_
        exact wpAny_pure q
    · refine wpAny_bind (wpAny_pure ?_)
      simp only [↓reduceIte]
      refine hupd { t with place := #[j] } hm hd hled rfl _ fun s₁ q => ?_
      exact wpAny_pure q

theorem tx_add {a : Addr} {o : Obj} {b : Bool} {tk : Tok} {Q : Bool → Shared → Prop} (ho : s.heap.get? a = some o) (ht : TxO prog w o b)
    (h : ∀ h' o', TxO prog w o' true → h'.get? a = some o' → Heap.SameBut a s.heap h' → Q (!b) { s with heap := h', toks := s.toks + 1 }) :
    wpAny (model prog w) A (setAdd a (.str sA tk)) Q E s := by
  unfold setAdd
  refine wpAny_holding (wpAny_bind ((PySem.strKind prog w).pyHash (k := sA) (strKind_is _ _ _ _) ?_))
  exact tx_addH (s := { s with toks := s.toks + 1 }) ho ht h

theorem byText_any {Q : Bool → Shared → Prop} (h : ∀ b, Q b s) : wpAny (model prog w) A setsByText Q E s := by
  unfold setsByText
  exact wpAny_bind (wpAny_askSetting (wpAny_pure (h _)))

theorem pick_one {α : Type} (next : Nat → Nat) (x : α) : pickOrder next #[x] = #[x] := by
  unfold pickOrder
  show pickOrder.go next 1 0 [x] #[] = _
  unfold pickOrder.go
  have : next 0 % [x].length = 0 := Nat.mod_one _
  rw [this]
  rfl

theorem walk_one {a : Addr} {o : Obj} {e : Int × Value} {ep : Nat} {t : SetTable} {Q : Array (Int × Value) → Shared → Prop} (ho : s.heap.get? a = some o) (hd : o.data = .set #[e] ep t) (hf : t.fits 1 = true)
    (h : Q #[e] s) : wpAny (model prog w) A (setWalk a) Q E s := by
  unfold setWalk
  refine wpAny_bind (wpAny_setState_of ho hd hf ?_)
  dsimp only
  refine wpAny_bind (byText_any fun b => ?_)
  cases b with
  | true =>
    simp only [if_true]
    refine wpAny_bind (wpAny_askSetting (wpAny_pure ?_))
    rw [pick_one]; exact h
  | false =>
    simp only [Bool.false_eq_true, if_false]
    split
    · rename_i hc
      have : (!t.plain && decide (1 > 1)) = true := hc
      simp at this
    · refine wpAny_bind ?_
      show wpAny _ _ (if (!t.led && decide (1 > 1)) = true then _ else _) _ _ _
      rw [if_neg (by simp)]
      exact wpAny_pure (wpAny_pure h)

theorem tx_merge {a b : Addr} {oa ob : Obj} {b1 b2 : Bool} {each : Sem Unit} {Q : Unit → Shared → Prop} (hab : a ≠ b) (ha : s.heap.get? a = some oa) (hta : TxO prog w oa b1) (hb : s.heap.get? b = some ob) (htb : TxO prog w ob b2)
    (heach : ∀ s₁ (Q' : Unit → Shared → Prop), s₁.heap.get? b = some ob → Q' () s₁ → wpAny (model prog w) A each Q' E s₁)
    (h : ∀ h' o', TxO prog w o' (b1 || b2) → h'.get? a = some o' → Heap.SameBut a s.heap h' → Q () { s with heap := h' }) :
    wpAny (model prog w) A (setMerge a b each) Q E s := by
  obtain ⟨es, ep, t, hda, hfa, hsa⟩ := tx_fits hta
  unfold setMerge
  rw [if_neg (by simpa using hab)]
  cases b2 with
  | false =>
    obtain ⟨es₂, ep₂, t₂, rfl, hm₂, hd₂, hl₂, rfl, hp₂⟩ := htb
    refine wpAny_bind (wpAny_setState_of hb rfl (by simp [SetTable.fits, SetTable.fill, hp₂, hd₂, hm₂]) ?_)
    dsimp only
    simp only [Array.isEmpty_empty, if_true]
    refine wpAny_pure ?_
    have := h s.heap oa (by rw [Bool.or_false]; exact hta) ha (Heap.SameBut.refl a s.heap)
    exact this
  | true =>
    have hob := htb
    obtain ⟨es₂, ep₂, t₂, rfl, hm₂, hd₂, hl₂, tk, j, rfl, hp₂⟩ := htb
    have hf₂ : t₂.fits 1 = true := by simp [SetTable.fits, SetTable.fill, hp₂, hd₂, hm₂]
    refine wpAny_bind (wpAny_setState_of hb rfl hf₂ ?_)
    dsimp only
    rw [if_neg (by simp [Array.isEmpty])]
    refine wpAny_bind ?_
    unfold setRoomFor
    obtain ⟨es₁, ep₁, t₁, rfl, hm₁, hd₁, hl₁, hb₁⟩ := id hta
    have hroom : t₁.roomFor (#[((PySem.strKind prog w).hash sA, Value.str sA tk)] : Array (Int × Value)).size = none := by
      show t₁.roomFor 1 = none
      unfold SetTable.roomFor SetTable.fill
      rw [hm₁, hd₁, if_neg]
      cases b1 with
      | false => rw [hb₁.2]; simp
      | true => obtain ⟨_, _, _, e⟩ := hb₁; rw [e]; simp
    obtain ⟨e1, e2, e3⟩ : es₁ = es ∧ ep₁ = ep ∧ t₁ = t := by cases hda; exact ⟨rfl, rfl, rfl⟩
    subst e1 e2 e3
    refine wpAny_bind (wpAny_setState_of ha rfl hfa ?_)
    dsimp only
    rw [hroom]
    refine wpAny_pure ?_
    refine wpAny_bind (wpAny_setState_of ha rfl hfa ?_)
    dsimp only
    cases b1 with
    | false =>
      obtain ⟨rfl, hp₁⟩ := hb₁
      have hr : t₁.road t₂ = .slotForSlot := by
        unfold SetTable.road SetTable.fill
        rw [hp₁, hd₁, hm₁, hm₂, hd₂]
        rfl
      rw [hr]
      refine wpAny_storeSet_of ha rfl ?_ (by show 1 ≤ sizeLine; rw [sizeLine_eq]; omega)
      exact h _ _ ⟨_, ep₁ + 1, { mask := t₂.mask, place := t₂.place, dummies := t₂.dummies, finger := t₁.finger, led := t₁.led && t₂.led, moves := t₁.moves, plain := t₁.plain && t₂.plain }, rfl, hm₂, hd₂, (by show (t₁.led && t₂.led) = _; rw [hl₁, hl₂, Bool.and_self]), tk, j, rfl, hp₂⟩ (Heap.get?_update_self _ ha rfl) (Heap.SameBut.update ..)
    | true =>
      obtain ⟨tk₁, j₁, rfl, hp₁⟩ := hb₁
      have hr : t₁.road t₂ = .oneByOne := by
        unfold SetTable.road SetTable.fill
        rw [hp₁, hd₁]
        rfl
      rw [hr]
      refine wpAny_bind ?_
      unfold setWalkUnseen
      refine wpAny_bind (wpAny_setState_of hb rfl hf₂ ?_)
      dsimp only
      refine wpAny_bind (byText_any fun bt => ?_)
      rw [if_pos (by simp)]
      refine walk_one hb rfl hf₂ ?_
      refine wpAny_bind ?_
      rw [← Array.forIn_toList]
      show wpAny _ _ (forIn [((PySem.strKind prog w).hash sA, Value.str sA tk)] _ _) _ _ _
      rw [List.forIn_cons]
      refine wpAny_bind (wpAny_bind (wpAny_holding (tx_addH ha hta fun h' o' ho' hg' hsb => ?_)))
      have hb' : h'.get? b = some _ := (hsb.2 b (Ne.symm hab)).trans hb
      refine wpAny_bind (heach _ _ hb' ?_)
      refine wpAny_bind (wpAny_setState_of (s := { s with heap := h' }) hb' rfl hf₂ ?_)
      dsimp only
      rw [if_neg (by simp)]
      refine wpAny_pure ?_
      dsimp only
      rw [List.forIn_nil]
      exact wpAny_pure (wpAny_pure (h h' o' ho' hg' hsb))

theorem tx_type {a : Addr} {o : Obj} {b : Bool} (ha : s.heap.get? a = some o) (ht : TxO prog w o b) : s.TypeIs (.ref a) "set" := by
  obtain ⟨es, ep, t, rfl, _⟩ := ht
  exact ⟨_, ha, rfl⟩

theorem fills_set_ior : fillsInplaceSlot (.type "set") Operator.BitOr.info.2 (Operator.BitOr == .Add) = pure true := by
  unfold fillsInplaceSlot
  show (typeLookup (.type "set") (dunderI "or") >>= fun fi => pure (fi.isSome && !isSeqSlot fi)) = pure true
  rw [show typeLookup (.type "set") (dunderI "or") = pure (some (.builtin "set.__ior__")) from by rw [typeLookup_type, builtinLookup_eq_fast]; kernel_rfl]
  kernel_rfl

theorem tx_ior {a b : Addr} {oa ob : Obj} {b1 b2 : Bool} {Q : Value → Shared → Prop} (hab : a ≠ b) (ha : s.heap.get? a = some oa) (hta : TxO prog w oa b1) (hb : s.heap.get? b = some ob) (htb : TxO prog w ob b2)
    (h : ∀ h' o', TxO prog w o' (b1 || b2) → h'.get? a = some o' → Heap.SameBut a s.heap h' → Q (.ref a) { s with heap := h' }) :
    wpAny (model prog w) A (inplaceOp .BitOr (.ref a) (.ref b)) Q E s := by
  have hTa := tx_type (s := s) ha hta
  have hTb := tx_type (s := s) hb htb
  unfold inplaceOp
  refine wpAny_holding ?_
  dsimp only
  refine wpAny_bind (wpAny_typeOf hTa (wpAny_bind (wpAny_of_eq fills_set_ior ?_)))
  rw [if_pos rfl]
  refine wpAny_bind (wpAny_tryMethod_slot hTa F.slot_set_ior (wpAny_call_entry F.slot_set_ior hTa F.entry_set_ior ?_ (F.args_set_ior_2 _ _)))
  have e1 : Builtin.Frozenset.slot1 "__ior__" ⟨[.ref a, .ref b], []⟩ = pure (.ref a, .ref b) := rfl
  show wpAny _ _ (Builtin.Frozenset.slot1 "__ior__" ⟨[.ref a, .ref b], []⟩ >>= _) _ _ _
  rw [e1]
  refine wpAny_bind (wpAny_pure ?_)
  dsimp only
  have hany : ∀ (x : Addr) (s₁ : Shared) (Q' : Bool → Shared → Prop), s₁.TypeIs (.ref x) "set" → Q' true s₁ → wpAny (model prog w) A.in1 (Builtin.Frozenset.isAnySet (.ref x)) Q' E s₁ := by
    intro x s₁ Q' hT hq
    show wpAny _ _ (isInstance (.ref x) (.type "set") >>= _) _ _ _
    refine wpAny_bind (wpAny_isInstance hT sub_set_self ?_)
    exact wpAny_pure hq
  refine wpAny_bind (hany b s _ hTb ?_)
  simp only [Bool.not_true, Bool.false_eq_true, if_false]
  refine wpAny_bind (wpAny_pure ?_)
  refine wpAny_bind ?_
  unfold Builtin.Frozenset.updateFrom
  refine wpAny_bind (hany b s _ hTb ?_)
  simp only [if_true]
  refine wpAny_bind (wpAny_pure ?_)
  unfold Builtin.Frozenset.merge
  obtain ⟨esb, epb, tb, hdb, hfb, _⟩ := tx_fits htb
  refine wpAny_bind (wpAny_setEpoch_of hb hdb hfb ?_)
  refine tx_merge hab ha hta hb htb (fun s₁ Q' hq q => ?_) fun h' o' ho' hg hsb => ?_
  · unfold Builtin.Frozenset.unchanged
    refine wpAny_bind (wpAny_setEpoch_of hq hdb hfb ?_)
    rw [if_neg (by simp)]
    exact wpAny_pure q
  · refine wpAny_pure ?_
    refine ⟨_, rfl, (fun e => nomatch e), ?_⟩
    exact wpAny_bind (wpAny_rule (wpAny_pure (h h' o' ho' hg hsb)))
end

section
variable {prog : Program} {w : World} {A : Around} {E : Value → Shared → Prop} {s : Shared}

noncomputable abbrev freshSet (w : World) : Obj := { cls := .type "set", dict := none, data := .set #[] 0 (.fresh 0 0 !(w.params.followText "set-order")) }

theorem tx_newSet {Q : Value → Shared → Prop} (h : Q (.ref s.heap.objs.size) { s with heap := s.heap.push (freshSet w) }) :
    wpAny (model prog w) A (newSet (.type "set")) Q E s := by
  unfold newSet setsByText
  refine wpAny_bind (wpAny_bind (wpAny_askSetting (wpAny_pure ?_)))
  dsimp only
  simp only [newObj]
  exact wpAny_bind (wpAny_alloc (wpAny_pure h))

/-- what a set's walk yields -/
theorem tx_hint {r : Addr} {Q : Bool → Shared → Prop} (hT : s.TypeIs (.ref r) "set") (h : Q false s) : wpAny (model prog w) A (Builtin.List.listLengthHint (.ref r)) Q E s := by
  unfold Builtin.List.listLengthHint
  refine wpAny_bind (wpAny_specialOf hT PySem.F.slot_set_len.lookup ?_)
  generalize hid : ("set.__len__" : String) = id0
  wp_delta
  rw [show splitId id0 = some ("set", "__len__") from by subst hid; decide +kernel]
  subst hid
  refine wpAny_bind (wpAny_isInstance (T := "set") (b := true) hT (by rw [isSubtype_type]; kernel_rfl) ?_)
  refine wpAny_ite_split (fun hab => absurd hab (by decide)) (fun _ => ?_)
  refine wpAny_ite_split (fun _ => ?_) (fun hab => absurd (by decide +kernel) hab)
  refine wpAny_bind (wpAny_typeOf hT ?_)
  exact wpAny_pure h

theorem owner_si : Manifest.owners.lookup (String.ofList ['r', 'o', 't', 'a', 'r', 'e', 't', 'i', '_', 't', 'e', 's'].reverse) = some Manifest.sig_set_iterator := by kernel_rfl
theorem slot_si_next : Slot "set_iterator" "__next__" "set_iterator.__next__" :=
  .of (owner := "set_iterator") (n := "__next__") (by rw [typeLookup_type, builtinLookup_eq_fast]; kernel_rfl) (by decide +kernel) (by decide +kernel) (by decide +kernel)
    (by first | exact .inl (by decide +kernel) | exact .inr (by decide +kernel)) (by rw [isSubtype_type]; kernel_rfl)
theorem entry_si_next : entryFor table "set_iterator.__next__" = some Builtin.«set_iterator.__next__» := entryFor_of_tree (by kernel_rfl)
theorem args_si_next (a : Value) : argsOk "set_iterator.__next__" ⟨[a], []⟩ := by
  unfold argsOk; rw [signature?_of (id := "set_iterator.__next__") (n := ['_', '_', 't', 'x', 'e', 'n', '_', '_']) (o := ['r', 'o', 't', 'a', 'r', 'e', 't', 'i', '_', 't', 'e', 's']) (by kernel_rfl) owner_si]; kernel_rfl
theorem slot_si_iter : Slot "set_iterator" "__iter__" "set_iterator.__iter__" :=
  .of (owner := "set_iterator") (n := "__iter__") (by rw [typeLookup_type, builtinLookup_eq_fast]; kernel_rfl) (by decide +kernel) (by decide +kernel) (by decide +kernel)
    (by first | exact .inl (by decide +kernel) | exact .inr (by decide +kernel)) (by rw [isSubtype_type]; kernel_rfl)
theorem entry_si_iter : entryFor table "set_iterator.__iter__" = some Builtin.«dict_keyiterator.__iter__» :=
  entryFor_alias (id' := "dict_keyiterator.__iter__") (by kernel_rfl) (by first | rfl | decide +kernel | (unfold String.splitOn; simp +decide [String.splitOnAux])) (by decide +kernel) (by kernel_rfl)
theorem args_si_iter (a : Value) : argsOk "set_iterator.__iter__" ⟨[a], []⟩ := by
  unfold argsOk; rw [signature?_of (id := "set_iterator.__iter__") (n := ['_', '_', 'r', 'e', 't', 'i', '_', '_']) (o := ['r', 'o', 't', 'a', 'r', 'e', 't', 'i', '_', 't', 'e', 's']) (by kernel_rfl) owner_si]; kernel_rfl
theorem entry_s_iter : entryFor table "set.__iter__" = some Builtin.«frozenset.__iter__» :=
  entryFor_alias (id' := "frozenset.__iter__") (by kernel_rfl) (by first | rfl | decide +kernel | (unfold String.splitOn; simp +decide [String.splitOnAux])) (by decide +kernel) (by kernel_rfl)
end

section
variable {prog : Program} {w : World} {A : Around} {E : Value → Shared → Prop} {s : Shared}

noncomputable abbrev siObj (slot i : Nat) (a : Addr) (n ep : Nat) : Obj := { cls := .type "set_iterator", data := .fields #[.int slot 0, .int i 0, .ref a, .int n 0, .int ep 0] }

theorem tx_len0 {es : Array (Int × Value)} {ep : Nat} {t : SetTable} {b : Bool} (h : TxO prog w { cls := .type "set", dict := none, data := .set es ep t } b) : t.fits es.size = true ∧ es.size = cond b 1 0 := by
  obtain ⟨_, _, _, e1, e2, e3⟩ := tx_fits h
  cases e1
  exact ⟨e2, e3⟩

theorem tx_pyIter {a : Addr} {es : Array (Int × Value)} {ep : Nat} {t : SetTable} {b : Bool} {Q : Value → Shared → Prop}
    (ho : s.heap.get? a = some { cls := .type "set", dict := none, data := .set es ep t }) (ht : TxO prog w { cls := .type "set", dict := none, data := .set es ep t } b)
    (h : Q (.ref s.heap.objs.size) { s with heap := s.heap.push (siObj 0 0 a (cond b 1 0) ep) }) : wpAny (model prog w) A (pyIter (.ref a)) Q E s := by
  have hT := tx_type (s := s) ho ht
  obtain ⟨hf, hsz⟩ := tx_len0 ht
  refine wpAny_pyIter_slot hT F.slot_set_iter (wpAny_call_entry F.slot_set_iter hT entry_s_iter ?_ (F.args_set_iter_1 _))
  have e1 : Builtin.Frozenset.slot0 "__iter__" ⟨[.ref a], []⟩ = pure a := rfl
  show wpAny _ _ (Builtin.Frozenset.slot0 "__iter__" ⟨[.ref a], []⟩ >>= _) _ _ _
  rw [e1]
  refine wpAny_bind (wpAny_pure ?_)
  refine wpAny_bind ?_
  unfold Builtin.Frozenset.sizeOf
  refine wpAny_bind (wpAny_setEntries_of ho rfl hf (wpAny_pure ?_))
  refine wpAny_bind ?_
  unfold setDrawn
  refine wpAny_bind (wpAny_setState_of ho rfl hf ?_)
  dsimp only
  refine wpAny_bind (byText_any fun bt => wpAny_pure ?_)
  have hd : ∀ bt : Bool, ¬ ((!bt && (!t.plain && decide (es.size > 1))) = true) := by
    intro bt; rw [hsz]; cases b <;> simp
  refine wpAny_ite_split (fun hc => absurd hc (hd bt)) (fun _ => ?_)
  refine wpAny_bind (wpAny_pure ?_)
  refine wpAny_bind (wpAny_setEpoch_of ho rfl hf ?_)
  refine wpAny_bind ?_
  unfold newFields
  refine wpAny_newObj_type ?_ (by size_fits)
  refine wpAny_pure ⟨_, rfl, "set_iterator", _, ⟨_, Heap.get?_push_size _ rfl, rfl⟩, slot_si_next.lookup, ?_⟩
  rw [hsz]
  exact h

theorem byText_is {Q : Bool → Shared → Prop} (h : Q (w.params.followText "set-order") s) : wpAny (model prog w) A setsByText Q E s := by
  unfold setsByText
  exact wpAny_bind (wpAny_askSetting (wpAny_pure h))

/-- where the walk of a set stands -/
noncomputable def siAt (w : World) (t : SetTable) (i : Nat) : Nat := if i = 0 ∨ w.params.followText "set-order" = true then 0 else t.place.getD 0 0 + 1

theorem tx_next {I a : Addr} {es : Array (Int × Value)} {ep : Nat} {t : SetTable} {tk : Tok} {Q : Option Value → Shared → Prop}
    (hI : s.heap.get? I = some (siObj (siAt w t 0) 0 a 1 ep)) (ho : s.heap.get? a = some { cls := .type "set", dict := none, data := .set es ep t })
    (ht : TxO prog w { cls := .type "set", dict := none, data := .set es ep t } true) (hes : es = #[((PySem.strKind prog w).hash sA, .str sA tk)])
    (hQ : ∀ h', h'.get? I = some (siObj (siAt w t 1) 1 a 1 ep) → Heap.SameBut I s.heap h' → Q (some (.str sA tk)) { s with heap := h' }) :
    wpAny (model prog w) A (pyNext (.ref I)) Q E s := by
  have hT : s.TypeIs (.ref I) "set_iterator" := ⟨_, hI, rfl⟩
  obtain ⟨hf, hsz⟩ := tx_len0 ht
  obtain ⟨_, _, _, e1, hm, hd, hled, _, j, e2, hp⟩ := ht
  cases e1
  unfold pyNext
  refine wpAny_bind (wpAny_attempt (wpAny_callSpecial?_slot (name := Str.ofString "__next__") hT slot_si_next
    (wpAny_call_entry slot_si_next hT entry_si_next ?_ (args_si_next _))))
  show wpAny _ _ (fieldsOf (.ref I) >>= _) _ _ _
  refine wpAny_bind (wpAny_fieldsOf hI rfl ?_)
  dsimp only
  refine wpAny_bind (wpAny_setEntries_of ho rfl hf ?_)
  rw [if_neg (by rw [hsz]; simp)]
  subst hes
  refine wpAny_bind ?_
  unfold setNext
  refine wpAny_bind (wpAny_setState_of ho rfl hf ?_)
  dsimp only
  refine wpAny_bind (byText_is ?_)
  cases hbt : w.params.followText "set-order" with
  | true =>
    simp only [if_true]
    rw [if_neg (by simp)]
    refine wpAny_bind (walk_one ho rfl hf ?_)
    refine wpAny_pure ?_
    have h0 : siAt w t 0 = 0 := if_pos (.inl rfl)
    have h1 : siAt w t 1 = 0 := if_pos (.inr hbt)
    rw [h0] at hI ⊢
    show wpAny _ _ (setField (.ref I) 0 (rawInt (0 : Nat)) >>= _) _ _ _
    refine wpAny_bind (wpAny_setField hI rfl (by simp) ?_)
    have hI₁ : (s.heap.update I (Obj.mapFields (·.setIfInBounds 0 (rawInt (0 : Nat))))).get? I = some (siObj 0 0 a 1 ep) := Heap.get?_update_self _ hI rfl
    refine wpAny_bind (wpAny_setField (s := { s with heap := s.heap.update I (Obj.mapFields (·.setIfInBounds 0 (rawInt (0 : Nat)))) }) hI₁ rfl (by simp) ?_)
    have hI₂ := Heap.get?_update_self (Obj.mapFields (·.setIfInBounds 1 (rawInt ((0 : Nat) + 1)))) hI₁ rfl
    refine wpAny_pure ⟨_, rfl, wpAny_pure (hQ _ ?_ ((Heap.SameBut.update ..).trans (Heap.SameBut.update ..)))⟩
    rw [h1]; exact hI₂
  | false =>
    simp only [Bool.false_eq_true, if_false]
    have hdr : ∀ P : Prop, (!t.plain && decide (1 > 1)) = true → P := fun P hc => by simp at hc
    refine wpAny_ite_split (fun hc => hdr _ hc) (fun _ => ?_)
    refine wpAny_bind ?_
    have hlt : t.led = true := by rw [hled, hbt]; rfl
    refine wpAny_ite_split (fun hc => ?_) (fun _ => ?_)
    · have : (!t.led && true) = true := hc
      rw [hlt] at this; cases this
    refine wpAny_pure ?_
    have h0 : siAt w t 0 = 0 := if_pos (.inl rfl)
    have h1 : siAt w t 1 = j + 1 := by
      unfold siAt
      rw [if_neg (by simp [hbt]), hp]
      rfl
    rw [h0] at hI ⊢
    have hb : SetTable.below t.place 0 = 0 := by rw [hp]; rfl
    show wpAny _ _ (pure (match (#[((PySem.strKind prog w).hash sA, Value.str sA tk)] : Array (Int × Value))[SetTable.below t.place 0]?, t.place[SetTable.below t.place 0]? with
      | some (_, x), some j => some (x, j + 1)
      | _, _ => none)) _ _ _
    rw [hb, hp]
    refine wpAny_pure ?_
    show wpAny _ _ (setField (.ref I) 0 (rawInt (j + 1 : Nat)) >>= _) _ _ _
    refine wpAny_bind (wpAny_setField hI rfl (by simp) ?_)
    have hI₁ : (s.heap.update I (Obj.mapFields (·.setIfInBounds 0 (rawInt (j + 1 : Nat))))).get? I = some (siObj (j + 1) 0 a 1 ep) := Heap.get?_update_self _ hI rfl
    refine wpAny_bind (wpAny_setField (s := { s with heap := s.heap.update I (Obj.mapFields (·.setIfInBounds 0 (rawInt (j + 1 : Nat)))) }) hI₁ rfl (by simp) ?_)
    have hI₂ := Heap.get?_update_self (Obj.mapFields (·.setIfInBounds 1 (rawInt ((0 : Nat) + 1)))) hI₁ rfl
    refine wpAny_pure ⟨_, rfl, wpAny_pure (hQ _ ?_ ((Heap.SameBut.update ..).trans (Heap.SameBut.update ..)))⟩
    rw [h1]; exact hI₂

theorem tx_setNext_end {a : Addr} {es : Array (Int × Value)} {ep : Nat} {t : SetTable} {b : Bool} {A' : Around} {Q : Option (Value × Nat) → Shared → Prop}
    (ho : s.heap.get? a = some { cls := .type "set", dict := none, data := .set es ep t })
    (ht : TxO prog w { cls := .type "set", dict := none, data := .set es ep t } b) (h : Q none s) :
    wpAny (model prog w) A' (setNext a (siAt w t (cond b 1 0)) (cond b 1 0) ep) Q E s := by
  obtain ⟨hf, hsz⟩ := tx_len0 ht
  obtain ⟨_, _, _, e1, hm, hd, hled, hb⟩ := ht
  cases e1
  unfold setNext
  refine wpAny_bind (wpAny_setState_of ho rfl hf ?_)
  dsimp only
  refine wpAny_bind (byText_is ?_)
  cases hbt : w.params.followText "set-order" with
  | true =>
    simp only [if_true]
    rw [if_neg (by simp)]
    cases b with
    | true =>
      obtain ⟨tk, j, rfl, hp⟩ := hb
      refine wpAny_bind (walk_one ho rfl hf ?_)
      exact wpAny_pure h
    | false =>
      obtain ⟨rfl, hp⟩ := hb
      unfold setWalk
      refine wpAny_bind (wpAny_bind (wpAny_setState_of ho rfl hf ?_))
      dsimp only
      refine wpAny_bind (byText_is ?_)
      rw [hbt]
      simp only [if_true]
      refine wpAny_bind (wpAny_askSetting (wpAny_pure ?_))
      exact wpAny_pure h
  | false =>
    simp only [Bool.false_eq_true, if_false]
    have hdr : ∀ P : Prop, (!t.plain && decide (es.size > 1)) = true → P := fun P hc => by rw [hsz] at hc; cases b <;> simp at hc
    refine wpAny_ite_split (fun hc => hdr _ hc) (fun _ => ?_)
    refine wpAny_bind ?_
    have hlt : t.led = true := by rw [hled, hbt]; rfl
    refine wpAny_ite_split (fun hc => ?_) (fun _ => ?_)
    · have : (!t.led && !es.isEmpty) = true := hc
      rw [hlt] at this; cases this
    refine wpAny_pure ?_
    refine wpAny_pure ?_
    cases b with
    | true =>
      obtain ⟨tk, j, rfl, hp⟩ := hb
      have h1 : siAt w t (cond true 1 0) = j + 1 := by
        show siAt w t 1 = _
        unfold siAt
        rw [if_neg (by simp [hbt]), hp]
        rfl
      have hbl : SetTable.below t.place (j + 1) = 1 := by
        rw [hp]
        show SetTable.below.go #[j] (j + 1) 1 0 1 = 1
        simp [SetTable.below.go]
      rw [h1, hbl]
      exact h
    | false =>
      obtain ⟨rfl, hp⟩ := hb
      exact h

theorem tx_stop {I a : Addr} {es : Array (Int × Value)} {ep : Nat} {t : SetTable} {b : Bool} {Q : Option Value → Shared → Prop} (hh : A.handled = none)
    (hI : s.heap.get? I = some (siObj (siAt w t (cond b 1 0)) (cond b 1 0) a (cond b 1 0) ep)) (ho : s.heap.get? a = some { cls := .type "set", dict := none, data := .set es ep t })
    (ht : TxO prog w { cls := .type "set", dict := none, data := .set es ep t } b)
    (hQ : ∀ h', Heap.ExtBut I s.heap h' → Q none { s with heap := h' }) :
    wpAny (model prog w) A (pyNext (.ref I)) Q E s := by
  have hT : s.TypeIs (.ref I) "set_iterator" := ⟨_, hI, rfl⟩
  obtain ⟨hf, hsz⟩ := tx_len0 ht
  unfold pyNext
  refine wpAny_bind (wpAny_attempt (wpAny_callSpecial?_slot (name := Str.ofString "__next__") hT slot_si_next
    (wpAny_call_entry slot_si_next hT entry_si_next ?_ (args_si_next _))))
  show wpAny _ _ (fieldsOf (.ref I) >>= _) _ _ _
  refine wpAny_bind (wpAny_fieldsOf hI rfl ?_)
  dsimp only
  refine wpAny_bind (wpAny_setEntries_of ho rfl hf ?_)
  rw [if_neg (by rw [hsz]; simp)]
  refine wpAny_bind ?_
  refine tx_setNext_end ho ht ?_
  show wpAny _ _ (setField (.ref I) 2 .none >>= _) _ _ _
  refine wpAny_bind (wpAny_setField hI rfl (by simp) ?_)
  refine wpAny_bind ?_
  simp only [newExc, newTuple]
  refine wpAny_bind (wpAny_newObj_type ?_ (by size_fits))
  refine wpAny_bind (m := firstArgMember _ _) (wpAny_of_eq (a := Value.none) (by first | rfl | (simp only [firstArgMember]; rfl)) ?_)
  refine wpAny_newObj_type ?_ (by size_fits)
  simp only [raiseNew]
  refine wpAny_bind (wpAny_handled ?_)
  rw [show A.in1.handled = none from hh]
  refine wpAny_bind (wpAny_pure (wpAny_throw ?_))
  refine wpAny_bind (wpAny_isInstance (T := "StopIteration") (b := true) ⟨_, Heap.get?_push_size _ rfl, rfl⟩ isSubtype_stop ?_)
  exact wpAny_pure (hQ _ (((Heap.SameBut.update ..).extBut.push _).push _))

theorem tx_walks {a I : Addr} (hh : A.handled = none) (hne : a ≠ I) {es : Array (Int × Value)} {ep : Nat} {t : SetTable} {b : Bool} (ht : TxO prog w { cls := .type "set", dict := none, data := .set es ep t } b) :
    Walks prog w A I [I, a] [I] (cond b 1 0) (fun _ v => ∃ tk, v = .str sA tk)
      (fun i h => h.get? I = some (siObj (siAt w t i) i a (cond b 1 0) ep) ∧ h.get? a = some { cls := .type "set", dict := none, data := .set es ep t }) where
  sub := fun b hb => by simp at hb; simp [hb]
  frame := fun _ _ _ st hk => ⟨hk I (by simp) _ st.1, hk a (by simp) _ st.2⟩
  item := fun i s Q E hi st hQ => by
    cases b with
    | false => exact absurd hi (Nat.not_lt_zero _)
    | true =>
      have hi : i < 1 := hi
      obtain rfl : i = 0 := by omega
      obtain ⟨tk, hes⟩ : ∃ tk, es = #[((PySem.strKind prog w).hash sA, .str sA tk)] := by
        obtain ⟨_, _, _, e1, _, _, _, tk, _, e2, _⟩ := ht
        cases e1
        exact ⟨tk, e2⟩
      refine tx_next st.1 st.2 ht hes fun h' hI' hs' => ?_
      exact hQ _ h' s.toks ⟨tk, rfl⟩ ⟨hI', (hs'.2 a hne).trans st.2⟩ fun b o hb e => hs'.extBut b o (fun h => hb (by simp [h])) e
  done := fun s Q E st hQ => tx_stop hh st.1 st.2 ht fun h' he' => hQ h' s.toks fun b o hb e => he' b o (fun h => hb (by simp [h])) e
  self := fun i s Q E st hQ => by
    have hT : s.TypeIs (.ref I) "set_iterator" := ⟨_, st.1, rfl⟩
    refine wpAny_pyIter_slot hT slot_si_iter (wpAny_call_entry slot_si_iter hT entry_si_iter ?_ (args_si_iter _))
    show wpAny _ _ (ret (.ref I)) _ _ s
    exact wpAny_pure ⟨_, rfl, "set_iterator", _, hT, slot_si_next.lookup, hQ⟩

theorem tx_src {a : Addr} {o : Obj} {b : Bool} (ht : TxO prog w o b) : KdlSrc prog w "set" a a (cond b 1 0) (fun _ v => ∃ tk, v = .str sA tk) (fun h => h.get? a = some o) where
  type := fun s ho => tx_type (s := s) ho ht
  there := fun h ho => ⟨Heap.lt_size ho, Heap.lt_size ho⟩
  keep := fun h h' ho hk => hk a (.inl rfl) o ho
  notList := by decide
  notTuple := by decide
  hint := fun A E s Q ho hq => tx_hint (tx_type (s := s) ho ht) hq
  iter := fun A s hh ho => by
    obtain ⟨es, ep, t, rfl, r⟩ := id ht
    refine ⟨siObj (siAt w t 0) 0 a (cond b 1 0) ep, _, fun E Q hq => ?_, tx_walks hh (Nat.ne_of_lt (Heap.lt_size ho)) ht, Heap.get?_push_size _ rfl, Heap.get?_push_of_some _ ho⟩
    refine tx_pyIter ho ht ?_
    have h0 : siAt w t 0 = 0 := if_pos (.inl rfl)
    rw [h0] at hq
    exact hq
end

section
variable {prog : Program} {w : World} {A : Around} {E : Value → Shared → Prop} {s : Shared}

theorem sort_small {D : Addr} {vs : List Value} {n : Nat} {Q : Value → Shared → Prop} (ho : s.heap.get? D = some (lstO vs n)) (hv : vs.length < 2)
    (h : Q .none { s with heap := sortedHeap s.heap D vs vs.toArray }) : wpAny (model prog w) A (call (.builtin "list.sort") [.ref D]) Q E s := by
  have hT : s.TypeIs (.ref D) "list" := ⟨_, ho, rfl⟩
  have ha : D < s.heap.objs.size := Heap.lt_size ho
  have hsz : vs.toArray.size < 2 := by simpa using hv
  have hline : vs.toArray.size ≤ sizeLine := by rw [sizeLine_eq]; omega
  refine wpAny_call_entry slot_list_sort hT entry_list_sort ?_ (args_list_sort _)
  rw [list_sort_plain]
  refine wpAny_bind (listItems_at ho rfl ?_)
  refine wpAny_bind (listUpdate_at ho rfl ?_ hline (by show 0 ≤ _; omega))
  obtain ⟨e1, ho1⟩ : ∃ e1, (s.heap.update D (Obj.mapSeq fun _ => #[])).get? D = some (seqObj "list" #[] e1) := ⟨_, get?_update_seq ho (fun _ => #[])⟩
  refine wpAny_bind (seqEpoch_at ho1 rfl ?_)
  refine wpAny_bind (wpAny_newTuple ?_ (by rw [sizeLine_eq]; simpa using (by omega : vs.length ≤ 16777216)))
  refine wpAny_bind (wpAny_newList ?_)
  refine wpAny_holding ?_
  have ho6 : (((s.heap.update D (Obj.mapSeq fun _ => #[])).push (seqObj "tuple" vs.toArray 0)).push (seqObj "list" #[] 0)).get? D = some (seqObj "list" #[] e1) := by
    rw [Heap.get?_push_ne _ _ _ (by rw [size_push', Heap.size_update]; exact Nat.ne_of_lt (Nat.lt_succ_of_lt ha)), Heap.get?_push_ne _ _ _ (by rw [Heap.size_update]; exact Nat.ne_of_lt ha)]
    exact ho1
  show wpAny (model prog w) _ _ _ E { s with heap := ((s.heap.update D (Obj.mapSeq fun _ => #[])).push (seqObj "tuple" vs.toArray 0)).push (seqObj "list" #[] 0) }
  dsimp only
  rw [if_pos hsz, if_pos hsz]
  refine wpAny_bind (wpAny_pure ?_)
  rw [StateT.run_pure]
  refine wpAny_bind (wpAny_pure ?_)
  dsimp only
  refine wpAny_bind (seqEpoch_at ho6 rfl ?_)
  have hout : (arrOf (SortSt.mk' general' (vs.toArray.zip vs.toArray) #[] 7 none)).map (·.2) = vs.toArray := by
    show (vs.toArray.zip vs.toArray).map (·.2) = vs.toArray
    apply Array.ext'
    simp only [Array.toList_map, Array.toList_zip, List.toList_toArray]
    exact List.map_snd_zip (Nat.le_refl _)
  rw [hout]
  refine wpAny_bind (listUpdate_at ho6 rfl ?_ (by show 0 ≤ _; omega) (by omega))
  simp only [bne_self_eq_false, Bool.false_eq_true, if_false]
  exact wpAny_pure ⟨_, rfl, h⟩

theorem tx_sorted {h₀ : Heap} {L : Addr} {m : Str → Option Value} {news : Led} {a : Addr} {o : Obj} {b : Bool} {Q : Value → Shared → Prop} (hh : A.handled = none)
    (F : Fr h₀ L s.heap m) (N : News h₀ L s.heap news) (hm : (a, o) ∈ news) (ht : TxO prog w o b)
    (h : ∀ D h' tk' vs e, Fr h₀ L h' m → News h₀ L h' ((D, lstO vs e) :: news) → (∀ q ∈ news, q.1 < D) → (b = false → vs = []) → (b = true → ∃ tk, vs = [.str sA tk]) → Q (.ref D) { s with heap := h', toks := tk' }) :
    wpAny (model prog w) A (call (.builtin "sorted") [.ref a]) Q E s := by
  refine kdu_sorted (tx_src ht) hh F N (N _ hm).1 (by rw [sizeLine_eq]; cases b <;> simp) fun D h' tk vs F' N' l1 hl hv => ?_
  have hD := (N' _ (.head _)).1
  have hl2 : vs.length < 2 := by rw [hl]; cases b <;> simp
  refine sort_small (s := { s with heap := h', toks := tk }) (n := 0) hD hl2 ?_
  obtain ⟨e, he⟩ := sortedHeap_at (out := vs.toArray) hD
  have hk : ∀ x o', x ≠ D → h'.get? x = some o' → (sortedHeap h' D vs vs.toArray).get? x = some o' := fun x o' hx q => (sortedHeap_old hx (Heap.lt_size q)).trans q
  obtain ⟨oL, a1, a2, hL, a3⟩ := F'.ns
  have hLD : L ≠ D := fun q => (N' _ (.head _)).2.1 q.symm
  refine h D _ _ vs e ⟨⟨oL, a1, a2, hk _ _ hLD hL, a3⟩, fun x o' q => hk x o' (fun z => ?_) (F'.keep x o' q), F'.above⟩ (fun p hp => ?_) l1 (fun hb => ?_) (fun hb => ?_)
  · have := (N' _ (.head _)).2.2
    rw [← z, q] at this; cases this
  · rcases List.mem_cons.mp hp with rfl | hp
    · exact ⟨he, (N' _ (.head _)).2⟩
    · exact ⟨hk _ _ (Nat.ne_of_lt (l1 p hp)) (N' p (.tail _ hp)).1, (N' p (.tail _ hp)).2⟩
  · subst hb; exact List.length_eq_zero_iff.mp hl
  · subst hb
    obtain ⟨v, rfl⟩ := List.length_eq_one_iff.mp hl
    obtain ⟨tk', rfl⟩ := hv 0 v rfl
    exact ⟨tk', rfl⟩
end

section
variable {prog : Program} {w : World} {A : Around} {E : Value → Shared → Prop} {s : Shared}

theorem tx_code_new {Q₁ : Value → Shared → Prop} (h : Q₁ (.ref s.heap.objs.size) { s with heap := s.heap.push (freshSet w) }) :
    codeAny (model prog w) A (.call (.builtin "set.__new__") ⟨[.type "set"], []⟩) (wants Q₁ E) s := by
  refine codeAny_of_tree ?_
  show wpAny _ A.in1 (do checkBuiltinCall "set.__new__" ⟨[.type "set"], []⟩; again (.builtin "set.__new__" ⟨[.type "set"], []⟩)) _ _ s
  refine wpAny_bind (wpAny_of_eq F.newCall_set_0 (wpAny_pure ⟨plainId_quiet F.plain_set_new _, codeAny_builtin F.entry_set_new ?_⟩))
  rw [Around.under_plainId F.plain_set_new _]
  show wpAny _ _ (Builtin.Frozenset.newClass "set" ⟨[.type "set"], []⟩ >>= fun p => newSet p.1 >>= fun v => ret v) _ _ _
  refine wpAny_bind (m := Builtin.Frozenset.newClass "set" ⟨[.type "set"], []⟩) ?_
  unfold Builtin.Frozenset.newClass
  have hsub := sub_set_self
  obtain ⟨hp, g, d, tk, os⟩ := s
  dsimp only
  wp_walk
  refine wpAny_askSetting (wpAny_pure ?_)
  dsimp only
  simp only [newObj]
  exact wpAny_bind (wpAny_alloc (wpAny_pure (wpAny_pure h)))

theorem tx_call_set {Q : Value → Shared → Prop} (h : Q (.ref s.heap.objs.size) { s with heap := s.heap.push (freshSet w) }) :
    wpAny (model prog w) A (call (.type "set") []) Q E s := by
  obtain ⟨c, tl, hmro⟩ := F.called_set.mro
  have hmade := F.called_set.made
  have hsub := F.called_set.sub
  refine wpAny_call (codeAny_of_tree ?_)
  show wpAny _ _ (callAny (.type "set") _) _ _ _
  refine wpAny_pure ⟨Code.quiet_builtin _ (by decide +kernel), codeAny_builtin F.entry_type_call ?_⟩
  rw [Around.under_plain (weight_type_call_type "set" [] []) rfl]
  have h1 := F.called_set.notType
  have h2 := F.called_set.canCreate
  have hct := F.typeCall_set_0
  repeat (any_goals (first | assumption | wp_step))
  refine codeAny_mono (tx_code_new (E := E) (Q₁ := fun obj s₁ => obj = .ref s.heap.objs.size ∧ s₁ = { s with heap := s.heap.push (freshSet w) }) ⟨rfl, rfl⟩) fun r s₁ hr => ?_
  cases r with
  | error e => exact hr
  | ok fl =>
    cases fl with
    | ret obj =>
      obtain ⟨rfl, rfl⟩ := hr
      have hS : (s.heap.push (freshSet w)).get? s.heap.objs.size = some (freshSet w) := Heap.get?_push_size _ rfl
      have hT : Shared.TypeIs { s with heap := s.heap.push (freshSet w) } (.ref s.heap.objs.size) "set" := ⟨_, hS, rfl⟩
      have hli := F.called_set.init.lookup
      have hbi := F.called_set.init.bind (.ref s.heap.objs.size)
      repeat (any_goals (first | assumption | wp_step))
      refine codeAny_mono (codeAny_call_builtin (R := wants (fun r s₂ => r = .none ∧ Q (.ref s.heap.objs.size) s₂) E) F.called_set.init.plain F.entry_set_init (check_set_init hT ?_)) fun r₂ s₂ hr₂ => ?_
      · unfold Builtin.«set.__init__» noKeywords
        wp_walk
        exact ⟨rfl, h⟩
      · cases r₂ with
        | error e => exact hr₂
        | ok fl₂ =>
          cases fl₂ with
          | ret r =>
            obtain ⟨rfl, hq⟩ := hr₂
            repeat (any_goals (first | assumption | wp_step))
          | _ => exact hr₂.elim
    | _ => exact hr.elim

end

section
variable {prog : Program} {w : World} {A : Around} {E : Value → Shared → Prop} {s : Shared}

theorem tx_display {K : Frag} {h₀ : Heap} {L : Addr} {m : Str → Option Value} {news : Led} {e : PySem.Expr} {pos : Pos} {env : Env} {tk : Tok} {Q : Value → Shared → Prop} (F : Fr h₀ L s.heap m) (N : News h₀ L s.heap news) (X : K.In h₀) (hc : kdsCode K env.code = true)
    (hp : kdsPlain e = true)
    (hv : ∀ h' (P : Value → Shared → Prop), Fr h₀ L h' m → P (.str sA tk) { s with heap := h' } → wpAny (model prog w) A (eval e env) P E { s with heap := h' })
    (h : ∀ D h' o', TxO prog w o' true → Fr h₀ L h' m → News h₀ L h' ((D, o') :: news) → (∀ p ∈ news, p.1 < D) → Q (.ref D) { s with heap := h', toks := s.toks + 1 }) :
    wpAny (model prog w) A (eval (.Set [e] 0 pos) env) Q E s := by
  rw [arm_eval_Set]
  refine wpAny_bind (wpAny_standAt ?_)
  refine wpAny_bind (kds_main (X.keeps F.keep) hc fun b => ?_)
  have e1 : starEach [e] env = [(false, eval e env)] := by
    rw [kds_star [e] (by simp [hp]), arm_evalEach_cons]
    rfl
  rw [e1]
  have hroad : displayRoad 0 [e] = .oneByOne := rfl
  rw [hroad]
  unfold setDisplay
  rw [if_neg (by decide)]
  refine wpAny_bind (tx_newSet ?_)
  have hlt : ∀ p ∈ news, p.1 < s.heap.objs.size := fun p hp => Heap.lt_size (N p hp).1
  have F1 := F.push (freshSet w)
  have N1 : News h₀ L (s.heap.push (freshSet w)) ((s.heap.objs.size, freshSet w) :: news) := News.push F N _ rfl
  dsimp only [List.map, List.findIdx?, List.length]
  refine wpAny_bind (wpAny_holding ?_)
  show wpAny _ _ (evalAll [do let v ← eval e env; standAt pos; pure v] >>= fun first => _) _ _ _
  refine wpAny_bind ?_
  show wpAny _ _ ((eval e env >>= fun v => standAt pos >>= fun _ => pure v) >>= fun v => holding [v] (evalAll []) >>= fun r => pure (v :: r)) _ _ _
  refine wpAny_bind (wpAny_bind (hv _ _ F1 ?_))
  refine wpAny_bind (wpAny_standAt (wpAny_pure ?_))
  refine wpAny_bind (wpAny_holding (wpAny_pure (wpAny_pure ?_)))
  refine wpAny_bind (wpAny_holding ?_)
  refine wpAny_bind ?_
  rw [List.forIn_cons]
  refine wpAny_bind (wpAny_bind (tx_add (Heap.get?_push_size _ rfl) tx_fresh fun h' o' ho' hg' hsb => ?_))
  dsimp only
  refine wpAny_pure ?_
  dsimp only
  rw [List.forIn_nil]
  refine wpAny_pure ?_
  rw [if_neg (by decide)]
  refine wpAny_pure ?_
  refine wpAny_bind ?_
  show wpAny _ _ (forIn [] PUnit.unit _) _ _ _
  rw [List.forIn_nil]
  refine wpAny_pure (wpAny_pure (wpAny_pure ?_))
  have hm := N1 _ (.head _)
  refine h _ h' o' ho' (F1.change hsb hm.2.1 hm.2.2) (fun p hp => ?_) hlt
  rcases List.mem_cons.mp hp with rfl | hp
  · exact ⟨hg', hm.2⟩
  · exact ⟨(hsb.2 _ (Nat.ne_of_lt (hlt p hp))).trans (N1 p (.tail _ hp)).1, (N1 p (.tail _ hp)).2⟩
end

local macro_rules | `(tactic| walk_at "m ty") => `(tactic| (k_here; with_reducible show wpAny _ _ (call (Value.type _) [Value.ref _]) _ _ _))
local macro_rules | `(tactic| walk_at "m bi") => `(tactic| (k_here; with_reducible show wpAny _ _ (call (Value.builtin _) [Value.ref _]) _ _ _))
set_option hygiene true in
local macro_rules | `(tactic| walk_at "m lt") => `(tactic| (intro l1; (try k_lt l1)))
local macro_rules | `(tactic| k_room) => `(tactic| ktr_room)
local macro_rules | `(tactic| k_units) => `(tactic| ktr_units)
local macro_rules | `(tactic| k_mem) => `(tactic| assumption)
local macro_rules | `(tactic| k_all) => `(tactic| assumption)
local macro_rules | `(tactic| walk_at "eval Set") => `(tactic| (k_here; k_dflt (refine tx_display (by k_asm) (by k_asm) (by k_asm) (by first | k_is | kernel_rfl!) (by rfl) (by intro _ _ F2 p2; exact ld F2 (by first | rfl | tb_rel) p2) ?_); intro _ _ _ _ _ _ _))
local macro_rules | `(tactic| walk_at "exec For Name Name cons nil") => `(tactic| walk_at "m for")
local macro_rules | `(tactic| tb_rel) => `(tactic| (rename FrameIs _ _ => hq'; exact hq' _ _ rfl))
local macro_rules | `(tactic| walk_at "eval Name") => `(tactic| (k_here; (with_reducible show wpAny _ _ (eval _ (envOf _ _ _ _ _)) _ _ _); k_dflt (refine ld (by k_asm) (by (fail_if_success exact rfl); tb_rel) ?_; k_whole)))
local macro_rules | `(tactic| walk_at "loadName") => `(tactic| (k_here; (with_reducible show wpAny _ _ (loadName (envOf _ _ _ _ _) _) _ _ _); k_dflt (refine ldn (by k_asm) (by (fail_if_success exact rfl); tb_rel) ?_; k_whole)))
local macro_rules | `(tactic| walk_at "execs cons") => `(tactic| ((with_reducible refine wpAny_execs_cons ?_); (try dsimp only); (try k_fold)))
local macro_rules | `(tactic| infer_instance) => `(tactic| with_reducible first | assumption | exact List.mem_cons_self | exact sub_same | exact sub_nil | (refine List.mem_cons_of_mem _ ?_; infer_instance) | (refine sub_cons ?_ ?_; (focus infer_instance); infer_instance) | (refine sub_app ?_ ?_; (focus infer_instance); infer_instance) | (refine List.mem_append_left _ ?_; infer_instance) | (refine List.mem_append_right _ ?_; infer_instance) | (refine sub_tail ?_; infer_instance) | (refine sub_left ?_; infer_instance) | (refine sub_right ?_; infer_instance))
local macro_rules | `(tactic| array_get_dec) => `(tactic| first | (infer_instance; done) | fail)
section
variable {x y : Int} {P Q : Prop}
theorem ine_same (h : x = y) (hq : Q) : if (x != y) = true then P else Q := by rw [if_neg (by simp [h])]; exact hq
theorem ine_diff (h : x ≠ y) (hp : P) : if (x != y) = true then P else Q := by rw [if_pos (by simp [h])]; exact hp
theorem ieq_same (h : x = y) (hp : P) : if (x == y) = true then P else Q := by rw [if_pos (by simp [h])]; exact hp
theorem ieq_diff (h : x ≠ y) (hq : Q) : if (x == y) = true then P else Q := by rw [if_neg (by simp [h])]; exact hq
theorem dec_yes {c : Prop} [Decidable c] (h : c) (hp : P) : if decide c = true then P else Q := by rw [if_pos (decide_eq_true h)]; exact hp
theorem dec_no {c : Prop} [Decidable c] (h : ¬ c) (hq : Q) : if decide c = true then P else Q := by rw [if_neg (by rw [decide_eq_false h]; decide)]; exact hq
end

theorem topNotIn {prog : Program} {w : World} {A : Around} {E : Value → Shared → Prop} {s : Shared} {h₀ : Heap} {L a : Addr} {m : Str → Option Value} {K : Frag} {es : Array DictEntry} {n : Nat} {x : PySem.Str} {t : Tok}
    {r : Option Value} {Q : Value → Shared → Prop} (F : Fr h₀ L s.heap m) (X₀ : K.In h₀) (hl : K.lookup a = some ⟨.type "dict", none, .dict es n, #[]⟩) (hk : KeysLit w.params es.toList) (e : nsIn K a x = some r) (lo : (a == sysModules) = false)
    (h : Q (.bool (!r.isSome)) { s with toks := s.toks + 1 }) : wpAny (model prog w) A (compareOp .NotIn (.str x t) (.ref a)) Q E s :=
  wpAny_notIn_of (strKind_is prog w x t) lo (mapOf_K (prog := prog) (X₀.keeps F.keep) hl hk) (by rw [find_K hl e]; exact h)

inductive Kd where
  | int | lvar | tloc | asg | vcall | seq | ifk | whk
deriving DecidableEq

noncomputable def Kd.s : Kd → PySem.Str
  | .int => Str.ofString "int" | .lvar => Str.ofString "lvar" | .tloc => Str.ofString "t_local" | .asg => Str.ofString "assign" | .vcall => Str.ofString "vcall" | .seq => Str.ofString "seq" | .ifk => Str.ofString "if" | .whk => Str.ofString "while"
noncomputable def Kd.n : Kd → Nat
  | .int => 1 | .lvar => 1 | .tloc => 1 | .asg => 2 | .vcall => 1 | .seq => 1 | .ifk => 3 | .whk => 3
noncomputable def Kd.fa : Kd → Addr
  | .int => 61 | .lvar => 69 | .tloc => 74 | .asg => 82 | .vcall => 86 | .seq => 97 | .ifk => 98 | .whk => 99

theorem fields_tup (w : World) (k : Kd) : ∃ vs n, (hd.heap_39 w.params).lookup k.fa = some ⟨.type "tuple", none, .seq (List.toArray vs) n, #[]⟩ ∧ vs.length = k.n := by
  cases k <;> exact ⟨_, _, rfl, rfl⟩
inductive FieldsDict (w : World) : Prop
  | ex (es : Array DictEntry) (n : Nat) (h1 : (hd.heap_39 w.params).lookup 55 = some ⟨.type "dict", none, .dict es n, #[]⟩) (h2 : KeysLit w.params es.toList) (h3 : ∀ k : Kd, nsIn (hd.heap_39 w.params) 55 k.s = some (some (.ref k.fa)))
theorem fields_dict (w : World) : FieldsDict w := by
  refine ⟨_, _, rfl, ?_, ?_⟩
  · k_keys
  · intro k
    cases k <;> kernel_rfl

section
variable {prog : Program} {w : World} {A : Around} {E : Value → Shared → Prop} {s : Shared} {h₀ : Heap} {L : Addr} {m : Str → Option Value} {k : Kd} {t : Tok} {Q : Value → Shared → Prop} {news : Led}
theorem in_fields (F : Fr h₀ L s.heap m) (X₀ : (hd.heap_39 w.params).In h₀) (h : Q (.bool false) { s with toks := s.toks + 1 }) : wpAny (model prog w) A (compareOp .NotIn (.str k.s t) (.ref 55)) Q E s := by
  obtain ⟨es, n, h1, h2, h3⟩ := fields_dict w
  exact topNotIn F X₀ h1 h2 (h3 k) (by decide) h
theorem get_fields {value slice : PySem.Expr} (F : Fr h₀ L s.heap m) (X₀ : (hd.heap_39 w.params).In h₀) (h : Q (.ref k.fa) { s with toks := s.toks + 1 })
    (hs : subscripted slice false (.ref 55) (.str k.s t) = operate [.ref 55, .str k.s t] (getItem (.ref 55) (.str k.s t)) := by with_unfolding_all rfl) :
    wpAny (model prog w) A (subscriptTail value slice (.ref 55) (.str k.s t)) Q E s := by
  obtain ⟨es, n, h1, h2, h3⟩ := fields_dict w
  exact topItem_K F X₀ h1 h2 (h3 k) h hs
theorem len_fields (F : Fr h₀ L s.heap m) (X₀ : (hd.heap_39 w.params).In h₀) (h : ∀ t', Q (.int (k.n : Int) t') { s with toks := s.toks + 1 + 1 }) : wpAny (model prog w) A (call (.builtin "len") [.ref k.fa]) Q E s := by
  obtain ⟨vs, n, h1, h2⟩ := fields_tup w k
  refine len_tuple (tupK (X₀.keeps F.keep) h1) ?_ ?_
  · rw [List.size_toArray, h2]; cases k <;> decide
  · rw [List.size_toArray, h2]; exact h _
theorem len_tupN {p : Addr} {vs : List Value} {n : Nat} (N : News h₀ L s.heap news) (hm : (p, tupO vs n) ∈ news) (hl : vs.length < 1000000) (h : ∀ t', Q (.int (vs.length : Int) t') { s with toks := s.toks + 1 + 1 }) :
    wpAny (model prog w) A (call (.builtin "len") [.ref p]) Q E s := by
  refine len_tuple (N.isTup hm) ?_ ?_
  · rw [List.size_toArray]; omega
  · rw [List.size_toArray]; exact h _
theorem len_tupE {p : Addr} {vs : List Value} {n c : Nat} (N : News h₀ L s.heap news) (hm : (p, tupO vs n) ∈ news) (he : vs.length = c) (hl : vs.length < 1000000) (h : ∀ t', Q (.int (c : Int) t') { s with toks := s.toks + 1 + 1 }) :
    wpAny (model prog w) A (call (.builtin "len") [.ref p]) Q E s := by
  subst he
  exact len_tupN N hm hl h
theorem len_lstN {p : Addr} {vs : List Value} {n : Nat} (N : News h₀ L s.heap news) (hm : (p, lstO vs n) ∈ news) (hl : vs.length < 1000000) (h : ∀ t', Q (.int (vs.length : Int) t') { s with toks := s.toks + 1 + 1 }) :
    wpAny (model prog w) A (call (.builtin "len") [.ref p]) Q E s := by
  refine len_list ⟨_, (N _ hm).1, rfl, n, rfl⟩ ?_ ?_
  · rw [List.size_toArray]; omega
  · rw [List.size_toArray]; exact h _
theorem tup_same {p : Addr} {vs : List Value} {n : Nat} (N : News h₀ L s.heap news) (hm : (p, tupO vs n) ∈ news) (h : Q (.ref p) s) : wpAny (model prog w) A (call (.type "tuple") [.ref p]) Q E s :=
  call_tuple_same (items := vs.toArray) ⟨_, (N _ hm).1, rfl, n, rfl⟩ h
end

local macro_rules | `(tactic| walk_at "compareOp NotIn str ref") => `(tactic| (k_here; k_dflt (refine topNotIn (by k_asm) (by k_asm) (by k_is) (by k_keys) (by k_is) (by decide) ?_); (try dsimp only [Option.isSome, Bool.not_true, Bool.not_false])))
local macro_rules | `(tactic| walk_at "compareOp NotIn str ref") => `(tactic| (k_here; (with_reducible show wpAny _ _ (compareOp CmpOp.NotIn (Value.str (Kd.s _) _) _) _ _ _); k_dflt (refine in_fields (by k_asm) (by k_asm) ?_)))
local macro_rules | `(tactic| walk_at "subscriptTail") => `(tactic| (k_here; (with_reducible show wpAny _ _ (subscriptTail _ _ (Value.ref 55) (Value.str (Kd.s _) _)) _ _ _); k_dflt (refine get_fields (by k_asm) (by k_asm) ?_)))
local macro_rules | `(tactic| walk_at "call builtin:len") => `(tactic| (k_here; (with_reducible show wpAny _ _ (call (Value.builtin "len") [Value.ref (Kd.fa _)]) _ _ _); k_dflt (refine len_fields (by k_asm) (by k_asm) ?_); intro _))
local macro_rules | `(tactic| walk_at "call builtin:len") => `(tactic| (k_here; (with_reducible show wpAny _ _ (call (Value.builtin "len") [Value.ref _]) _ _ _); k_dflt (first | (refine len_tupE (by k_asm) (by k_mem) (by assumption) (by omega) ?_) | (refine len_tupN (by k_asm) (by k_mem) (by omega) ?_) | (refine len_lstN (by k_asm) (by k_mem) (by omega) ?_)); intro _))
local macro_rules | `(tactic| walk_at "ite") => `(tactic| (k_here; with_reducible first | (refine ine_same (by first | rfl | omega) ?_) | (refine ieq_same (by first | rfl | omega) ?_) | (refine ieq_diff (by omega) ?_)))
local macro_rules | `(tactic| walk_at "call type:tuple") => `(tactic| (walk_at "m ty"; k_dflt (refine tup_same (by k_asm) (by k_mem) ?_; k_whole)))
noncomputable abbrev nodeO (w : World) (k : Kd) (p : Addr) (t1 t2 t3 t4 t5 t6 : Tok) : Obj := dictOf [⟨PyData.keyHash w.params (Str.ofString "kind"), .str (Str.ofString "kind") t1, .str k.s t2⟩, ⟨PyData.keyHash w.params (Str.ofString "parts"), .str (Str.ofString "parts") t3, .ref p⟩,
    ⟨PyData.keyHash w.params (Str.ofString "line"), .str (Str.ofString "line") t4, .int 0 t5⟩, ⟨PyData.keyHash w.params (Str.ofString "own"), .str (Str.ofString "own") t6, .none⟩] 4
inductive NodeD (w : World) (k : Kd) (p : Addr) (o : Obj) : Prop
  | ex (t1 : _) (t2 : _) (t3 : _) (t4 : _) (t5 : _) (t6 : _) (h1 : o = nodeO w k p t1 t2 t3 t4 t5 t6)

theorem node_init (w : World) (R : Led) (x d p : Addr) (k : Kd) (tk : Tok) (vs : List Value) (n : Nat) (hp : (p, tupO vs n) ∈ R) (hn : vs.length = k.n) (hlt : ∀ q ∈ R, q.1 < d) (hdx : d < x) :
    Ct w 137 [.ref x, .str (Kd.s k) tk, .ref p] 20 [(x, instObj 147 d), (d, dictOf [] 0)] R (fun r M' tl => r = .none ∧ tl = [] ∧ ∃ o, NodeD w k p o ∧ M' = [(x, instObj 147 d), (d, o)]) := by
  have hk8 : vs.length < 1000000 := by rw [hn]; cases k <;> decide
  have hR : ∀ q ∈ R, q.1 ≠ d := fun q hq => Nat.ne_of_lt (hlt q hq)
  have hdx' : x ≠ d := Nat.ne_of_gt hdx
  unfold Ct; k_fill; intro dp un gd A₀ base h₀ outer env L m s pp loose mean mg mb Q B F X N T hf hk hd hu hret
  simp only [List.cons_append, List.nil_append] at N
  k_dflt (refine' code_def ?k1 ?k2 ?k3 ?k4 ?k5 ?kA ?kF ?kK ?k6 ?k7 ?k8 ?k9 ?kB ?_ ?c2 ?c3 ?c4 ?c5; (case kA => exact rfl); (case kF => assumption); (case kK => assumption); (case k1 => k_asm); (case k2 => k_asm); (case k3 => k_asm); (case k4 => k_asm); (case k5 => k_asm); (case k6 => k_is); (case k7 => k_is); (case k8 => ktr_room); (case k9 => first | exact BindsTo.of_eq rfl | exact binds_K (by k_in) rfl (by k_is) rfl rfl rfl); (case c5 => decide); (case kB => exact locs rfl); (case c2 => exact rfl); (case c3 => exact rfl); (case c4 => exact rfl); k_whole; intro g' L' h' FG' F' N' B' X' T'; (try dsimp only); (try k_fold); (refine frame_name F' ?_); clear F'; intro mm' F' hfr')
  k_steps
  refine hret _ [_, _] [] _ _ (by assumption) (by assumption) (fun _ _ _ h => nomatch h) ⟨rfl, rfl, _, ⟨_, _, _, _, _, _, rfl⟩, rfl⟩

theorem node_new {w : World} {dp un : Nat} {gd : Option (List Code)} {A₀ : Around} {base h₀ : Heap} {outer : List Env} {env : Env} {L : Addr} {m : PySem.Str → Option Value} {s : Shared} {pp : Program} {loose : List PySem.Str} {mean : ExcName → Option Value} {mg mb : PySem.Str → Option Value}
    {E : Value → Shared → Prop} {Q : Value → Shared → Prop} {news : Led} (k : Kd) {p : Addr} {tk : Tok} {vs : List Value} {n : Nat}
    (B : Below A₀ base outer h₀) (F : Fr h₀ L s.heap m) (X : (hd.heap_39 w.params).In h₀) (N : News h₀ L s.heap news) (T : Top pp loose mean mg mb h₀)
    (hf : env.frame = some L) (hk : env.scope.kind = .function) (hd : dp + 25 < recursionLimit) (hu : un + 300 < cLine) (hp : (p, tupO vs n) ∈ news) (hn : vs.length = k.n)
    (h : ∀ x d o h' tk', NodeD w k p o → Fr h₀ L h' m → News h₀ L h' ((x, instObj 147 d) :: (d, o) :: news) → (∀ q ∈ news, q.1 < d) → d < x → Q (.ref x) { s with heap := h', toks := tk' }) :
    wpAny (model PySem.Challenge.rw_pq0485_01.row.prog w) (Ar dp un gd env outer) (call (.ref 147) [.str k.s tk, .ref p]) Q E s := by
  have key : ∀ (x dx : Addr) (h' : Heap), Fr h₀ L h' m → News h₀ L h' ((x, instObj 147 dx) :: (dx, dictOf [] 0) :: news) → (∀ p ∈ news, p.1 < dx) → dx < x →
      codeAny (model PySem.Challenge.rw_pq0485_01.row.prog w) ((Ar dp un gd env outer).under (.builtin "type.__call__" ⟨.ref 147 :: [.str k.s tk, .ref p], []⟩)) (.call (.ref 137) ⟨.ref x :: [.str k.s tk, .ref p], []⟩)
        (InitBack x fun r s' => match r with | .ok (.ret v) => Q v s' | .ok _ => False | .error e => E e s') { s with heap := h' } := by
    intro x dx h' F' N' l1 l2
    refine node_init w news x dx p k tk vs n hp hn l1 l2 _ _ _ A₀ base h₀ outer env L m { s with heap := h' } pp loose mean mg mb _ B F' X N' T hf hk ?_ ?_ ?_
    · show dp + 1 + 20 < _; omega
    · show un + 1 + 8 * 20 < _; exact Nat.lt_of_le_of_lt (Nat.le_trans (Nat.le_of_eq (Nat.add_assoc un 1 _)) (Nat.add_le_add_left (by decide) un)) hu
    · rintro r M' tl h'' tk' F'' N'' _ ⟨rfl, rfl, o, ho, rfl⟩
      exact ⟨rfl, h x dx o h'' tk' ho F'' N'' l1 l2⟩
  k_fill
  k_dflt (refine' call_cls F X N ?k4 ?k5 ?k6 ?_; (case k4 => k_is); (case k5 => k_is); (case k6 => k_is); exact key)
/-- the name is a local one -/
theorem loc_chk {M : Model} {A : Around} {E : Value → Shared → Prop} {s : Shared} {x name : PySem.Str} {scope : Scope} {pos : Pos} {L a : Addr} {cd : Value} {Q : Value → Shared → Prop} (hl : (envOfC name scope L a cd).kindOf x = some .local) (g : wpAny M A (eval (.Name x pos) (envOfC name scope L a cd)) Q E s) : wpAny M A (eval (.Name x pos) (envOfC name scope L a cd)) Q E s := g

noncomputable def IsLit : Value → Prop
  | .none => True
  | .bool _ => True
  | .int .. => True
  | _ => False

noncomputable abbrev sqO (tup : Bool) (vs : List Value) (n : Nat) : Obj := { cls := .type (match tup with | true => "tuple" | false => "list"), data := .seq vs.toArray n }

noncomputable def IsC (c : Value) : Prop := c = .type "str" ∨ c = .ref 147 ∨ c = .ref 179

section
variable {prog : Program} {w : World} {A : Around} {E : Value → Shared → Prop} {s : Shared} {h₀ : Heap} {L : Addr} {m : PySem.Str → Option Value} {Q : Value → Shared → Prop} {news : Led} {v c : Value}

theorem isi_lit (hv : IsLit v) (X : (hd.heap_39 w.params).In s.heap) (hc : IsC c) (h : ∀ tk, Q (.bool false) { s with toks := tk }) : wpAny (model PySem.Challenge.rw_pq0485_01.row.prog w) A (call (.builtin "isinstance") [v, c]) Q E s := by
  revert X
  k_fill
  intro X
  rcases hc with rfl | rfl | rfl
  all_goals
    cases v with
    | none => exact kia_one (b := false) kitx_none X trivial (by kit_is) (by intro q; cases q) h
    | bool b => exact kia_one (b := false) kitx_bool X trivial (by kit_is) (by intro q; cases q) h
    | int i t => exact kia_one (b := false) kitx_int X trivial (by kit_is) (by intro q; cases q) h
    | _ => exact hv.elim

theorem isi_litT {D : Addr} {n : Nat} (hv : IsLit v) (X : (hd.heap_39 w.params).In s.heap) (N : News h₀ L s.heap news) (hm : (D, tupO [.type "list", .type "tuple"] n) ∈ news) (h : ∀ tk, Q (.bool false) { s with toks := tk }) :
    wpAny (model PySem.Challenge.rw_pq0485_01.row.prog w) A (call (.builtin "isinstance") [v, .ref D]) Q E s := by
  revert X
  k_fill
  intro X
  cases v with
  | none => exact kia_tup (b := false) kitx_none X trivial (N _ hm).1 (by kit_is) (by intro q; cases q) h
  | bool b => exact kia_tup (b := false) kitx_bool X trivial (N _ hm).1 (by kit_is) (by intro q; cases q) h
  | int i t => exact kia_tup (b := false) kitx_int X trivial (N _ hm).1 (by kit_is) (by intro q; cases q) h
  | _ => exact hv.elim

/-- a literal or a str -/
noncomputable def IsLs (v : Value) : Prop := IsLit v ∨ ∃ t, v = .str sA t
theorem isi_ls (hv : IsLs v) (X : (hd.heap_39 w.params).In s.heap) (hc : c = .ref 147 ∨ c = .ref 179) (h : ∀ tk, Q (.bool false) { s with toks := tk }) : wpAny (model PySem.Challenge.rw_pq0485_01.row.prog w) A (call (.builtin "isinstance") [v, c]) Q E s := by
  rcases hv with hv | ⟨t, rfl⟩
  · exact isi_lit hv X (.inr hc) h
  revert X
  k_fill
  intro X
  rcases hc with rfl | rfl <;> exact kia_one (b := false) kitx_str X trivial (by kit_is) (by intro q; cases q) h
theorem isi_lsT {D : Addr} {n : Nat} (hv : IsLs v) (X : (hd.heap_39 w.params).In s.heap) (N : News h₀ L s.heap news) (hm : (D, tupO [.type "list", .type "tuple"] n) ∈ news) (h : ∀ tk, Q (.bool false) { s with toks := tk }) :
    wpAny (model PySem.Challenge.rw_pq0485_01.row.prog w) A (call (.builtin "isinstance") [v, .ref D]) Q E s := by
  rcases hv with hv | ⟨t, rfl⟩
  · exact isi_litT hv X N hm h
  revert X
  k_fill
  intro X
  exact kia_tup (b := false) kitx_str X trivial (N _ hm).1 (by kit_is) (by intro q; cases q) h

theorem isi_sq {a : Addr} {tup : Bool} {vs : List Value} {n : Nat} (X : (hd.heap_39 w.params).In s.heap) (N : News h₀ L s.heap news) (hm : (a, sqO tup vs n) ∈ news) (hc : IsC c) (h : ∀ tk, Q (.bool false) { s with toks := tk }) :
    wpAny (model PySem.Challenge.rw_pq0485_01.row.prog w) A (call (.builtin "isinstance") [.ref a, c]) Q E s := by
  revert X
  k_fill
  intro X
  have ha := (N _ hm).1
  rcases hc with rfl | rfl | rfl
  all_goals
    cases tup with
    | true => exact kia_one (b := false) kitx_tuple X ⟨_, ha, rfl⟩ (by kit_is) (by intro q; cases q) h
    | false => exact kia_one (b := false) kitx_list X ⟨_, ha, rfl⟩ (by kit_is) (by intro q; cases q) h

theorem isi_sqT {a D : Addr} {tup : Bool} {vs : List Value} {n k : Nat} (X : (hd.heap_39 w.params).In s.heap) (N : News h₀ L s.heap news) (hm : (a, sqO tup vs n) ∈ news) (hD : (D, tupO [.type "list", .type "tuple"] k) ∈ news) (h : ∀ tk, Q (.bool true) { s with toks := tk }) :
    wpAny (model PySem.Challenge.rw_pq0485_01.row.prog w) A (call (.builtin "isinstance") [.ref a, .ref D]) Q E s := by
  revert X
  k_fill
  intro X
  have ha := (N _ hm).1
  cases tup with
  | true => exact kia_tup (b := true) kitx_tuple X ⟨_, ha, rfl⟩ (N _ hD).1 (by kit_is) (by intro q; cases q) h
  | false => exact kia_tup (b := true) kitx_list X ⟨_, ha, rfl⟩ (N _ hD).1 (by kit_is) (by intro q; cases q) h
end

section
variable {prog : Program} {w : World} {A : Around} {E : Value → Shared → Prop} {s : Shared} {env : Env} {h₀ : Heap} {x : PySem.Str} {body : List Stmt} {Q : Flow → Shared → Prop}
theorem loop_sq {tup : Bool} {l : Addr} {vs : List Value} {n : Nat} {m₀ : PySem.Str → Option Value} {news : Led} (J : Nat → (PySem.Str → Option Value) → Led → Prop)
    (hh : A.handled = none) (hm : (l, sqO tup vs n) ∈ news)
    (F : Fr h₀ env.locals s.heap m₀) (N : News h₀ env.locals s.heap news) (hj : J 0 m₀ news)
    (turn : ∀ I i v m₁ news₁ h tk oI, vs[i]? = some v → (∀ p ∈ news, p.1 < I) → (∀ p ∈ news₁, p.1 ≠ I) → (l, sqO tup vs n) ∈ news₁ → J i m₁ news₁ → Fr h₀ env.locals h (fun y => if y = x then some v else m₁ y) → News h₀ env.locals h ((I, oI) :: news₁) →
      wpAny (model prog w) A (execs body env) (SqPost h₀ env.locals I oI (l, sqO tup vs n) (J (i + 1)) { s with heap := h, toks := tk } Q) E { s with heap := h, toks := tk })
    (done : ∀ m₁ nx h tk, (l, sqO tup vs n) ∈ nx → J vs.length m₁ nx → Fr h₀ env.locals h m₁ → News h₀ env.locals h nx → Q .next { s with heap := h, toks := tk }) :
    wpAny (model prog w) A (pyIter (.ref l)) (fun it s₂ => LoopAtV prog w A h₀ env x body Q E it s₂) E s := by
  cases tup with
  | true => exact loop_tup J hh hm F N hj turn done
  | false => exact loop_list J hh hm F N hj turn done

theorem SqEnd.intro {L I : Addr} {oI : Obj} {e : Addr × Obj} {J : (PySem.Str → Option Value) → Led → Prop} {s₁ : Shared} {h' : Heap} {tk : Nat} {m' : PySem.Str → Option Value} {nx : Led} (F : Fr h₀ L h' m') (N : News h₀ L h' ((I, oI) :: nx))
    (hI : ∀ p ∈ nx, p.1 ≠ I) (he : e ∈ nx) (hj : J m' nx) : SqEnd h₀ L I oI e J s₁ { s₁ with heap := h', toks := tk } := ⟨h', tk, m', nx, rfl, F, N, hI, he, hj⟩
theorem News.sub {h : Heap} {L : Addr} {l l' : Led} (N : News h₀ L h l) (hs : ∀ p ∈ l', p ∈ l) : News h₀ L h l' := fun p hp => N p (hs p hp)
end
section
variable {prog : Program} {w : World} {A : Around} {E : Value → Shared → Prop} {s : Shared} {h₀ : Heap} {L : Addr} {m : PySem.Str → Option Value} {Q : Value → Shared → Prop} {news : Led}
theorem tx_ior_N {a b : Addr} {oa ob : Obj} {b1 b2 : Bool} {g : Obj → Led} (F : Fr h₀ L s.heap m) (N : News h₀ L s.heap news) (U : UpdF a oa news g) (hta : TxO prog w oa b1) (hb : (b, ob) ∈ news) (htb : TxO prog w ob b2) (hab : a ≠ b)
    (h : ∀ h' o', TxO prog w o' (b1 || b2) → Fr h₀ L h' m → News h₀ L h' (g o') → Q (.ref a) { s with heap := h' }) :
    wpAny (model prog w) A (inplaceOp .BitOr (.ref a) (.ref b)) Q E s := by
  obtain ⟨pre, post, rfl, hg, h1, h2⟩ := U.split
  have hm := N (a, oa) (List.mem_append_right _ (.head _))
  refine tx_ior hab hm.1 hta (N _ hb).1 htb fun h' o' ho' hg' hsb => ?_
  refine h h' o' ho' (F.change hsb hm.2.1 hm.2.2) (hg o' ▸ fun p hp => ?_)
  rcases List.mem_append.mp hp with hp | hp
  · exact ⟨(hsb.2 _ (h1 p hp)).trans (N p (List.mem_append_left _ hp)).1, (N p (List.mem_append_left _ hp)).2⟩
  · rcases List.mem_cons.mp hp with rfl | hp
    · exact ⟨hg', hm.2⟩
    · exact ⟨(hsb.2 _ (h2 p hp)).trans (N p (List.mem_append_right _ (.tail _ hp))).1, (N p (List.mem_append_right _ (.tail _ hp))).2⟩
end

theorem News.swap {h₀ h : Heap} {L : Addr} {x y : Addr × Obj} {l : Led} (N : News h₀ L h (x :: y :: l)) : News h₀ L h (y :: x :: l) := fun p hp => N p (by
  rcases List.mem_cons.mp hp with rfl | hp
  · exact .tail _ (.head _)
  · rcases List.mem_cons.mp hp with rfl | hp
    · exact .head _
    · exact .tail _ (.tail _ hp))
theorem _root_.PySem.W.AllLt.of {d : Addr} : ∀ {l : Led}, AllLt d l → ∀ p ∈ l, p.1 < d
  | [], _, _, hp => nomatch hp
  | _ :: _, h, p, hp => by
    rcases List.mem_cons.mp hp with rfl | hp
    · exact h.1
    · exact PySem.W.AllLt.of h.2 p hp

theorem frame_hit {x : PySem.Str} {v : Value} {m : PySem.Str → Option Value} : (fun y => if y = x then some v else m y) x = some v := if_pos rfl
theorem frame_skip {x y : PySem.Str} {a : Option Value} {v : Value} {m : PySem.Str → Option Value} (h : x ≠ y) (hm : m x = some v) : (fun z => if z = y then a else m z) x = some v := (if_neg h).trans hm

section
variable {prog : Program} {w : World} {A : Around} {E : Value → Shared → Prop} {s : Shared} {h₀ : Heap} {L : Addr} {m : PySem.Str → Option Value} {Q : Value → Shared → Prop} {news : Led}
theorem ext_N {D b : Addr} {ys zs : List Value} {n k : Nat} {g : Obj → Led} (F : Fr h₀ L s.heap m) (N : News h₀ L s.heap news) (U : UpdF D (lstO ys n) news g) (hb : (b, lstO zs k) ∈ news) (hsz : ys.length + zs.length < 1000000)
    (h : ∀ h' n', Fr h₀ L h' m → News h₀ L h' (g (lstO (ys ++ zs) n')) → Q .none { s with heap := h' }) :
    wpAny (model prog w) A (call (.builtin "list.extend") [.ref D, .ref b]) Q E s := by
  obtain ⟨pre, post, rfl, hg, h1, h2⟩ := U.split
  refine extend_in F N h1 h2 (N _ hb).1 (fun h' n' F' N' => h h' n' F' (hg _ ▸ N')) ?_
  rw [List.size_toArray, sizeLine_eq]; omega
end

local macro_rules | `(tactic| walk_at "call builtin:isinstance") => `(tactic| (k_here; k_dflt (first | (refine isi_lit (by assumption) (by k_in) (by first | exact Or.inl rfl | exact Or.inr (Or.inl rfl) | exact Or.inr (Or.inr rfl)) ?_) | (refine isi_litT (by assumption) (by k_in) (by k_asm) (by k_mem) ?_) | (refine isi_ls (by assumption) (by k_in) (by first | exact Or.inl rfl | exact Or.inr rfl) ?_) | (refine isi_lsT (by assumption) (by k_in) (by k_asm) (by k_mem) ?_) | (refine isi_sq (by k_in) (by k_asm) (by k_mem) (by first | exact Or.inl rfl | exact Or.inr (Or.inl rfl) | exact Or.inr (Or.inr rfl)) ?_) | (refine isi_sqT (by k_in) (by k_asm) (by k_mem) (by k_mem) ?_)); intro _))
local macro_rules | `(tactic| tb_rel) => `(tactic| first | assumption | exact frame_hit | (refine frame_skip (by decide) ?_; tb_rel))
local macro_rules | `(tactic| walk_at "call builtin:list.extend") => `(tactic| (k_here; (with_reducible show wpAny _ _ (call (Value.builtin _) [Value.ref _, Value.ref _]) _ _ _); k_dflt (refine ext_N (by k_asm) (by k_asm) (by k_updF) (by k_mem) (by omega) ?_); intro _ _ _ _))
local macro_rules | `(tactic| walk_at "eval Name") => `(tactic| (k_here; (fail_if_success (fail_if_success (with_reducible refine loc_chk (by with_unfolding_all rfl) ?_))); k_dflt (refine ldLoc (by k_asm) (by (fail_if_success exact rfl); tb_rel) ?_; k_whole)))
local macro_rules | `(tactic| walk_at "loadName") => `(tactic| (k_here; (with_reducible show wpAny _ _ (loadName (envOfC _ _ _ _ _) _) _ _ _); k_dflt (refine ldnLoc (by k_asm) (by (fail_if_success exact rfl); tb_rel) ?_; k_whole)))
inductive Th where
  | lit (v : Value)
  | str (t : Tok)
  | seq (tup : Bool) (a : Addr) (n : Nat) (items : List Th)
  | node (k : Kd) (a p : Addr) (items : List Th)

noncomputable def Th.val : Th → Value
  | .lit v => v
  | .str t => .str sA t
  | .seq _ a _ _ => .ref a
  | .node _ a _ _ => .ref a

mutual
noncomputable def Th.ht : Th → Nat
  | .lit _ => 1
  | .str _ => 1
  | .seq _ _ _ is => 1 + Th.hts is
  | .node _ _ _ is => 6 + Th.hts is
noncomputable def Th.hts : List Th → Nat
  | [] => 0
  | i :: is => max i.ht (Th.hts is)
end
mutual
noncomputable def Th.texts : Th → Bool
  | .lit _ => false
  | .str _ => true
  | .seq _ _ _ is => Th.textss is
  | .node _ _ _ is => Th.textss is
noncomputable def Th.textss : List Th → Bool
  | [] => false
  | i :: is => i.texts || Th.textss is
end

theorem Th.ht_mem {i : Th} : ∀ {is : List Th}, i ∈ is → i.ht ≤ Th.hts is
  | _ :: _, .head _ => Nat.le_max_left _ _
  | j :: is, .tail _ h => Nat.le_trans (Th.ht_mem h) (Nat.le_max_right _ _)
theorem Th.ht_pos : ∀ i : Th, 0 < i.ht
  | .lit _ => Nat.one_pos
  | .str _ => Nat.one_pos
  | .seq _ _ _ _ => Nat.lt_of_lt_of_le (by decide) (Nat.le_add_right 1 _)
  | .node _ _ _ _ => Nat.lt_of_lt_of_le (by decide) (Nat.le_add_right 6 _)

inductive ThIn (w : World) (R : Led) : Th → Prop
  | lit {v : Value} : IsLit v → ThIn w R (.lit v)
  | str {t : Tok} : ThIn w R (.str t)
  | seq {tup : Bool} {a : Addr} {n : Nat} {is : List Th} : (a, sqO tup (is.map Th.val) n) ∈ R → is.length < 1000 → (∀ i ∈ is, ThIn w R i) → ThIn w R (.seq tup a n is)
  | node {k : Kd} {a p d : Addr} {o : Obj} {n : Nat} {is : List Th} : (a, instObj 147 d) ∈ R → (d, o) ∈ R → NodeD w k p o → (p, tupO (is.map Th.val) n) ∈ R → is.length < 1000 → (∀ i ∈ is, ThIn w R i) → ThIn w R (.node k a p is)

theorem ThIn.mono {w : World} {R R' : Led} (hs : ∀ p ∈ R, p ∈ R') {t : Th} (h : ThIn w R t) : ThIn w R' t := by
  induction h with
  | lit h => exact .lit h
  | str => exact .str
  | seq h l _ ih => exact .seq (hs _ h) l ih
  | node h1 h2 h3 h4 l _ ih => exact .node (hs _ h1) (hs _ h2) h3 (hs _ h4) l ih

section
variable {prog : Program} {w : World} {A : Around} {E : Value → Shared → Prop} {s : Shared} {h₀ : Heap} {L : Addr} {m : PySem.Str → Option Value} {Q : Value → Shared → Prop} {news : Led}
theorem ThIn.atNode {w : World} {R : Led} {k : Kd} {a p : Addr} {is : List Th} {G : Prop} (h : ThIn w R (.node k a p is)) (c : ∀ d o n, (a, instObj 147 d) ∈ R → (d, o) ∈ R → NodeD w k p o → (p, tupO (is.map Th.val) n) ∈ R → is.length < 1000 → (∀ i ∈ is, ThIn w R i) → G) : G := by
  cases h with
  | node h1 h2 h3 h4 h5 h6 => exact c _ _ _ h1 h2 h3 h4 h5 h6
theorem ThIn.atNodeO {w : World} {R : Led} {k : Kd} {a p : Addr} {is : List Th} {G : Prop} (h : ThIn w R (.node k a p is)) (c : ∀ d n t1 t2 t3 t4 t5 t6, (a, instObj 147 d) ∈ R → (d, nodeO w k p t1 t2 t3 t4 t5 t6) ∈ R → (p, tupO (is.map Th.val) n) ∈ R → is.length < 1000 → (∀ i ∈ is, ThIn w R i) → G) : G := by
  refine h.atNode ?_
  rintro d o n h1 h2 ⟨t1, t2, t3, t4, t5, t6, rfl⟩ h4 h5 h6
  exact c d n t1 t2 t3 t4 t5 t6 h1 h2 h4 h5 h6
theorem ThIn.atSeq {w : World} {R : Led} {tup : Bool} {a : Addr} {n : Nat} {is : List Th} {G : Prop} (h : ThIn w R (.seq tup a n is)) (c : (a, sqO tup (is.map Th.val) n) ∈ R → is.length < 1000 → (∀ i ∈ is, ThIn w R i) → G) : G := by
  cases h with
  | seq h1 h2 h3 => exact c h1 h2 h3
theorem tx_set_N (F : Fr h₀ L s.heap m) (N : News h₀ L s.heap news) (h : ∀ D h', Fr h₀ L h' m → News h₀ L h' ((D, freshSet w) :: news) → (∀ p ∈ news, p.1 < D) → Q (.ref D) { s with heap := h' }) :
    wpAny (model prog w) A (call (.type "set") []) Q E s :=
  tx_call_set (h _ _ (F.push _) (News.push F N _ rfl) fun p hp => Heap.lt_size (N p hp).1)
end

inductive IsRow (t : Th) : Prop
  | ex (a : _) (p : _) (l : _) (n : _) (is : _) (h1 : t = .node .seq a p [.seq false l n is])

inductive ThWf : Th → Prop
  | lit {v : Value} : ThWf (.lit v)
  | str {t : Tok} : ThWf (.str t)
  | seq {tup : Bool} {a : Addr} {n : Nat} {is : List Th} : (∀ i ∈ is, ThWf i) → ThWf (.seq tup a n is)
  | name {k : Kd} {a p : Addr} {t : Tok} : (k = .lvar ∨ k = .vcall ∨ k = .tloc) → ThWf (.node k a p [.str t])
  | plain {k : Kd} {a p : Addr} {is : List Th} : (k = .int ∨ k = .asg ∨ k = .seq) → (∀ i ∈ is, ThWf i) → ThWf (.node k a p is)
  | test {k : Kd} {a p : Addr} {t b c : Th} : (k = .ifk ∨ k = .whk) → ThWf t → ThWf b → IsRow b → ThWf c → (c = .lit .none ∨ (k = .whk ∧ ∃ x, c = .lit (.bool x)) ∨ (k = .ifk ∧ IsRow c)) → ThWf (.node k a p [t, b, c])

/-- the items of a node that is no name -/
theorem ThWf.items {k : Kd} {a p : Addr} {is : List Th} (h : ThWf (.node k a p is)) : (∃ t, is = [.str t] ∧ (k = .lvar ∨ k = .vcall ∨ k = .tloc)) ∨ (k ≠ .lvar ∧ k ≠ .vcall ∧ k ≠ .tloc ∧ ∀ i ∈ is, ThWf i) := by
  cases h with
  | name h => exact .inl ⟨_, rfl, h⟩
  | plain h hi => refine .inr ⟨?_, ?_, ?_, hi⟩ <;> (rintro rfl; rcases h with h | h | h <;> cases h)
  | test h ht hb _ hc _ =>
    refine .inr ⟨?_, ?_, ?_, ?_⟩
    iterate 3 (rintro rfl; rcases h with h | h <;> cases h)
    intro i hi
    simp only [List.mem_cons, List.not_mem_nil, or_false] at hi
    rcases hi with rfl | rfl | rfl <;> assumption
/-- the defs that are met by their contracts -/
noncomputable def blk (n : Nat) : Bool := [190, 197, 218, 225, 230, 259, 266, 287, 299, 304, 311, 325, 332, 339, 346, 351, 358, 365, 372, 379, 386, 391, 398].contains n
theorem blk_call {M : Model} {A : Around} {n : Addr} {args : Args} {Q : Result → Shared → Prop} {s : Shared} (h : blk n = true) (g : codeAny M A (.call (.ref n) args) Q s) : codeAny M A (.call (.ref n) args) Q s := g

set_option hygiene true in
local macro_rules | `(tactic| walk_at "m for") => `(tactic| (k_here; (rename Fr _ _ _ _ => lF'); (with_unfolding_all refine For_invVF lF' (by exact rfl) (by exact rfl) ?_; k_whole)))
local macro_rules | `(tactic| walk_at "call type:set nil nil") => `(tactic| (k_here; k_dflt (refine tx_set_N (by k_asm) (by k_asm) ?_); intro _ _ _ _ _))
local macro_rules | `(tactic| walk_at "call ref") => `(tactic| (k_here; (try k_fold); refine wpAny_call ?_; (fail_if_success (fail_if_success (refine blk_call (by decide) ?_)))))
inductive TxPost (w : World) (b : Bool) (r : Value) (M' tl : Led) : Prop
  | ex (h1 : M' = []) (a : _) (o : _) (tl' : _) (h2 : r = .ref a) (h3 : tl = (a, o) :: tl') (h4 : TxO PySem.Challenge.rw_pq0485_01.row.prog w o b) (h5 : ∀ p ∈ tl', p.1 ≠ a)
theorem TxPost.out {h₀ : Heap} {L : Addr} {m : PySem.Str → Option Value} {R : Led} {W : Led → Prop} {G : Value → Heap → Nat → Prop} {w : World} {b : Bool}
    (k : ∀ a o tl' h' tk', TxO PySem.Challenge.rw_pq0485_01.row.prog w o b → (∀ p ∈ tl', p.1 ≠ a) → Fr h₀ L h' m → News h₀ L h' ((a, o) :: (tl' ++ R)) → W ((a, o) :: tl') → G (.ref a) h' tk') :
    ∀ r M' tl h' tk', Fr h₀ L h' m → News h₀ L h' (M' ++ (tl ++ R)) → W tl → TxPost w b r M' tl → G r h' tk' := by
  rintro _ _ _ h' tk' F N hw ⟨rfl, a, o, tl', rfl, rfl, h1, h2⟩
  exact k a o tl' h' tk' h1 h2 F N hw

theorem texts_str (w : World) (R : Led) (tk : Tok) : Ct w 325 [.str sA tk] 5 [] R (TxPost w true) := by
  unfold Ct; k_fill; intro dp un gd A₀ base h₀ outer env L m s pp loose mean mg mb Q B F X N T hf hk hd hu hret
  simp only [List.nil_append] at N
  k_dflt (refine' code_def ?k1 ?k2 ?k3 ?k4 ?k5 ?kA ?kF ?kK ?k6 ?k7 ?k8 ?k9 ?kB ?_ ?c2 ?c3 ?c4 ?c5; (case kA => exact rfl); (case kF => assumption); (case kK => assumption); (case k1 => k_asm); (case k2 => k_asm); (case k3 => k_asm); (case k4 => k_asm); (case k5 => k_asm); (case k6 => k_is); (case k7 => k_is); (case k8 => ktr_room); (case k9 => first | exact BindsTo.of_eq rfl | exact binds_K (by k_in) rfl (by k_is) rfl rfl rfl); (case c5 => decide); (case kB => exact locs rfl); (case c2 => exact rfl); (case c3 => exact rfl); (case c4 => exact rfl); k_whole; intro g' L' h' FG' F' N' B' X' T'; (try dsimp only); (try k_fold); (refine frame_name F' ?_); clear F'; intro mm' F' hfr')
  k_steps
  rename_i l1 _ _ _ _
  refine hret _ [] [_] _ _ (by assumption) (by assumption) (fun q hq p hp => ?_) ⟨rfl, _, _, [], rfl, rfl, by assumption, fun _ h => nomatch h⟩
  rw [List.mem_singleton.mp hp]
  exact l1 q hq
theorem texts_lit (w : World) (R : Led) (v : Value) (hv : IsLit v) : Ct w 325 [v] 5 [] R (TxPost w false) := by
  unfold Ct; k_fill; intro dp un gd A₀ base h₀ outer env L m s pp loose mean mg mb Q B F X N T hf hk hd hu hret
  simp only [List.nil_append] at N
  k_dflt (refine' code_def ?k1 ?k2 ?k3 ?k4 ?k5 ?kA ?kF ?kK ?k6 ?k7 ?k8 ?k9 ?kB ?_ ?c2 ?c3 ?c4 ?c5; (case kA => exact rfl); (case kF => assumption); (case kK => assumption); (case k1 => k_asm); (case k2 => k_asm); (case k3 => k_asm); (case k4 => k_asm); (case k5 => k_asm); (case k6 => k_is); (case k7 => k_is); (case k8 => ktr_room); (case k9 => first | exact BindsTo.of_eq rfl | exact binds_K (by k_in) rfl (by k_is) rfl rfl rfl); (case c5 => decide); (case kB => exact locs rfl); (case c2 => exact rfl); (case c3 => exact rfl); (case c4 => exact rfl); k_whole; intro g' L' h' FG' F' N' B' X' T'; (try dsimp only); (try k_fold); (refine frame_name F' ?_); clear F'; intro mm' F' hfr')
  k_steps
  (rename News h₀ L _ (_ :: _ :: R) => kN)
  (rename _ ∧ AllLt _ R => l2)
  (rename ∀ p ∈ R, p.1 < _ => l1)
  refine hret _ [] [_, _] _ _ (by assumption) (News.swap kN) (fun q hq => all_cons (l1 q hq) (all_cons (l2.2.of q hq) all_nil)) ⟨rfl, _, _, [_], rfl, rfl, tx_fresh, all_cons (Nat.ne_of_gt l2.1) all_nil⟩
inductive TxJ (w : World) (R : Led) (is : List Th) (i : Nat) (m : PySem.Str → Option Value) (nx : Led) : Prop
  | ex (f : _) (o : _) (tl : _) (h1 : m (Str.ofString "found") = some (.ref f)) (h2 : nx = (f, o) :: (tl ++ R)) (h3 : TxO PySem.Challenge.rw_pq0485_01.row.prog w o (Th.textss (is.take i))) (h4 : (∀ p ∈ tl, p.1 ≠ f)) (h5 : (∀ q ∈ R, ∀ p ∈ tl, q.1 < p.1)) (h6 : ∀ q ∈ R, q.1 < f)
theorem TxJ.elim {w : World} {R : Led} {is : List Th} {i : Nat} {m : PySem.Str → Option Value} {P : Led → Prop} (k : ∀ f o tl, m (Str.ofString "found") = some (.ref f) → TxO PySem.Challenge.rw_pq0485_01.row.prog w o (Th.textss (is.take i)) → ((∀ p ∈ tl, p.1 ≠ f)) → ((∀ q ∈ R, ∀ p ∈ tl, q.1 < p.1)) → (∀ q ∈ R, q.1 < f) → P ((f, o) :: (tl ++ R))) : ∀ nx, TxJ w R is i m nx → P nx := by
  intro nx h
  obtain ⟨f, o, tl, h1, rfl, h2, h3, h4, h5⟩ := h
  exact k f o tl h1 h2 h3 h4 h5

theorem textss_snoc {th : Th} : ∀ {is : List Th} {i : Nat}, is[i]? = some th → Th.textss (is.take (i + 1)) = (Th.textss (is.take i) || th.texts)
  | [], _, h => by cases h
  | j :: is, 0, h => by cases h; simp [Th.textss]
  | j :: is, i + 1, h => by
    have ih := textss_snoc (is := is) (i := i) (by simpa using h)
    simp only [List.take_succ_cons, Th.textss, ih, Bool.or_assoc]

theorem map_get {is : List Th} {i : Nat} {v : Value} (hv : (is.map Th.val)[i]? = some v) : ∃ th, is[i]? = some th ∧ th.val = v ∧ th ∈ is ∧ th.ht ≤ Th.hts is := by
  rw [List.getElem?_map] at hv
  cases hq : is[i]? with
  | none => rw [hq] at hv; cases hv
  | some th => rw [hq] at hv; exact ⟨th, rfl, Option.some.inj hv, List.mem_of_getElem? hq, Th.ht_mem (List.mem_of_getElem? hq)⟩

theorem texts_seq (w : World) (R : Led) (tup : Bool) (a : Addr) (n : Nat) (is : List Th) (hm : (a, sqO tup (is.map Th.val) n) ∈ R) (his : ∀ i ∈ is, ThIn w R i)
    (ih : ∀ i ∈ is, ∀ R', ThIn w R' i → Ct w 325 [i.val] (i.ht + 5) [] R' (TxPost w i.texts)) : Ct w 325 [.ref a] (1 + Th.hts is + 5) [] R (TxPost w (Th.textss is)) := by
  unfold Ct; k_fill; intro dp un gd A₀ base h₀ outer env L m s pp loose mean mg mb Q B F X N T hf hk hd hu hret
  simp only [List.nil_append] at N
  k_dflt (refine' code_def ?k1 ?k2 ?k3 ?k4 ?k5 ?kA ?kF ?kK ?k6 ?k7 ?k8 ?k9 ?kB ?_ ?c2 ?c3 ?c4 ?c5; (case kA => exact rfl); (case kF => assumption); (case kK => assumption); (case k1 => k_asm); (case k2 => k_asm); (case k3 => k_asm); (case k4 => k_asm); (case k5 => k_asm); (case k6 => k_is); (case k7 => k_is); (case k8 => ktr_room); (case k9 => first | exact BindsTo.of_eq rfl | exact binds_K (by k_in) rfl (by k_is) rfl rfl rfl); (case c5 => decide); (case kB => exact locs rfl); (case c2 => exact rfl); (case c3 => exact rfl); (case c4 => exact rfl); k_whole; intro g' L' h' FG' F' N' B' X' T'; (try dsimp only); (try k_fold); (refine frame_name F' ?_); clear F'; intro mm' F' hfr')
  k_steps
  (rename News _ _ _ (_ :: (_, freshSet w) :: R) => kN)
  (rename Fr _ L' _ _ => kF)
  (rename _ ∧ AllLt _ R => l2)
  (rename ∀ p ∈ R, p.1 < _ => l1)
  refine loop_sq (TxJ w R is) rfl (.tail _ (.tail _ hm)) kF (News.swap kN) ⟨_, _, [_], rfl, rfl, tx_fresh, ?_, ?_, l1⟩ ?_ ?_
  · intro p hp; rw [List.mem_singleton.mp hp]; exact Nat.ne_of_gt l2.1
  · intro q hq p hp; rw [List.mem_singleton.mp hp]; exact l2.2.of q hq
  · intro I i v m₁ news₁ h tk oI hv hI1 hI2 hmem hJ0
    revert hI2 hmem
    revert hJ0
    revert news₁
    refine TxJ.elim ?_
    intro f o tl hfo ho htl hord hRf hI2 hmem F₁ N₁
    k_steps
    obtain ⟨th, hth, rfl, hmi, hle⟩ := map_get hv
    refine ih th hmi _ ((his th hmi).mono fun p hp => .tail _ (.tail _ (List.mem_append_right _ hp))) _ _ _ _ _ _ _ _ _ _ _ _ _ _ _ _ _ (by assumption) (by assumption) (by assumption) N₁ (by assumption) rfl rfl ?_ ?_ ?_
    · first | exact room1 hd (by decide) | (show dp + 1 + _ < _; omega)
    · first | exact room2 hu (by decide) | (show un + 3 + _ < _; omega)
    · refine TxPost.out ?_
      intro a' o' tl'' h'' tk' ho' hne' F₂ N₂ hfr
      dsimp only
      have hfr1 : ∀ p ∈ (a', o') :: tl'', f < p.1 := hfr (f, o) (.tail _ (.head _))
      have hfrI : ∀ p ∈ (a', o') :: tl'', I < p.1 := hfr (I, oI) (.head _)
      have hfrR : ∀ q ∈ R, ∀ p ∈ (a', o') :: tl'', q.1 < p.1 := fun q hq => hfr q (.tail _ (.tail _ (List.mem_append_right _ hq)))
      have N₃ : News g' _ h'' ((f, o) :: (a', o') :: (I, oI) :: (tl'' ++ (tl ++ R))) := News.sub N₂ fun p hp => by
        simp only [List.nil_append, List.cons_append, List.mem_cons, List.mem_append] at hp ⊢
        simp only [or_left_comm, or_comm, or_assoc] at hp ⊢
        exact hp
      have hall : ∀ p ∈ (a', o') :: (I, oI) :: (tl'' ++ (tl ++ R)), p.1 ≠ f := by
        intro p hp
        simp only [List.mem_cons, List.mem_append] at hp
        rcases hp with rfl | rfl | hp | hp | hp
        · exact Nat.ne_of_gt (hfr1 _ (.head _))
        · exact Ne.symm (hI2 (f, o) (.head _))
        · exact Nat.ne_of_gt (hfr1 _ (.tail _ hp))
        · exact htl p hp
        · exact Nat.ne_of_lt (hRf p hp)
      refine tx_ior_N F₂ N₃ (.head hall) ho (.tail _ (.head _)) ho' (Nat.ne_of_lt (hfr1 _ (.head _))) fun h3 o3 ho3 F₃ N₃' => ?_
      k_steps
      refine SqEnd.intro (nx := (f, o3) :: (((a', o') :: (tl'' ++ tl)) ++ R)) (by assumption) (News.sub (by assumption) ?_) ?_ (List.mem_cons_of_mem _ (List.mem_append_right _ hm)) ⟨f, o3, (a', o') :: (tl'' ++ tl), by tb_rel, rfl, ?_, ?_, ?_, hRf⟩
      · intro p hp
        simp only [List.nil_append, List.cons_append, List.mem_cons, List.mem_append] at hp ⊢
        simp only [or_left_comm, or_comm, or_assoc] at hp ⊢
        exact hp
      · intro p hp
        simp only [List.cons_append, List.mem_cons, List.mem_append] at hp
        rcases hp with rfl | rfl | (hp | hp) | hp
        · exact hI2 (f, o) (.head _)
        · exact Nat.ne_of_gt (hfrI _ (.head _))
        · exact Nat.ne_of_gt (hfrI _ (.tail _ hp))
        · exact hI2 p (.tail _ (List.mem_append_left _ hp))
        · exact hI2 p (.tail _ (List.mem_append_right _ hp))
      · rw [textss_snoc hth]; exact ho3
      · intro p hp
        simp only [List.mem_cons, List.mem_append] at hp
        rcases hp with rfl | hp | hp
        · exact Nat.ne_of_gt (hfr1 _ (.head _))
        · exact Nat.ne_of_gt (hfr1 _ (.tail _ hp))
        · exact htl p hp
      · intro q hq p hp
        simp only [List.mem_cons, List.mem_append] at hp
        rcases hp with rfl | hp | hp
        · exact hfrR q hq _ (.head _)
        · exact hfrR q hq _ (.tail _ hp)
        · exact hord q hq p hp
  · intro m₁ nx h tk hmem hJ0
    revert hmem
    revert hJ0
    revert nx
    refine TxJ.elim ?_
    intro f o tl hfo ho htl hord hRf hmem F₁ N₁
    k_steps
    rw [List.length_map, List.take_length] at ho
    refine hret _ [] (_ :: tl) _ _ (by assumption) (by assumption) (fun q hq => all_cons (hRf q hq) (hord q hq)) ⟨rfl, _, _, tl, rfl, rfl, ho, htl⟩

theorem texts_node (w : World) (R : Led) (k : Kd) (a p d : Addr) (o : Obj) (n : Nat) (is : List Th) (h1 : (a, instObj 147 d) ∈ R) (h2 : (d, o) ∈ R) (h3 : NodeD w k p o) (c : Nat)
    (ih : ∀ R', (∀ q ∈ R, q ∈ R') → Ct w 325 [.ref p] (c + 5) [] R' (TxPost w (Th.textss is))) : Ct w 325 [.ref a] (1 + c + 5) [] R (TxPost w (Th.textss is)) := by
  obtain ⟨t1, t2, t3, t4, t5, t6, rfl⟩ := h3
  unfold Ct; k_fill; intro dp un gd A₀ base h₀ outer env L m s pp loose mean mg mb Q B F X N T hf hk hd hu hret
  simp only [List.nil_append] at N
  k_dflt (refine' code_def ?k1 ?k2 ?k3 ?k4 ?k5 ?kA ?kF ?kK ?k6 ?k7 ?k8 ?k9 ?kB ?_ ?c2 ?c3 ?c4 ?c5; (case kA => exact rfl); (case kF => assumption); (case kK => assumption); (case k1 => k_asm); (case k2 => k_asm); (case k3 => k_asm); (case k4 => k_asm); (case k5 => k_asm); (case k6 => k_is); (case k7 => k_is); (case k8 => ktr_room); (case k9 => first | exact BindsTo.of_eq rfl | exact binds_K (by k_in) rfl (by k_is) rfl rfl rfl); (case c5 => decide); (case kB => exact locs rfl); (case c2 => exact rfl); (case c3 => exact rfl); (case c4 => exact rfl); k_whole; intro g' L' h' FG' F' N' B' X' T'; (try dsimp only); (try k_fold); (refine frame_name F' ?_); clear F'; intro mm' F' hfr')
  k_steps
  refine ih _ (fun q hq => ?_) _ _ _ _ _ _ _ _ _ _ _ _ _ _ _ _ _ (by assumption) (by assumption) (by assumption) (by assumption) (by assumption) rfl rfl ?_ ?_ ?_
  · assumption
  · first | exact room1 hd (by decide) | (show dp + 1 + _ < _; omega)
  · first | exact room2 hu (by decide) | (show un + 3 + _ < _; omega)
  · refine TxPost.out ?_
    intro a' o' tl'' h'' tk' ho' hne' F₂ N₂ hfr
    dsimp only
    k_steps
    exact hret _ [] _ _ _ (by assumption) (by assumption) hfr ⟨rfl, a', o', tl'', rfl, rfl, ho', hne'⟩

theorem Ct.more {w : World} {f : Addr} {args : List Value} {c c' : Nat} {M R : Led} {P : Value → Led → Led → Prop} (h : Ct w f args c M R P) (hc : c ≤ c') : Ct w f args c' M R P := by
  unfold Ct at h ⊢
  intro dp un gd A₀ base h₀ outer env L m s pp loose mean mg mb Q B F X N T hf hk hd hu hret
  exact h dp un gd A₀ base h₀ outer env L m s pp loose mean mg mb Q B F X N T hf hk (le_dp hd hc) (le_mul8 hu hc) hret

theorem texts_ok (w : World) : ∀ n th, Th.ht th ≤ n → ∀ R, ThIn w R th → Ct w 325 [th.val] (th.ht + 5) [] R (TxPost w th.texts)
  | 0, th, h, _, _ => absurd (Th.ht_pos th) (Nat.not_lt.mpr h)
  | n + 1, .lit v, h, R, hi => by cases hi with | lit hv => exact (texts_lit w R v hv).more (by omega)
  | n + 1, .str t, h, R, hi => (texts_str w R t).more (by omega)
  | n + 1, .seq tup a k is, h, R, hi => by
    cases hi with
    | seq hm hl his =>
      unfold Th.ht at h ⊢
      exact (texts_seq w R tup a k is hm his fun i hi R' hR' => texts_ok w n i (by have := Th.ht_mem hi; omega) R' hR').more (by first | exact ar_ht5 | omega)
  | n + 1, .node k a p is, h, R, hi => by
    cases hi with
    | @node _ _ _ d o n' _ h1 h2 h3 h4 hl his =>
      unfold Th.ht at h ⊢
      refine (texts_node w R k a p d o n' is h1 h2 h3 (1 + Th.hts is) fun R' hR' => ?_).more (by first | exact ar_ht5 | omega)
      exact (texts_seq w R' true p n' is (hR' _ h4) (fun i hi => (his i hi).mono hR') fun i hi R' hR' => texts_ok w n i (by have := Th.ht_mem hi; omega) R' hR').more (by first | exact ar_ht5 | omega)

mutual
noncomputable def Th.opens : Th → Nat
  | .lit _ => 0
  | .str _ => 0
  | .seq _ _ _ is => Th.openss is
  | .node k _ _ is => match k with
    | .vcall => 1
    | _ => Th.openss is
noncomputable def Th.openss : List Th → Nat
  | [] => 0
  | i :: is => i.opens + Th.openss is
end

inductive OcPost (n : Nat) (r : Value) (M' tl : Led) : Prop
  | ex (h1 : M' = []) (a : _) (vs : _) (e : _) (tl' : _) (h2 : r = .ref a) (h3 : tl = (a, lstO vs e) :: tl') (h4 : vs.length = n) (h5 : (∀ v ∈ vs, ∃ t, v = .str sA t)) (h6 : ∀ p ∈ tl', p.1 ≠ a)
theorem OcPost.out {h₀ : Heap} {L : Addr} {m : PySem.Str → Option Value} {R : Led} {W : Led → Prop} {G : Value → Heap → Nat → Prop} {n : Nat}
    (k : ∀ a vs e tl' h' tk', vs.length = n → (∀ v ∈ vs, ∃ t, v = .str sA t) → (∀ p ∈ tl', p.1 ≠ a) → Fr h₀ L h' m → News h₀ L h' ((a, lstO vs e) :: (tl' ++ R)) → W ((a, lstO vs e) :: tl') → G (.ref a) h' tk') :
    ∀ r M' tl h' tk', Fr h₀ L h' m → News h₀ L h' (M' ++ (tl ++ R)) → W tl → OcPost n r M' tl → G r h' tk' := by
  rintro _ _ _ h' tk' F N hw ⟨rfl, a, vs, e, tl', rfl, rfl, h1, h2, h3⟩
  exact k a vs e tl' h' tk' h1 h2 h3 F N hw

theorem openss_snoc {th : Th} : ∀ {is : List Th} {i : Nat}, is[i]? = some th → Th.openss (is.take (i + 1)) = Th.openss (is.take i) + th.opens
  | [], _, h => by cases h
  | j :: is, 0, h => by cases h; simp [Th.openss]
  | j :: is, i + 1, h => by
    have ih := openss_snoc (is := is) (i := i) (by simpa using h)
    simp only [List.take_succ_cons, Th.openss, ih, Nat.add_assoc]
theorem openss_take : ∀ (is : List Th) (i : Nat), Th.openss (is.take i) ≤ Th.openss is
  | [], _ => by simp
  | j :: is, 0 => by simp [Th.openss]
  | j :: is, i + 1 => by
    have := openss_take is i
    exact Nat.add_le_add_left this _
theorem opens_mem {i : Th} : ∀ {is : List Th}, i ∈ is → i.opens ≤ Th.openss is
  | _ :: _, .head _ => Nat.le_add_right _ _
  | j :: is, .tail _ h => Nat.le_trans (opens_mem h) (Nat.le_add_left _ _)

theorem opens_ls (w : World) (R : Led) (v : Value) (hv : IsLs v) : Ct w 332 [v] 5 [] R (OcPost 0) := by
  unfold Ct; k_fill; intro dp un gd A₀ base h₀ outer env L m s pp loose mean mg mb Q B F X N T hf hk hd hu hret
  simp only [List.nil_append] at N
  k_dflt (refine' code_def ?k1 ?k2 ?k3 ?k4 ?k5 ?kA ?kF ?kK ?k6 ?k7 ?k8 ?k9 ?kB ?_ ?c2 ?c3 ?c4 ?c5; (case kA => exact rfl); (case kF => assumption); (case kK => assumption); (case k1 => k_asm); (case k2 => k_asm); (case k3 => k_asm); (case k4 => k_asm); (case k5 => k_asm); (case k6 => k_is); (case k7 => k_is); (case k8 => ktr_room); (case k9 => first | exact BindsTo.of_eq rfl | exact binds_K (by k_in) rfl (by k_is) rfl rfl rfl); (case c5 => decide); (case kB => exact locs rfl); (case c2 => exact rfl); (case c3 => exact rfl); (case c4 => exact rfl); k_whole; intro g' L' h' FG' F' N' B' X' T'; (try dsimp only); (try k_fold); (refine frame_name F' ?_); clear F'; intro mm' F' hfr')
  k_steps
  (rename News h₀ L _ (_ :: _ :: R) => kN)
  (rename _ ∧ AllLt _ R => l2)
  (rename ∀ p ∈ R, p.1 < _ => l1)
  refine hret _ [] [_, _] _ _ (by assumption) (News.swap kN) (fun q hq => all_cons (l1 q hq) (all_cons (l2.2.of q hq) all_nil)) ⟨rfl, _, [], _, [_], rfl, rfl, rfl, (fun _ h => nomatch h), all_cons (Nat.ne_of_gt l2.1) all_nil⟩

inductive OcJ (R : Led) (is : List Th) (i : Nat) (m : PySem.Str → Option Value) (nx : Led) : Prop
  | ex (f : _) (vs : _) (e : _) (tl : _) (h1 : m (Str.ofString "found") = some (.ref f)) (h2 : nx = (f, lstO vs e) :: (tl ++ R)) (h3 : vs.length = Th.openss (is.take i)) (h4 : (∀ v ∈ vs, ∃ t, v = .str sA t)) (h5 : (∀ p ∈ tl, p.1 ≠ f)) (h6 : (∀ q ∈ R, ∀ p ∈ tl, q.1 < p.1)) (h7 : ∀ q ∈ R, q.1 < f)
theorem OcJ.elim {R : Led} {is : List Th} {i : Nat} {m : PySem.Str → Option Value} {P : Led → Prop} (k : ∀ f vs e tl, m (Str.ofString "found") = some (.ref f) → vs.length = Th.openss (is.take i) → ((∀ v ∈ vs, ∃ t, v = .str sA t)) → ((∀ p ∈ tl, p.1 ≠ f)) → ((∀ q ∈ R, ∀ p ∈ tl, q.1 < p.1)) → (∀ q ∈ R, q.1 < f) → P ((f, lstO vs e) :: (tl ++ R))) : ∀ nx, OcJ R is i m nx → P nx := by
  intro nx h
  obtain ⟨f, vs, e, tl, h1, rfl, h2, h3, h4, h5, h6⟩ := h
  exact k f vs e tl h1 h2 h3 h4 h5 h6

theorem opens_seq (w : World) (R : Led) (tup : Bool) (a : Addr) (n : Nat) (is : List Th) (hm : (a, sqO tup (is.map Th.val) n) ∈ R) (his : ∀ i ∈ is, ThIn w R i) (hop : Th.openss is < 1000)
    (ih : ∀ i ∈ is, ∀ R', ThIn w R' i → Ct w 332 [i.val] (i.ht + 5) [] R' (OcPost i.opens)) : Ct w 332 [.ref a] (1 + Th.hts is + 5) [] R (OcPost (Th.openss is)) := by
  unfold Ct; k_fill; intro dp un gd A₀ base h₀ outer env L m s pp loose mean mg mb Q B F X N T hf hk hd hu hret
  simp only [List.nil_append] at N
  k_dflt (refine' code_def ?k1 ?k2 ?k3 ?k4 ?k5 ?kA ?kF ?kK ?k6 ?k7 ?k8 ?k9 ?kB ?_ ?c2 ?c3 ?c4 ?c5; (case kA => exact rfl); (case kF => assumption); (case kK => assumption); (case k1 => k_asm); (case k2 => k_asm); (case k3 => k_asm); (case k4 => k_asm); (case k5 => k_asm); (case k6 => k_is); (case k7 => k_is); (case k8 => ktr_room); (case k9 => first | exact BindsTo.of_eq rfl | exact binds_K (by k_in) rfl (by k_is) rfl rfl rfl); (case c5 => decide); (case kB => exact locs rfl); (case c2 => exact rfl); (case c3 => exact rfl); (case c4 => exact rfl); k_whole; intro g' L' h' FG' F' N' B' X' T'; (try dsimp only); (try k_fold); (refine frame_name F' ?_); clear F'; intro mm' F' hfr')
  k_steps
  (rename News _ _ _ (_ :: (_, _) :: R) => kN)
  (rename Fr _ L' _ _ => kF)
  (rename _ ∧ AllLt _ R => l2)
  (rename ∀ p ∈ R, p.1 < _ => l1)
  refine loop_sq (OcJ R is) rfl (.tail _ (.tail _ hm)) kF (News.swap kN) ⟨_, [], _, [_], rfl, rfl, rfl, (fun _ h => nomatch h), ?_, ?_, l1⟩ ?_ ?_
  · intro p hp; rw [List.mem_singleton.mp hp]; exact Nat.ne_of_gt l2.1
  · intro q hq p hp; rw [List.mem_singleton.mp hp]; exact l2.2.of q hq
  · intro I i v m₁ news₁ h tk oI hv hI1 hI2 hmem hJ0
    revert hI2 hmem
    revert hJ0
    revert news₁
    refine OcJ.elim ?_
    intro f vs e tl hfo hlen hvs htl hord hRf hI2 hmem F₁ N₁
    k_steps
    obtain ⟨th, hth, rfl, hmi, hle⟩ := map_get hv
    refine ih th hmi _ ((his th hmi).mono fun p hp => .tail _ (.tail _ (List.mem_append_right _ hp))) _ _ _ _ _ _ _ _ _ _ _ _ _ _ _ _ _ (by assumption) (by assumption) (by assumption) N₁ (by assumption) rfl rfl ?_ ?_ ?_
    · first | exact room1 hd (by decide) | (show dp + 1 + _ < _; omega)
    · first | exact room2 hu (by decide) | (show un + 3 + _ < _; omega)
    · refine OcPost.out ?_
      intro a' vs' e' tl'' h'' tk' hlen' hvs' hne' F₂ N₂ hfr
      dsimp only
      have hfr1 : ∀ p ∈ (a', lstO vs' e') :: tl'', f < p.1 := hfr (f, _) (.tail _ (.head _))
      have hfrI : ∀ p ∈ (a', lstO vs' e') :: tl'', I < p.1 := hfr (I, oI) (.head _)
      have hfrR : ∀ q ∈ R, ∀ p ∈ (a', lstO vs' e') :: tl'', q.1 < p.1 := fun q hq => hfr q (.tail _ (.tail _ (List.mem_append_right _ hq)))
      have N₃ : News g' _ h'' ((f, lstO vs e) :: (a', lstO vs' e') :: (I, oI) :: (tl'' ++ (tl ++ R))) := News.sub N₂ fun p hp => by
        simp only [List.nil_append, List.cons_append, List.mem_cons, List.mem_append] at hp ⊢
        simp only [or_left_comm, or_comm, or_assoc] at hp ⊢
        exact hp
      have hall : ∀ p ∈ (a', lstO vs' e') :: (I, oI) :: (tl'' ++ (tl ++ R)), p.1 ≠ f := by
        intro p hp
        simp only [List.mem_cons, List.mem_append] at hp
        rcases hp with rfl | rfl | hp | hp | hp
        · exact Nat.ne_of_gt (hfr1 _ (.head _))
        · exact Ne.symm (hI2 (f, _) (.head _))
        · exact Nat.ne_of_gt (hfr1 _ (.tail _ hp))
        · exact htl p hp
        · exact Nat.ne_of_lt (hRf p hp)
      have hlt2 : vs.length + vs'.length < 1000000 := by
        have := openss_take is (i + 1)
        rw [openss_snoc hth] at this
        rw [hlen, hlen']
        exact Nat.lt_trans (Nat.lt_of_le_of_lt this hop) (by decide)
      k_steps
      (rename News _ _ _ ((f, lstO (vs ++ vs') _) :: _) => kN4)
      rename_i n3 _
      have N4 : News g' L' _ ((f, lstO (vs ++ vs') n3) :: (a', lstO vs' e') :: (I, oI) :: (tl'' ++ (tl ++ R))) := kN4
      refine SqEnd.intro (nx := (f, lstO (vs ++ vs') n3) :: (((a', lstO vs' e') :: (tl'' ++ tl)) ++ R)) (by assumption) (News.sub N4 ?_) ?_ (List.mem_cons_of_mem _ (List.mem_append_right _ hm)) ⟨f, vs ++ vs', n3, (a', lstO vs' e') :: (tl'' ++ tl), by tb_rel, rfl, ?_, ?_, ?_, ?_, hRf⟩
      · intro p hp
        simp only [List.nil_append, List.cons_append, List.mem_cons, List.mem_append] at hp ⊢
        simp only [or_left_comm, or_comm, or_assoc] at hp ⊢
        exact hp
      · intro p hp
        simp only [List.cons_append, List.mem_cons, List.mem_append] at hp
        rcases hp with rfl | rfl | (hp | hp) | hp
        · exact hI2 (f, lstO vs e) (.head _)
        · exact Nat.ne_of_gt (hfrI _ (.head _))
        · exact Nat.ne_of_gt (hfrI _ (.tail _ hp))
        · exact hI2 p (.tail _ (List.mem_append_left _ hp))
        · exact hI2 p (.tail _ (List.mem_append_right _ hp))
      · rw [openss_snoc hth, List.length_append, hlen, hlen']
      · intro v hv
        rcases List.mem_append.mp hv with hv | hv
        · exact hvs v hv
        · exact hvs' v hv
      · intro p hp
        simp only [List.mem_cons, List.mem_append] at hp
        rcases hp with rfl | hp | hp
        · exact Nat.ne_of_gt (hfr1 _ (.head _))
        · exact Nat.ne_of_gt (hfr1 _ (.tail _ hp))
        · exact htl p hp
      · intro q hq p hp
        simp only [List.mem_cons, List.mem_append] at hp
        rcases hp with rfl | hp | hp
        · exact hfrR q hq _ (.head _)
        · exact hfrR q hq _ (.tail _ hp)
        · exact hord q hq p hp
  · intro m₁ nx h tk hmem hJ0
    revert hmem
    revert hJ0
    revert nx
    refine OcJ.elim ?_
    intro f vs e tl hfo hlen hvs htl hord hRf hmem F₁ N₁
    k_steps
    rw [List.length_map, List.take_length] at hlen
    refine hret _ [] (_ :: tl) _ _ (by assumption) (by assumption) (fun q hq => all_cons (hRf q hq) (hord q hq)) ⟨rfl, _, vs, _, tl, rfl, rfl, hlen, hvs, htl⟩

theorem opens_node (w : World) (R : Led) (k : Kd) (a p d : Addr) (o : Obj) (is : List Th) (h1 : (a, instObj 147 d) ∈ R) (h2 : (d, o) ∈ R) (h3 : NodeD w k p o) (c : Nat) (hk : k ≠ .vcall)
    (ih : ∀ R', (∀ q ∈ R, q ∈ R') → Ct w 332 [.ref p] (c + 5) [] R' (OcPost (Th.openss is))) : Ct w 332 [.ref a] (1 + c + 5) [] R (OcPost (Th.openss is)) := by
  obtain ⟨t1, t2, t3, t4, t5, t6, rfl⟩ := h3
  have e1 : (k.s == Str.ofString "vcall") = false := by cases k <;> first | rfl | exact absurd rfl hk
  have e2 : (k.s == Str.ofString "def") = false := by cases k <;> rfl
  have e3 : ([Str.ofString "class", Str.ofString "module", Str.ofString "sclass"].any fun x => x == k.s) = false := by cases k <;> rfl
  unfold Ct; k_fill; intro dp un gd A₀ base h₀ outer env L m s pp loose mean mg mb Q B F X N T hf hk hd hu hret
  simp only [List.nil_append] at N
  k_dflt (refine' code_def ?k1 ?k2 ?k3 ?k4 ?k5 ?kA ?kF ?kK ?k6 ?k7 ?k8 ?k9 ?kB ?_ ?c2 ?c3 ?c4 ?c5; (case kA => exact rfl); (case kF => assumption); (case kK => assumption); (case k1 => k_asm); (case k2 => k_asm); (case k3 => k_asm); (case k4 => k_asm); (case k5 => k_asm); (case k6 => k_is); (case k7 => k_is); (case k8 => ktr_room); (case k9 => first | exact BindsTo.of_eq rfl | exact binds_K (by k_in) rfl (by k_is) rfl rfl rfl); (case c5 => decide); (case kB => exact locs rfl); (case c2 => exact rfl); (case c3 => exact rfl); (case c4 => exact rfl); k_whole; intro g' L' h' FG' F' N' B' X' T'; (try dsimp only); (try k_fold); (refine frame_name F' ?_); clear F'; intro mm' F' hfr')
  k_steps
  (rename ∀ p ∈ R, p.1 < _ => l1)
  (rename News _ L' _ (_ :: R) => kN)
  refine cps (fun cG => ∀ q1, News _ L' _ (q1 :: R) → (∀ p ∈ R, p.1 < q1.1) → cG) ?_ (fun ck => ck _ kN l1)
  intro q1 kN l1
  refine ih _ (fun q hq => List.mem_cons_of_mem _ hq) _ _ _ _ _ _ _ _ _ _ _ _ _ _ _ _ _ (by assumption) (by assumption) (by assumption) kN (by assumption) rfl rfl ?_ ?_ ?_
  · first | exact room1 hd (by decide) | (show dp + 1 + _ < _; omega)
  · first | exact room2 hu (by decide) | (show un + 3 + _ < _; omega)
  · refine OcPost.out ?_
    intro a' vs' e' tl'' h'' tk' hl' hv' hne' F₂ N₂ hfr
    dsimp only
    k_steps
    refine hret _ [] ((a', lstO vs' e') :: (tl'' ++ [q1])) _ _ (by assumption) (News.sub (by assumption) (fun p hp => ?_)) (fun q hq p hp => ?_) ⟨rfl, a', vs', e', _, rfl, rfl, hl', hv', fun p hp => ?_⟩
    · simp only [List.nil_append, List.cons_append, List.append_assoc] at hp ⊢
      exact hp
    · simp only [List.mem_cons, List.mem_append] at hp
      rcases hp with rfl | hp | rfl | hp
      · exact hfr q (.tail _ hq) _ (.head _)
      · exact hfr q (.tail _ hq) _ (.tail _ hp)
      · exact l1 q hq
      · cases hp
    · simp only [List.mem_append, List.mem_singleton] at hp
      rcases hp with hp | rfl
      · exact hne' p hp
      · exact Nat.ne_of_lt (hfr _ (.head _) _ (.head _))

theorem opens_vcall (w : World) (R : Led) (a p d : Addr) (o : Obj) (n : Nat) (t : Tok) (h1 : (a, instObj 147 d) ∈ R) (h2 : (d, o) ∈ R) (h3 : NodeD w .vcall p o) (h4 : (p, tupO [.str sA t] n) ∈ R) : Ct w 332 [.ref a] 5 [] R (OcPost 1) := by
  obtain ⟨t1, t2, t3, t4, t5, t6, rfl⟩ := h3
  unfold Ct; k_fill; intro dp un gd A₀ base h₀ outer env L m s pp loose mean mg mb Q B F X N T hf hk hd hu hret
  simp only [List.nil_append] at N
  k_dflt (refine' code_def ?k1 ?k2 ?k3 ?k4 ?k5 ?kA ?kF ?kK ?k6 ?k7 ?k8 ?k9 ?kB ?_ ?c2 ?c3 ?c4 ?c5; (case kA => exact rfl); (case kF => assumption); (case kK => assumption); (case k1 => k_asm); (case k2 => k_asm); (case k3 => k_asm); (case k4 => k_asm); (case k5 => k_asm); (case k6 => k_is); (case k7 => k_is); (case k8 => ktr_room); (case k9 => first | exact BindsTo.of_eq rfl | exact binds_K (by k_in) rfl (by k_is) rfl rfl rfl); (case c5 => decide); (case kB => exact locs rfl); (case c2 => exact rfl); (case c3 => exact rfl); (case c4 => exact rfl); k_whole; intro g' L' h' FG' F' N' B' X' T'; (try dsimp only); (try k_fold); (refine frame_name F' ?_); clear F'; intro mm' F' hfr')
  k_steps
  (rename ∀ p ∈ R, p.1 < _ => l1)
  refine hret _ [] [_] _ _ (by assumption) (by assumption) (fun q hq p hp => ?_) ⟨rfl, _, [.str sA t], _, [], rfl, rfl, rfl, (fun v hv => ⟨t, List.mem_singleton.mp hv⟩), fun _ h => nomatch h⟩
  rw [List.mem_singleton.mp hp]; exact l1 q hq

theorem opens_ok (w : World) : ∀ n th, Th.ht th ≤ n → th.opens < 1000 → ∀ R, ThIn w R th → ThWf th → Ct w 332 [th.val] (th.ht + 5) [] R (OcPost th.opens)
  | 0, th, h, _, _, _, _ => absurd (Th.ht_pos th) (Nat.not_lt.mpr h)
  | n + 1, .lit v, h, ho, R, hi, hw => by cases hi with | lit hv => exact (opens_ls w R v (.inl hv)).more (by omega)
  | n + 1, .str t, h, ho, R, hi, hw => (opens_ls w R _ (.inr ⟨t, rfl⟩)).more (by omega)
  | n + 1, .seq tup a k is, h, ho, R, hi, hw => by
    cases hi with
    | seq hm hl his =>
      cases hw with
      | seq hw =>
        unfold Th.ht at h ⊢
        unfold Th.opens at ho ⊢
        exact (opens_seq w R tup a k is hm his ho fun i hi R' hR' => opens_ok w n i (by have := Th.ht_mem hi; omega) (by have := opens_mem hi; omega) R' hR' (hw i hi)).more (by omega)
  | n + 1, .node k a p is, h, ho, R, hi, hw => by
    cases hi with
    | @node _ _ _ d o n' _ h1 h2 h3 h4 hl his =>
      have hgen : k ≠ .vcall → (∀ i ∈ is, ThWf i) → Ct w 332 [.ref a] ((Th.node k a p is).ht + 5) [] R (OcPost (Th.node k a p is).opens) := by
        intro hk hwi
        have e : (Th.node k a p is).opens = Th.openss is := by
          unfold Th.opens
          cases k <;> first | rfl | exact absurd rfl hk
        rw [e] at ho ⊢
        unfold Th.ht at h ⊢
        refine (opens_node w R k a p d o is h1 h2 h3 (1 + Th.hts is) hk fun R' hR' => ?_).more (by first | exact ar_ht5 | omega)
        exact (opens_seq w R' true p n' is (hR' _ h4) (fun i hi => (his i hi).mono hR') ho fun i hi R' hR' => opens_ok w n i (by have := Th.ht_mem hi; omega) (by have := opens_mem hi; omega) R' hR' (hwi i hi)).more (by first | exact ar_ht5 | omega)
      rcases hw.items with ⟨t, rfl, hk⟩ | ⟨_, h5, _, hwi⟩
      · by_cases hk' : k = .vcall
        · subst hk'
          exact (opens_vcall w R a p d o n' t h1 h2 h3 h4).more (by omega)
        · exact hgen hk' fun i hi => by rw [List.mem_singleton.mp hi]; exact .str
      · exact hgen h5 hwi

section
variable {prog : Program} {w : World} {A : Around} {E : Value → Shared → Prop} {s : Shared} {h₀ : Heap} {L : Addr} {m : PySem.Str → Option Value} {Q : Value → Shared → Prop} {news : Led}
theorem add_N {a b : Addr} {xs ys : List Value} {n k : Nat} (F : Fr h₀ L s.heap m) (N : News h₀ L s.heap news) (ha : (a, lstO xs n) ∈ news) (hb : (b, lstO ys k) ∈ news) (hsz : xs.length + ys.length < 1000000)
    (h : ∀ D h', Fr h₀ L h' m → News h₀ L h' ((D, lstO (xs ++ ys) 0) :: news) → (∀ p ∈ news, p.1 < D) → Q (.ref D) { s with heap := h' }) :
    wpAny (model prog w) A (binaryOp .Add (.ref a) (.ref b)) Q E s :=
  add_lists (hsz := by rw [sizeLine_eq]; omega) F N ⟨_, (N _ ha).1, rfl, n, rfl⟩ ⟨_, (N _ hb).1, rfl, k, rfl⟩ fun h' F' N' => h _ h' F' N' fun p hp => Heap.lt_size (N p hp).1
end

local macro_rules | `(tactic| walk_at "binaryOp Add ref ref") => `(tactic| (k_here; (with_reducible show wpAny _ _ (binaryOp _ (Value.ref _) (Value.ref _)) _ _ _); k_dflt (refine add_N (by k_asm) (by k_asm) (by k_mem) (by k_mem) (by omega) ?_); intro _ _ _ _ _))
mutual
noncomputable def Th.tops : Th → List Th
  | .lit _ => []
  | .str _ => []
  | .seq _ _ _ is => Th.topss is
  | .node k a p is => [.node k a p is]
noncomputable def Th.topss : List Th → List Th
  | [] => []
  | i :: is => i.tops ++ Th.topss is
end
theorem topss_snoc {th : Th} : ∀ {is : List Th} {i : Nat}, is[i]? = some th → Th.topss (is.take (i + 1)) = Th.topss (is.take i) ++ th.tops
  | [], _, h => by cases h
  | j :: is, 0, h => by cases h; simp [Th.topss]
  | j :: is, i + 1, h => by
    have ih := topss_snoc (is := is) (i := i) (by simpa using h)
    simp only [List.take_succ_cons, Th.topss, ih, List.append_assoc]
theorem topss_take : ∀ (is : List Th) (i : Nat), (Th.topss (is.take i)).length ≤ (Th.topss is).length
  | [], _ => by simp
  | j :: is, 0 => by simp [Th.topss]
  | j :: is, i + 1 => by
    have := topss_take is i
    simp only [List.take_succ_cons, Th.topss, List.length_append]; exact Nat.add_le_add_left this _
theorem tops_mem {i : Th} : ∀ {is : List Th}, i ∈ is → i.tops.length ≤ (Th.topss is).length
  | _ :: _, .head _ => by unfold Th.topss; rw [List.length_append]; exact Nat.le_add_right _ _
  | j :: is, .tail _ h => by unfold Th.topss; rw [List.length_append]; exact Nat.le_trans (tops_mem h) (Nat.le_add_left _ _)

inductive NiPost (ts : List Th) (r : Value) (M' tl : Led) : Prop
  | ex (h1 : M' = []) (a : _) (e : _) (tl' : _) (h2 : r = .ref a) (h3 : tl = (a, lstO (ts.map Th.val) e) :: tl') (h4 : ∀ p ∈ tl', p.1 ≠ a)
theorem NiPost.out {h₀ : Heap} {L : Addr} {m : PySem.Str → Option Value} {R : Led} {W : Led → Prop} {G : Value → Heap → Nat → Prop} {ts : List Th}
    (k : ∀ a e tl' h' tk', (∀ p ∈ tl', p.1 ≠ a) → Fr h₀ L h' m → News h₀ L h' ((a, lstO (ts.map Th.val) e) :: (tl' ++ R)) → W ((a, lstO (ts.map Th.val) e) :: tl') → G (.ref a) h' tk') :
    ∀ r M' tl h' tk', Fr h₀ L h' m → News h₀ L h' (M' ++ (tl ++ R)) → W tl → NiPost ts r M' tl → G r h' tk' := by
  rintro _ _ _ h' tk' F N hw ⟨rfl, a, e, tl', rfl, rfl, h1⟩
  exact k a e tl' h' tk' h1 F N hw

theorem nodes_ls (w : World) (R : Led) (v : Value) (hv : IsLs v) : Ct w 190 [v] 5 [] R (NiPost []) := by
  unfold Ct; k_fill; intro dp un gd A₀ base h₀ outer env L m s pp loose mean mg mb Q B F X N T hf hk hd hu hret
  simp only [List.nil_append] at N
  k_dflt (refine' code_def ?k1 ?k2 ?k3 ?k4 ?k5 ?kA ?kF ?kK ?k6 ?k7 ?k8 ?k9 ?kB ?_ ?c2 ?c3 ?c4 ?c5; (case kA => exact rfl); (case kF => assumption); (case kK => assumption); (case k1 => k_asm); (case k2 => k_asm); (case k3 => k_asm); (case k4 => k_asm); (case k5 => k_asm); (case k6 => k_is); (case k7 => k_is); (case k8 => ktr_room); (case k9 => first | exact BindsTo.of_eq rfl | exact binds_K (by k_in) rfl (by k_is) rfl rfl rfl); (case c5 => decide); (case kB => exact locs rfl); (case c2 => exact rfl); (case c3 => exact rfl); (case c4 => exact rfl); k_whole; intro g' L' h' FG' F' N' B' X' T'; (try dsimp only); (try k_fold); (refine frame_name F' ?_); clear F'; intro mm' F' hfr')
  k_steps
  (rename News h₀ L _ (_ :: _ :: R) => kN)
  (rename _ ∧ AllLt _ R => l2)
  (rename ∀ p ∈ R, p.1 < _ => l1)
  have l3 := l2.2.of
  have l4 := l2.1
  refine hret _ [] [_, _] _ _ (by assumption) (News.swap kN) ?_ ⟨rfl, _, _, [_], rfl, rfl, ?_⟩
  · exact fun q hq => List.forall_mem_cons.mpr ⟨by first | exact l1 q hq | exact l3 q hq, List.forall_mem_cons.mpr ⟨by first | exact l1 q hq | exact l3 q hq, fun _ h => nomatch h⟩⟩
  · exact List.forall_mem_cons.mpr ⟨by first | exact Nat.ne_of_gt l4 | exact Nat.ne_of_lt l4, fun _ h => nomatch h⟩

theorem nodes_node (w : World) (R : Led) (k : Kd) (a p d : Addr) (o : Obj) (is : List Th) (h1 : (a, instObj 147 d) ∈ R) (h2 : (d, o) ∈ R) (h3 : NodeD w k p o) : Ct w 190 [.ref a] 5 [] R (NiPost [.node k a p is]) := by
  obtain ⟨t1, t2, t3, t4, t5, t6, rfl⟩ := h3
  unfold Ct; k_fill; intro dp un gd A₀ base h₀ outer env L m s pp loose mean mg mb Q B F X N T hf hk hd hu hret
  simp only [List.nil_append] at N
  k_dflt (refine' code_def ?k1 ?k2 ?k3 ?k4 ?k5 ?kA ?kF ?kK ?k6 ?k7 ?k8 ?k9 ?kB ?_ ?c2 ?c3 ?c4 ?c5; (case kA => exact rfl); (case kF => assumption); (case kK => assumption); (case k1 => k_asm); (case k2 => k_asm); (case k3 => k_asm); (case k4 => k_asm); (case k5 => k_asm); (case k6 => k_is); (case k7 => k_is); (case k8 => ktr_room); (case k9 => first | exact BindsTo.of_eq rfl | exact binds_K (by k_in) rfl (by k_is) rfl rfl rfl); (case c5 => decide); (case kB => exact locs rfl); (case c2 => exact rfl); (case c3 => exact rfl); (case c4 => exact rfl); k_whole; intro g' L' h' FG' F' N' B' X' T'; (try dsimp only); (try k_fold); (refine frame_name F' ?_); clear F'; intro mm' F' hfr')
  k_steps
  (rename ∀ p ∈ R, p.1 < _ => l1)
  refine hret _ [] [_] _ _ (by assumption) (by assumption) ?_ ⟨rfl, _, _, [], rfl, rfl, fun _ h => nomatch h⟩
  exact fun q hq p hp => by rw [List.mem_singleton.mp hp]; exact l1 q hq

inductive NiJ (R : Led) (is : List Th) (i : Nat) (m : PySem.Str → Option Value) (nx : Led) : Prop
  | ex (f : _) (e : _) (tl : _) (h1 : m (Str.ofString "found") = some (.ref f)) (h2 : nx = (f, lstO ((Th.topss (is.take i)).map Th.val) e) :: (tl ++ R)) (h3 : (∀ p ∈ tl, p.1 ≠ f)) (h4 : (∀ q ∈ R, ∀ p ∈ tl, q.1 < p.1)) (h5 : ∀ q ∈ R, q.1 < f)
theorem NiJ.elim {R : Led} {is : List Th} {i : Nat} {m : PySem.Str → Option Value} {P : Led → Prop} (k : ∀ f e tl, m (Str.ofString "found") = some (.ref f) → ((∀ p ∈ tl, p.1 ≠ f)) → ((∀ q ∈ R, ∀ p ∈ tl, q.1 < p.1)) → (∀ q ∈ R, q.1 < f) → P ((f, lstO ((Th.topss (is.take i)).map Th.val) e) :: (tl ++ R))) : ∀ nx, NiJ R is i m nx → P nx := by
  intro nx h
  obtain ⟨f, e, tl, h1, rfl, h2, h3, h4⟩ := h
  exact k f e tl h1 h2 h3 h4

theorem nodes_seq (w : World) (R : Led) (tup : Bool) (a : Addr) (n : Nat) (is : List Th) (hm : (a, sqO tup (is.map Th.val) n) ∈ R) (his : ∀ i ∈ is, ThIn w R i) (hop : (Th.topss is).length < 1000)
    (ih : ∀ i ∈ is, ∀ R', ThIn w R' i → Ct w 190 [i.val] (i.ht + 5) [] R' (NiPost i.tops)) : Ct w 190 [.ref a] (1 + Th.hts is + 5) [] R (NiPost (Th.topss is)) := by
  unfold Ct; k_fill; intro dp un gd A₀ base h₀ outer env L m s pp loose mean mg mb Q B F X N T hf hk hd hu hret
  simp only [List.nil_append] at N
  k_dflt (refine' code_def ?k1 ?k2 ?k3 ?k4 ?k5 ?kA ?kF ?kK ?k6 ?k7 ?k8 ?k9 ?kB ?_ ?c2 ?c3 ?c4 ?c5; (case kA => exact rfl); (case kF => assumption); (case kK => assumption); (case k1 => k_asm); (case k2 => k_asm); (case k3 => k_asm); (case k4 => k_asm); (case k5 => k_asm); (case k6 => k_is); (case k7 => k_is); (case k8 => ktr_room); (case k9 => first | exact BindsTo.of_eq rfl | exact binds_K (by k_in) rfl (by k_is) rfl rfl rfl); (case c5 => decide); (case kB => exact locs rfl); (case c2 => exact rfl); (case c3 => exact rfl); (case c4 => exact rfl); k_whole; intro g' L' h' FG' F' N' B' X' T'; (try dsimp only); (try k_fold); (refine frame_name F' ?_); clear F'; intro mm' F' hfr')
  k_steps
  (rename News _ _ _ (_ :: (_, _) :: R) => kN)
  (rename Fr _ L' _ _ => kF)
  (rename _ ∧ AllLt _ R => l2)
  (rename ∀ p ∈ R, p.1 < _ => l1)
  have l3 := l2.2.of
  have l4 := l2.1
  refine loop_sq (NiJ R is) rfl (.tail _ (.tail _ hm)) kF (News.swap kN) ⟨_, _, [_], rfl, rfl, ?_, ?_, l1⟩ ?_ ?_
  · exact List.forall_mem_cons.mpr ⟨by first | exact Nat.ne_of_gt l4 | exact Nat.ne_of_lt l4, fun _ h => nomatch h⟩
  · exact fun q hq p hp => by rw [List.mem_singleton.mp hp]; first | exact l3 q hq | exact l1 q hq
  · intro I i v m₁ news₁ h tk oI hv hI1 hI2 hmem hJ0
    revert hI2 hmem
    revert hJ0
    revert news₁
    refine NiJ.elim ?_
    intro f e tl hfo htl hord hRf hI2 hmem F₁ N₁
    k_steps
    obtain ⟨th, hth, rfl, hmi, hle⟩ := map_get hv
    refine ih th hmi _ ((his th hmi).mono fun p hp => .tail _ (.tail _ (List.mem_append_right _ hp))) _ _ _ _ _ _ _ _ _ _ _ _ _ _ _ _ _ (by assumption) (by assumption) (by assumption) N₁ (by assumption) rfl rfl ?_ ?_ ?_
    · first | exact room1 hd (by decide) | (show dp + 1 + _ < _; omega)
    · first | exact room2 hu (by decide) | (show un + 3 + _ < _; omega)
    · refine NiPost.out ?_
      intro a' e' tl'' h'' tk' hne' F₂ N₂ hfr
      dsimp only
      have ha1 : (f, lstO ((Th.topss (is.take i)).map Th.val) e) ∈ (a', lstO (th.tops.map Th.val) e') :: (tl'' ++ ((I, oI) :: (f, lstO ((Th.topss (is.take i)).map Th.val) e) :: (tl ++ R))) := by array_get_dec
      have ha2 : (a', lstO (th.tops.map Th.val) e') ∈ (a', lstO (th.tops.map Th.val) e') :: (tl'' ++ ((I, oI) :: (f, lstO ((Th.topss (is.take i)).map Th.val) e) :: (tl ++ R))) := by array_get_dec
      have hlt2 : ((Th.topss (is.take i)).map Th.val).length + (th.tops.map Th.val).length < 1000000 := by
        have := topss_take is (i + 1)
        rw [topss_snoc hth, List.length_append] at this
        rw [List.length_map, List.length_map]
        omega
      k_steps
      (rename News _ _ _ ((_, lstO (_ ++ _) _) :: _) => N4)
      (rename ∀ p : Addr × Obj, p ∈ (a', _) :: _ → p.1 < _ => l5)
      rename_i D _ _ _ _ _
      refine cps (fun cG => ∀ m4, Fr g' L' _ m4 → m4 (Str.ofString "found") = some (.ref D) → News g' L' _ ((D, lstO ((Th.topss (is.take i)).map Th.val ++ th.tops.map Th.val) 0) :: ((a', lstO (th.tops.map Th.val) e') :: (tl'' ++ (I, oI) :: (f, lstO ((Th.topss (is.take i)).map Th.val) e) :: (tl ++ R)))) → (∀ p : Addr × Obj, p ∈ (a', lstO (th.tops.map Th.val) e') :: (tl'' ++ (I, oI) :: (f, lstO ((Th.topss (is.take i)).map Th.val) e) :: (tl ++ R)) → p.1 < D) → cG) ?_ (fun ck => ck _ (by assumption) (by tb_rel) N4 l5)
      intro m4 F4 e4 N4 l5
      rw [← List.map_append, ← topss_snoc hth] at N4
      refine SqEnd.intro (nx := (D, lstO ((Th.topss (is.take (i + 1))).map Th.val) 0) :: (((a', lstO (th.tops.map Th.val) e') :: (tl'' ++ (f, lstO ((Th.topss (is.take i)).map Th.val) e) :: tl)) ++ R)) F4 (News.sub N4 ?_) ?_ (List.mem_cons_of_mem _ (List.mem_append_right _ hm)) ⟨D, _, _, e4, rfl, ?_, ?_, ?_⟩
      · array_get_dec
      · exact List.forall_mem_cons.mpr ⟨Nat.ne_of_gt (l5 (I, oI) (.tail _ (List.mem_append_right _ (.head _)))), all_led (List.forall_mem_cons.mpr ⟨Nat.ne_of_gt (hfr (I, oI) (.head _) _ (.head _)), all_led (fun p hp => Nat.ne_of_gt (hfr (I, oI) (.head _) p (.tail _ hp))) (List.forall_mem_cons.mpr ⟨hI2 _ (.head _), fun p hp => hI2 p (.tail _ (List.mem_append_left _ hp))⟩)⟩) (fun p hp => hI2 p (.tail _ (List.mem_append_right _ hp)))⟩
      · exact List.forall_mem_cons.mpr ⟨Nat.ne_of_lt (l5 _ (.head _)), all_led (fun p hp => Nat.ne_of_lt (l5 p (.tail _ (List.mem_append_left _ hp)))) (List.forall_mem_cons.mpr ⟨Nat.ne_of_lt (l5 _ (.tail _ (List.mem_append_right _ (.tail _ (.head _))))), fun p hp => Nat.ne_of_lt (l5 p (.tail _ (List.mem_append_right _ (.tail _ (.tail _ (List.mem_append_left _ hp))))))⟩)⟩
      · exact fun q hq => List.forall_mem_cons.mpr ⟨hfr q (.tail _ (.tail _ (List.mem_append_right _ hq))) _ (.head _), all_led (fun p hp => hfr q (.tail _ (.tail _ (List.mem_append_right _ hq))) p (.tail _ hp)) (List.forall_mem_cons.mpr ⟨hRf q hq, hord q hq⟩)⟩
      · exact fun q hq => l5 q (.tail _ (List.mem_append_right _ (.tail _ (.tail _ (List.mem_append_right _ hq)))))
  · intro m₁ nx h tk hmem hJ0
    revert hmem
    revert hJ0
    revert nx
    refine NiJ.elim ?_
    intro f e tl hfo htl hord hRf hmem F₁ N₁
    k_steps
    rw [List.length_map, List.take_length] at *
    refine hret _ [] (_ :: tl) _ _ (by assumption) (by assumption) ?_ ⟨rfl, _, _, tl, rfl, rfl, htl⟩
    exact fun q hq => List.forall_mem_cons.mpr ⟨hRf q hq, hord q hq⟩

theorem nodes_ok (w : World) : ∀ n th, Th.ht th ≤ n → th.tops.length < 1000 → ∀ R, ThIn w R th → Ct w 190 [th.val] (th.ht + 5) [] R (NiPost th.tops)
  | 0, th, h, _, _, _ => absurd (Th.ht_pos th) (Nat.not_lt.mpr h)
  | n + 1, .lit v, h, ho, R, hi => by cases hi with | lit hv => exact (nodes_ls w R v (.inl hv)).more (by omega)
  | n + 1, .str t, h, ho, R, hi => (nodes_ls w R _ (.inr ⟨t, rfl⟩)).more (by omega)
  | n + 1, .seq tup a k is, h, ho, R, hi => by
    cases hi with
    | seq hm hl his =>
      unfold Th.ht at h ⊢
      unfold Th.tops at ho ⊢
      exact (nodes_seq w R tup a k is hm his ho fun i hi R' hR' => nodes_ok w n i (by have := Th.ht_mem hi; omega) (by have := tops_mem hi; omega) R' hR').more (by omega)
  | n + 1, .node k a p is, h, ho, R, hi => by
    cases hi with
    | @node _ _ _ d o n' _ h1 h2 h3 h4 hl his =>
      unfold Th.tops
      exact (nodes_node w R k a p d o is h1 h2 h3).more (by unfold Th.ht; omega)

theorem last_snoc : ∀ (ys : List Value) (y : Value), kl_last (ys ++ [y]) = some (ys, y)
  | [], y => rfl
  | x :: r, y => by
    show (match kl_last (r ++ [y]) with | some (p, z) => some (x :: p, z) | none => some ([], x)) = _
    rw [last_snoc r y]

theorem updF_upd {d : Addr} {o : Obj} {l : Led} {g : Obj → Led} (U : UpdF d o l g) (o' : Obj) : Upd d o o' l (g o') := by
  induction U with
  | head h => exact .head h
  | tail h _ ih => exact .tail h ih

section
variable {prog : Program} {w : World} {A : Around} {E : Value → Shared → Prop} {s : Shared} {h₀ : Heap} {L : Addr} {m : PySem.Str → Option Value} {Q : Value → Shared → Prop} {news : Led}
theorem pop_N {D : Addr} {ys : List Value} {y : Value} {n : Nat} {g : Obj → Led} (F : Fr h₀ L s.heap m) (N : News h₀ L s.heap news) (U : UpdF D (lstO (ys ++ [y]) n) news g) (hsz : ys.length < 1000000)
    (h : ∀ h', Fr h₀ L h' m → News h₀ L h' (g (lstO ys (n + 1))) → Q y { s with heap := h' }) :
    wpAny (model prog w) A (call (.builtin "list.pop") [.ref D]) Q E s := by
  refine kl_pop (p := ys) (y := y) (its := (ys ++ [y]).toArray) (n := n) (news' := g (lstO ys (n + 1))) F N (last_snoc ys y) (updF_upd U _) ?_ h
  rw [sizeLine_eq]; simp; omega
theorem app_N {D : Addr} {ys : List Value} {y : Value} {n : Nat} {g : Obj → Led} (F : Fr h₀ L s.heap m) (N : News h₀ L s.heap news) (U : UpdF D (lstO ys n) news g) (hsz : ys.length < 1000000)
    (h : ∀ h', Fr h₀ L h' m → News h₀ L h' (g (lstO (ys ++ [y]) (n + 1))) → Q .none { s with heap := h' }) :
    wpAny (model prog w) A (call (.builtin "list.append") [.ref D, y]) Q E s := by
  obtain ⟨pre, post, rfl, hg, h1, h2⟩ := U.split
  exact append_in (hsz := by rw [sizeLine_eq]; omega) F N h1 h2 fun h' F' N' => h h' F' (hg _ ▸ N')
theorem rev_N {l : Addr} {ys : List Value} {n : Nat} {value slice : PySem.Expr} {vk : Value} {ops : List Value} (F : Fr h₀ L s.heap m) (N : News h₀ L s.heap news) (hm : (l, lstO ys n) ∈ news) (pk : IsPart vk (some (-1))) (hsz : ys.length < 1000000)
    (h : ∀ D h', Fr h₀ L h' m → News h₀ L h' ((D, lstO ys.reverse 0) :: news) → (∀ p ∈ news, p.1 < D) → Q (.ref D) { s with heap := h' })
    (hs : subscripted slice false (.ref l) (.ref s.heap.objs.size) = operate ops (getItem (.ref l) (.ref s.heap.objs.size))) (ht : ∀ r, letTemporaryGo value (.ref l) r = pure ()) :
    wpAny (model prog w) A (subscriptTail value slice (.ref l) (.ref s.heap.objs.size)) Q E { s with heap := s.heap.push { cls := .type "slice", data := .fields #[.none, .none, vk] } } :=
  krv_lit (its := ys.toArray) (zs := ys.reverse) F N ⟨_, (N _ hm).1, rfl, n, rfl⟩ pk rfl h hs ht (by rw [sizeLine_eq]; simp; omega)
end

noncomputable def Stop (P : Prop) : Prop := P
theorem Stop.intro {P : Prop} (h : Stop P) : P := h
theorem all_app {α : Type} {P : α → Prop} {a b : List α} (h : ∀ p ∈ a, P p) (h' : ∀ p ∈ b, P p) : ∀ p ∈ a ++ b, P p := fun p hp => (List.mem_append.mp hp).elim (h p) (h' p)
section
variable {prog : Program} {w : World} {A : Around} {E : Value → Shared → Prop} {s : Shared} {h₀ : Heap} {L : Addr} {m : PySem.Str → Option Value} {Q : Bool → Shared → Prop} {news : Led}
theorem truthy_N {l : Addr} {ys : List Value} {n : Nat} (N : News h₀ L s.heap news) (hm : (l, lstO ys n) ∈ news) (hsz : ys.length < 1000000) (h : ∀ tk, Q (!ys.isEmpty) { s with toks := tk }) : wpAny (model prog w) A (truthy (.ref l)) Q E s := by
  refine wpAny_truthy_list (items := ys.toArray) ⟨_, (N _ hm).1, rfl, n, rfl⟩ ?_ ?_
  · rw [List.size_toArray]; omega
  · have e : ((ys.toArray.size : Int) != 0) = !ys.isEmpty := by cases ys <;> simp; omega
    first | (rw [e]; exact h _) | (simp only [e]; exact h _) | (have := h; cases ys <;> simp_all)
theorem isEmpty_snoc {α : Type} (l : List α) (x : α) : (!(l ++ [x]).isEmpty) = true := by cases l <;> rfl
end
section
variable {prog : Program} {w : World} {A : Around} {E : Value → Shared → Prop} {s : Shared} {h₀ : Heap} {L : Addr} {Q : Value → Shared → Prop} {news : Led}
theorem item_N {value slice : PySem.Expr} {l : Addr} {vs : List Value} {n : Nat} {k : Int} {u : Tok} {x : Value} (N : News h₀ L s.heap news) (hm : (l, lstO vs n) ∈ news) (h0 : 0 ≤ k) (hfit : k < 2 ^ 63) (hx : vs[k.toNat]? = some x) (h : Q x s)
    (hs : subscripted slice false (.ref l) (.int k u) = operate [.ref l, .int k u] (getItem (.ref l) (.int k u))) (hg : ∀ r, letTemporaryGo value (.ref l) r = pure ()) :
    wpAny (model prog w) A (subscriptTail value slice (.ref l) (.int k u)) Q E s :=
  item_listL ⟨_, (N _ hm).1, rfl, n, rfl⟩ h0 hfit hx h hs hg
end

local macro_rules | `(tactic| walk_at "m item") => `(tactic| (k_here; (with_reducible show wpAny _ _ (subscriptTail _ _ (Value.ref _) (Value.int _ _)) _ _ _); k_dflt (refine item_N (by k_asm) (by k_mem) (by decide) (by decide) (by first | assumption | exact rfl) ?_ (by with_unfolding_all rfl) (by intro _; with_unfolding_all rfl))))
local macro_rules | `(tactic| walk_at "call builtin:list.pop") => `(tactic| (walk_at "m bi"; k_dflt (refine pop_N (by k_asm) (by k_asm) (by k_updF) (by omega) ?_); intro _ _ _))
local macro_rules | `(tactic| walk_at "call builtin:list.append") => `(tactic| (k_here; (with_reducible show wpAny _ _ (call (Value.builtin _) [Value.ref _, _]) _ _ _); k_dflt (refine app_N (by k_asm) (by k_asm) (by k_updF) (by omega) ?_); intro _ _ _))
local macro_rules | `(tactic| walk_at "subscriptTail Name Slice ref ref") => `(tactic| (k_here; (with_reducible show wpAny _ _ (subscriptTail _ (PySem.Expr.Slice none none (some _) _) (Value.ref _) (Value.ref _)) _ _ _); k_dflt (refine rev_N (by k_asm) (by k_asm) (by k_mem) (by exact IsPart.int _ _) (by omega) ?_ (by with_unfolding_all rfl) (by kmk_pure)); intro _ _ _ _; walk_at "m lt"))
local macro_rules | `(tactic| walk_at "exec While") => `(tactic| (k_here; refine Stop.intro ?_))
local macro_rules | `(tactic| walk_at "last exec While") => `(tactic| (k_here; refine Stop.intro ?_))
local macro_rules | `(tactic| k_mem) => `(tactic| first | (refine List.mem_append_right _ ?_; k_mem) | (refine List.mem_append_left _ ?_; k_mem))
local macro_rules | `(tactic| k_all) => `(tactic| (refine all_app ?_ ?_ <;> k_all))
local macro_rules | `(tactic| walk_at "exec For Name Attribute cons nil") => `(tactic| walk_at "m for")
local macro_rules | `(tactic| walk_at "truthy ref") => `(tactic| (k_here; (with_reducible show wpAny _ _ (truthy (Value.ref _)) _ _ _); k_dflt (refine truthy_N (by k_asm) (by k_mem) (by omega) ?_); intro _; (try rw [isEmpty_snoc])))
local macro_rules | `(tactic| tb_rel) => `(tactic| first | exact if_pos rfl | (refine (if_neg (by decide)).trans ?_; tb_rel))
local macro_rules | `(tactic| walk_at "last subscriptTail") => `(tactic| walk_at "m item")
local macro_rules | `(tactic| walk_at "subscriptTail Name Name") => `(tactic| walk_at "m item")
mutual
noncomputable def Th.sz : Th → Nat
  | .lit _ => 0
  | .str _ => 0
  | .seq _ _ _ is => Th.szs is
  | .node _ _ _ is => 1 + Th.szs is
noncomputable def Th.szs : List Th → Nat
  | [] => 0
  | i :: is => i.sz + Th.szs is
end
theorem szs_append : ∀ (a b : List Th), Th.szs (a ++ b) = Th.szs a + Th.szs b
  | [], b => by simp [Th.szs]
  | i :: a, b => by simp only [List.cons_append, Th.szs, szs_append a b, Nat.add_assoc]
theorem szs_reverse : ∀ (a : List Th), Th.szs a.reverse = Th.szs a
  | [] => rfl
  | i :: a => by simp only [List.reverse_cons, szs_append, szs_reverse a, Th.szs]; exact Nat.add_comm _ _
mutual
theorem szs_tops : ∀ t : Th, Th.szs t.tops = t.sz
  | .lit _ => rfl
  | .str _ => rfl
  | .seq _ _ _ is => szs_topss is
  | .node _ _ _ is => rfl
theorem szs_topss : ∀ is : List Th, Th.szs (Th.topss is) = Th.szs is
  | [] => rfl
  | i :: is => by simp only [Th.topss, szs_append, szs_tops i, szs_topss is, Th.szs]
end
/-- a node of the tree that the walk may meet -/
noncomputable def NodeT (w : World) (R : Led) (c : Nat) (t : Th) : Prop := ThIn w R t ∧ t.ht ≤ c ∧ ∃ k a p is, t = .node k a p is
theorem len_szs {w : World} {R : Led} {c : Nat} : ∀ {ts : List Th}, (∀ t ∈ ts, NodeT w R c t) → ts.length ≤ Th.szs ts
  | [], _ => by simp
  | t :: ts, h => by
    obtain ⟨_, _, k, a, p, is, rfl⟩ := h t (.head _)
    have := len_szs fun u hu => h u (.tail _ hu)
    show ts.length + 1 ≤ 1 + Th.szs is + Th.szs ts
    exact Nat.le_trans (Nat.le_of_eq (Nat.add_comm _ 1)) (Nat.add_le_add (Nat.le_add_right 1 _) this)
mutual
theorem tops_ok {w : World} {R : Led} {c : Nat} : ∀ {t : Th}, ThIn w R t → t.ht ≤ c → ∀ u ∈ t.tops, NodeT w R c u
  | .lit _, _, _, _, hu => nomatch hu
  | .str _, _, _, _, hu => nomatch hu
  | .seq _ _ _ is, .seq _ _ his, h, u, hu => topss_ok his (Nat.le_trans (Nat.le_add_left _ 1) h) u hu
  | .node _ _ _ _, hi, h, u, hu => by rw [Th.tops, List.mem_singleton] at hu; subst hu; exact ⟨hi, h, _, _, _, _, rfl⟩
theorem topss_ok {w : World} {R : Led} {c : Nat} : ∀ {is : List Th}, (∀ i ∈ is, ThIn w R i) → Th.hts is ≤ c → ∀ u ∈ Th.topss is, NodeT w R c u
  | [], _, _, _, hu => nomatch hu
  | i :: is, hi, h, u, hu => by
    unfold Th.hts at h
    unfold Th.topss at hu
    rcases List.mem_append.mp hu with hu | hu
    · exact tops_ok (hi i (.head _)) (Nat.le_trans (Nat.le_max_left _ _) h) u hu
    · exact topss_ok (fun j hj => hi j (.tail _ hj)) (Nat.le_trans (Nat.le_max_right _ _) h) u hu
end
theorem snoc_cases {α : Type} (l : List α) : l = [] ∨ ∃ a b, l = a ++ [b] := by
  rcases List.eq_nil_or_concat l with h | ⟨a, b, h⟩
  · exact .inl h
  · exact .inr ⟨a, b, by rw [h, List.concat_eq_append]⟩

inductive WkPost (n : Nat) (r : Value) (M' tl : Led) : Prop
  | ex (h1 : M' = []) (a : _) (vs : _) (e : _) (tl' : _) (h2 : r = .ref a) (h3 : tl = (a, lstO vs e) :: tl') (h4 : vs.length = n) (h5 : ∀ p ∈ tl', p.1 ≠ a)
theorem WkPost.out {h₀ : Heap} {L : Addr} {m : PySem.Str → Option Value} {R : Led} {W : Led → Prop} {G : Value → Heap → Nat → Prop} {n : Nat}
    (k : ∀ a vs e tl' h' tk', vs.length = n → (∀ p ∈ tl', p.1 ≠ a) → Fr h₀ L h' m → News h₀ L h' ((a, lstO vs e) :: (tl' ++ R)) → W ((a, lstO vs e) :: tl') → G (.ref a) h' tk') :
    ∀ r M' tl h' tk', Fr h₀ L h' m → News h₀ L h' (M' ++ (tl ++ R)) → W tl → WkPost n r M' tl → G r h' tk' := by
  rintro _ _ _ h' tk' F N hw ⟨rfl, a, vs, e, tl', rfl, rfl, h1, h2⟩
  exact k a vs e tl' h' tk' h1 h2 F N hw

inductive WkJ (w : World) (R : Led) (c tot : Nat) (n : Nat) (m : PySem.Str → Option Value) (nx : Led) : Prop
  | ex (f : _) (vs : _) (e : _) (u : _) (ts : _) (e2 : _) (tl : _) (h1 : m (Str.ofString "found") = some (.ref f)) (h2 : m (Str.ofString "waiting") = some (.ref u)) (h3 : nx = (f, lstO vs e) :: (u, lstO (ts.map Th.val) e2) :: (tl ++ R)) (h4 : n = Th.szs ts) (h5 : vs.length + n = tot) (h6 : (∀ t ∈ ts, NodeT w R c t)) (h7 : (∀ p ∈ tl, p.1 ≠ f ∧ p.1 ≠ u)) (h8 : f ≠ u) (h9 : (∀ q ∈ R, ∀ p ∈ tl, q.1 < p.1)) (h10 : (∀ q ∈ R, q.1 < f)) (h11 : ∀ q ∈ R, q.1 < u)

inductive WiJ (f u : Addr) (R : Led) (is : List Th) (i : Nat) (m : PySem.Str → Option Value) (nx : Led) : Prop
  | ex (D : _) (e : _) (tl : _) (h1 : m (Str.ofString "found") = some (.ref f)) (h2 : m (Str.ofString "waiting") = some (.ref u)) (h3 : m (Str.ofString "within") = some (.ref D)) (h4 : nx = (D, lstO ((Th.topss (is.take i)).map Th.val) e) :: (tl ++ R)) (h5 : (∀ p ∈ tl, p.1 ≠ D)) (h6 : (∀ q ∈ R, ∀ p ∈ tl, q.1 < p.1)) (h7 : ∀ q ∈ R, q.1 < D)
theorem WiJ.elim {f u : Addr} {R : Led} {is : List Th} {i : Nat} {m : PySem.Str → Option Value} {P : Led → Prop} (k : ∀ D e tl, m (Str.ofString "found") = some (.ref f) → m (Str.ofString "waiting") = some (.ref u) → m (Str.ofString "within") = some (.ref D) → ((∀ p ∈ tl, p.1 ≠ D)) → ((∀ q ∈ R, ∀ p ∈ tl, q.1 < p.1)) → (∀ q ∈ R, q.1 < D) → P ((D, lstO ((Th.topss (is.take i)).map Th.val) e) :: (tl ++ R))) : ∀ nx, WiJ f u R is i m nx → P nx := by
  intro nx h
  obtain ⟨D, e, tl, h1, h2, h3, rfl, h4, h5, h6⟩ := h
  exact k D e tl h1 h2 h3 h4 h5 h6

theorem wr {v X z l : Nat} (hz : z < 1000) (h : v + X = z) (h1 : l + 1 ≤ X) : l < 1000 := Nat.lt_trans (Nat.lt_of_succ_le (Nat.le_trans h1 (h ▸ Nat.le_add_left X v))) hz
theorem wrv {v X z : Nat} (hz : z < 1000) (h : v + X = z) : v < 1000 := Nat.lt_of_le_of_lt (h ▸ Nat.le_add_right v X) hz
theorem wrt {v S t z : Nat} (hz : z < 1000) (h : v + (S + (1 + t + 0)) = z) : t < 1000 := Nat.lt_of_le_of_lt (h ▸ Nat.le_trans (Nat.le_trans (Nat.le_add_left t 1) (Nat.le_add_left (1 + t) S)) (Nat.le_add_left _ v)) hz
theorem wre {v S t z : Nat} (h : v + (S + (1 + t + 0)) = z) : v + 1 + (S + t) = z := by
  rw [← h, Nat.add_assoc v, Nat.add_left_comm 1 S]; rfl
theorem mil {l : Nat} (h : l < 1000) : l < 1000000 := Nat.lt_trans h (by decide)
theorem mil1 {l : Nat} (h : l < 1000) : l + 1 < 1000000 := Nat.lt_trans (Nat.succ_lt_succ h) (by decide)
theorem mil2 {a b : Nat} (h : a < 1000) (h' : b < 1000) : a + b < 1000000 := Nat.lt_trans (Nat.add_lt_add h h') (by decide)
theorem wrc {a c : Nat} (h : a ≤ c) : 1 + (a + 5) ≤ c + 20 := Nat.le_trans (Nat.le_of_eq (Nat.add_comm 1 (a + 5))) (Nat.le_trans (Nat.add_le_add_right h 6) (Nat.add_le_add_left (by decide) c))
theorem walk_ok (w : World) (R : Led) (th : Th) (c : Nat) (ht : NodeT w R c th) (hsz : th.sz < 1000) : Ct w 197 [th.val] (c + 20) [] R (WkPost th.sz) := by
  unfold Ct; k_fill; intro dp un gd A₀ base h₀ outer env L m s pp loose mean mg mb Q B F X N T hf hk hd hu hret
  simp only [List.nil_append] at N
  k_dflt (refine' code_def ?k1 ?k2 ?k3 ?k4 ?k5 ?kA ?kF ?kK ?k6 ?k7 ?k8 ?k9 ?kB ?_ ?c2 ?c3 ?c4 ?c5; (case kA => exact rfl); (case kF => assumption); (case kK => assumption); (case k1 => k_asm); (case k2 => k_asm); (case k3 => k_asm); (case k4 => k_asm); (case k5 => k_asm); (case k6 => k_is); (case k7 => k_is); (case k8 => ktr_room); (case k9 => first | exact BindsTo.of_eq rfl | exact binds_K (by k_in) rfl (by k_is) rfl rfl rfl); (case c5 => decide); (case kB => exact locs rfl); (case c2 => exact rfl); (case c3 => exact rfl); (case c4 => exact rfl); k_whole; intro g' L' h' FG' F' N' B' X' T'; (try dsimp only); (try k_fold); (refine frame_name F' ?_); clear F'; intro mm' F' hfr')
  k_steps
  (rename News _ L' _ _ => kN)
  (rename Fr _ L' _ _ => kF)
  (rename _ ∧ _ ∧ AllLt _ R => l3)
  (rename _ ∧ AllLt _ R => l2)
  (rename ∀ p ∈ R, p.1 < _ => l1)
  rename_i f _ u _ D _ _ _ _
  refine cps (fun cG => ∀ ot m1, News g' L' _ ((D, ot) :: (u, lstO [th.val] 0) :: (f, lstO [] 0) :: R) → (∀ p ∈ R, p.1 < f) → (f < u ∧ AllLt u R) → (u < D ∧ f < D ∧ AllLt D R) → Fr g' L' _ m1 → m1 (Str.ofString "found") = some (.ref f) → m1 (Str.ofString "waiting") = some (.ref u) → cG) ?_ (fun ck => ck _ _ kN l1 l2 l3 kF (by tb_rel) (by tb_rel))
  intro ot m1 kN l1 l2 l3 kF e1 e2
  have l4 := l2.2.of
  have l5 := l3.2.2.of
  have l6 := l2.1
  have l7 := l3.1
  have l8 := l3.2.1
  clear l2 l3
  unfold Stop
  refine While_inv (WkJ w R c th.sz) (n₀ := th.sz) (news := (f, lstO [] 0) :: (u, lstO ([th].map Th.val) 0) :: ([(D, ot)] ++ R)) kF (News.sub kN ?_) ⟨f, [], 0, u, [th], 0, [(D, ot)], e1, e2, rfl, ?_, ?_, ?_, ?_, ?_, ?_, ?_, ?_⟩ ?_
  · show ∀ p ∈ (f, lstO [] 0) :: (u, lstO [th.val] 0) :: ([(D, ot)] ++ R), _
    array_get_dec
  · simp [Th.szs]
  · simp
  · intro t h; rw [List.mem_singleton.mp h]; exact ht
  · exact fun p hp => by rw [List.mem_singleton.mp hp]; exact ⟨Nat.ne_of_gt l8, Nat.ne_of_gt l7⟩
  · exact Nat.ne_of_lt l6
  · exact fun q hq p hp => by rw [List.mem_singleton.mp hp]; exact l5 q hq
  · exact l1
  · exact l4
  clear kN kF l1 l4 l5 l6 l7 l8 e1 e2
  rintro n m₁ news₁ h₁ tk₁ F₁ N₁ ⟨f, vs, e, u, ts, e', tl, e1, e2, rfl, rfl, hlen, hts, htl, hfu, hord, hRf, hRu⟩
  have htf : ∀ p ∈ tl, p.1 ≠ f := fun p hp => (htl p hp).1
  have htu : ∀ p ∈ tl, p.1 ≠ u := fun p hp => (htl p hp).2
  have hRf' : ∀ p ∈ R, p.1 ≠ f := fun p hp => Nat.ne_of_lt (hRf p hp)
  have hRu' : ∀ p ∈ R, p.1 ≠ u := fun p hp => Nat.ne_of_lt (hRu p hp)
  have hts1 := len_szs hts
  rcases snoc_cases ts with rfl | ⟨ts', t, rfl⟩
  · rw [List.map_nil] at N₁
    k_steps
    simp only [Th.szs, Nat.add_zero] at hlen
    refine hret _ [] (_ :: (u, _) :: tl) _ _ (by assumption) (by assumption) ?_ ⟨rfl, _, vs, _, (u, _) :: tl, rfl, rfl, hlen, ?_⟩
    · exact fun q hq => List.forall_mem_cons.mpr ⟨hRf q hq, List.forall_mem_cons.mpr ⟨hRu q hq, hord q hq⟩⟩
    · exact List.forall_mem_cons.mpr ⟨Ne.symm hfu, htf⟩
  · obtain ⟨hin, hle, k, a, p, is, rfl⟩ := hts t (by simp)
    refine hin.atNodeO ?_
    intro d n' t1 t2 t3 t4 t5 t6 h1 h2 h4 hl his
    have ev : (Th.node k a p is).val = .ref a := rfl
    rw [List.map_append, List.map_singleton, ev] at N₁
    simp only [List.length_append, List.length_singleton] at hts1
    rw [szs_append, Th.szs, Th.szs, Th.sz] at hlen hts1
    have hz1 : (ts'.map Th.val).length < 1000000 := by rw [List.length_map]; exact mil (wr hsz hlen hts1)
    have hz2 : (ts'.map Th.val ++ [Value.ref a]).length < 1000000 := by simp only [List.length_append, List.length_singleton, List.length_map]; exact mil1 (wr hsz hlen hts1)
    have hz3 : vs.length < 1000000 := mil (wrv hsz hlen)
    k_steps
    (rename News _ L' _ (_ :: _ :: _ :: (tl ++ R)) => kN)
    (rename Fr _ L' _ _ => kF)
    (rename _ ∧ _ ∧ AllLt _ (tl ++ R) => l3)
    rename_i D _ _
    refine cps (fun cG => ∀ m2, News g' L' _ ((D, lstO [] 0) :: (f, lstO (vs ++ [Value.ref a]) (e + 1)) :: (u, lstO (ts'.map Th.val) (e' + 1)) :: (tl ++ R)) → (f < D ∧ u < D ∧ AllLt D (tl ++ R)) → Fr g' L' _ m2 → m2 (Str.ofString "found") = some (.ref f) → m2 (Str.ofString "waiting") = some (.ref u) → m2 (Str.ofString "within") = some (.ref D) → cG) ?_ (fun ck => ck _ kN l3 kF (by tb_rel) (by tb_rel) (by tb_rel))
    intro m2 kN l3 kF e3 e4 e5
    have l4 := l3.2.2.of
    have l5 := l3.1
    have l6 := l3.2.1
    clear l3 e1 e2
    have htop : Th.szs (Th.topss is) = Th.szs is := szs_topss is
    have hNT : ∀ x ∈ Th.topss is, NodeT w R c x := topss_ok his (Nat.le_trans (Nat.le_add_left (Th.hts is) 6) hle)
    have htl2 := len_szs hNT
    have hop : (Th.topss is).length < 1000 := Nat.lt_of_le_of_lt htl2 (htop.symm ▸ wrt hsz hlen)
    refine loop_sq (tup := true) (WiJ f u ((f, lstO (vs ++ [Value.ref a]) (e + 1)) :: (u, lstO (ts'.map Th.val) (e' + 1)) :: (tl ++ R)) is) rfl (.tail _ (.tail _ (.tail _ (List.mem_append_right _ h4)))) kF kN ⟨D, 0, [], e3, e4, e5, rfl, (fun _ h => nomatch h), (fun _ _ _ h => nomatch h), ?_⟩ ?_ ?_
    · exact List.forall_mem_cons.mpr ⟨l5, List.forall_mem_cons.mpr ⟨l6, l4⟩⟩
    · clear kN kF l4 l5 l6 e3 e4 e5
      intro I i v m₁ news₁ h tk oI hv hI1 hI2 hmem hJ0
      revert hI2 hmem
      revert hJ0
      revert news₁
      refine WiJ.elim ?_
      intro D e1 tl' e3 e4 e5 htD hord' hRD hI2 hmem F₁ N₁
      k_steps
      obtain ⟨th', hth, rfl, hmi, hle'⟩ := map_get hv
      have hin' := his th' hmi
      have htm := tops_mem hmi
      refine nodes_ok w _ th' (Nat.le_refl _) (Nat.lt_of_le_of_lt htm hop) _ (hin'.mono fun p hp => .tail _ (.tail _ (List.mem_append_right _ (.tail _ (.tail _ (List.mem_append_right _ hp)))))) _ _ _ _ _ _ _ _ _ _ _ _ _ _ _ _ _ (by assumption) (by assumption) (by assumption) N₁ (by assumption) rfl rfl ?_ ?_ ?_
      · exact room1 hd (wrc (Nat.le_trans hle' (Nat.le_trans (Nat.le_add_left (Th.hts is) 6) hle)))
      · exact room2 hu (wrc (Nat.le_trans hle' (Nat.le_trans (Nat.le_add_left (Th.hts is) 6) hle)))
      · refine NiPost.out ?_
        intro a' e'' tl3 h'' tk' hne' F₂ N₂ hfr
        dsimp only
        have hlt2 : ((Th.topss (is.take i)).map Th.val).length + (th'.tops.map Th.val).length < 1000000 := by
          have := topss_take is (i + 1)
          rw [topss_snoc hth, List.length_append] at this
          rw [List.length_map, List.length_map]
          exact mil (Nat.lt_of_le_of_lt this hop)
        k_steps
        (rename News _ _ _ ((_, lstO (_ ++ _) _) :: _) => N4)
        (rename ∀ p : Addr × Obj, p ∈ (a', _) :: _ → p.1 < _ => l5)
        rename_i E _ _ _ _ _
        refine cps (fun cG => ∀ m4, Fr g' L' _ m4 → m4 (Str.ofString "found") = some (.ref f) → m4 (Str.ofString "waiting") = some (.ref u) → m4 (Str.ofString "within") = some (.ref E) → News g' L' _ ((E, lstO ((Th.topss (is.take i)).map Th.val ++ th'.tops.map Th.val) 0) :: ((a', lstO (th'.tops.map Th.val) e'') :: (tl3 ++ (I, oI) :: (D, lstO ((Th.topss (is.take i)).map Th.val) e1) :: (tl' ++ (f, lstO (vs ++ [Value.ref a]) (e + 1)) :: (u, lstO (ts'.map Th.val) (e' + 1)) :: (tl ++ R))))) → (∀ p : Addr × Obj, p ∈ (a', lstO (th'.tops.map Th.val) e'') :: (tl3 ++ (I, oI) :: (D, lstO ((Th.topss (is.take i)).map Th.val) e1) :: (tl' ++ (f, lstO (vs ++ [Value.ref a]) (e + 1)) :: (u, lstO (ts'.map Th.val) (e' + 1)) :: (tl ++ R))) → p.1 < E) → cG) ?_ (fun ck => ck _ (by assumption) (by tb_rel) (by tb_rel) (by tb_rel) N4 l5)
        intro m4 F4 e6 e7 e8 N4 l5
        rw [← List.map_append, ← topss_snoc hth] at N4
        refine SqEnd.intro (nx := (E, lstO ((Th.topss (is.take (i + 1))).map Th.val) 0) :: (((a', lstO (th'.tops.map Th.val) e'') :: (tl3 ++ (D, lstO ((Th.topss (is.take i)).map Th.val) e1) :: tl')) ++ ((f, lstO (vs ++ [Value.ref a]) (e + 1)) :: (u, lstO (ts'.map Th.val) (e' + 1)) :: (tl ++ R)))) F4 (News.sub N4 ?_) ?_ (List.mem_cons_of_mem _ (List.mem_append_right _ (.tail _ (.tail _ (List.mem_append_right _ h4))))) ⟨E, _, _, e6, e7, e8, rfl, ?_, ?_, ?_⟩
        · array_get_dec
        · exact List.forall_mem_cons.mpr ⟨Nat.ne_of_gt (l5 (I, oI) (.tail _ (List.mem_append_right _ (.head _)))), all_app (List.forall_mem_cons.mpr ⟨Nat.ne_of_gt (hfr (I, oI) (.head _) _ (.head _)), all_app (fun p hp => Nat.ne_of_gt (hfr (I, oI) (.head _) p (.tail _ hp))) (List.forall_mem_cons.mpr ⟨hI2 _ (.head _), fun p hp => hI2 p (.tail _ (List.mem_append_left _ hp))⟩)⟩) (fun p hp => hI2 p (.tail _ (List.mem_append_right _ hp)))⟩
        · exact List.forall_mem_cons.mpr ⟨Nat.ne_of_lt (l5 _ (.head _)), all_app (fun p hp => Nat.ne_of_lt (l5 p (.tail _ (List.mem_append_left _ hp)))) (List.forall_mem_cons.mpr ⟨Nat.ne_of_lt (l5 _ (.tail _ (List.mem_append_right _ (.tail _ (.head _))))), fun p hp => Nat.ne_of_lt (l5 p (.tail _ (List.mem_append_right _ (.tail _ (.tail _ (List.mem_append_left _ hp))))))⟩)⟩
        · exact fun q hq => all_cons (hfr q (.tail _ (.tail _ (List.mem_append_right _ hq))) _ (.head _)) (all_led (fun p hp => hfr q (.tail _ (.tail _ (List.mem_append_right _ hq))) p (.tail _ hp)) (all_cons (hRD q hq) (hord' q hq)))
        · exact fun q hq => l5 q (.tail _ (List.mem_append_right _ (.tail _ (.tail _ (List.mem_append_right _ hq)))))
    · clear kN kF l4 l5 l6 e3 e4 e5
      intro m₁ nx h tk hmem hJ0
      revert hmem
      revert hJ0
      revert nx
      refine WiJ.elim ?_
      intro D e1 tl' e3 e4 e5 htD hord' hRD hmem F₁ N₁
      rw [List.length_map, List.take_length] at *
      have N₂ : News g' L' h ((u, lstO (ts'.map Th.val) (e' + 1)) :: (f, lstO (vs ++ [Value.ref a]) (e + 1)) :: (D, lstO ((Th.topss is).map Th.val) e1) :: (tl' ++ (tl ++ R))) := News.sub N₁ (by array_get_dec)
      have l1 : ∀ p ∈ tl', p.1 ≠ u := fun p hp => Nat.ne_of_gt (hord' (u, _) (.tail _ (.head _)) p hp)
      have l2 : u < D := hRD (u, _) (.tail _ (.head _))
      have hz4 : ((Th.topss is).map Th.val).length < 1000000 := by rw [List.length_map]; exact mil hop
      have hz5 : (ts'.map Th.val).length + ((Th.topss is).map Th.val).reverse.length < 1000000 := by simp only [List.length_reverse, List.length_map]; exact mil2 (wr hsz hlen hts1) hop
      have F₂ : Fr g' L' h m₁ := F₁
      clear N₁ F₁
      k_steps
      (rename News _ L' _ _ => kN)
      (rename Fr _ L' _ _ => kF)
      (rename _ ∧ _ ∧ _ ∧ AllLt _ (tl' ++ (tl ++ R)) => l3)
      rename_i E _ _ _ _ n3
      refine cps (fun cG => ∀ m2, News g' L' _ ((E, lstO ((Th.topss is).map Th.val).reverse 0) :: (u, lstO (ts'.map Th.val ++ ((Th.topss is).map Th.val).reverse) n3) :: (f, lstO (vs ++ [Value.ref a]) (e + 1)) :: (D, lstO ((Th.topss is).map Th.val) e1) :: (tl' ++ (tl ++ R))) → (u < E ∧ f < E ∧ D < E ∧ AllLt E (tl' ++ (tl ++ R))) → Fr g' L' _ m2 → m2 (Str.ofString "found") = some (.ref f) → m2 (Str.ofString "waiting") = some (.ref u) → cG) ?_ (fun ck => ck _ kN l3 kF (by tb_rel) (by tb_rel))
      intro m2 kN l3 kF e6 e7
      have l4 := l3.2.2.2.of
      have l5 := l3.1
      have l6 := l3.2.1
      rw [← List.map_reverse, ← List.map_append] at kN
      have hsz' : Th.szs (ts' ++ (Th.topss is).reverse) = Th.szs ts' + Th.szs is := by rw [szs_append, szs_reverse, htop]
      refine WhileStep.intro (n' := Th.szs (ts' ++ (Th.topss is).reverse)) (news₂ := (f, lstO (vs ++ [Value.ref a]) (e + 1)) :: (u, lstO ((ts' ++ (Th.topss is).reverse).map Th.val) n3) :: (((E, lstO ((Th.topss is).reverse.map Th.val) 0) :: (D, lstO ((Th.topss is).map Th.val) e1) :: (tl' ++ tl)) ++ R)) kF (News.sub kN ?_) ?_ ⟨f, _, _, u, ts' ++ (Th.topss is).reverse, _, _, e6, e7, rfl, rfl, ?_, ?_, ?_, hfu, ?_, hRf, hRu⟩
      · array_get_dec
      · rw [hsz', szs_append]; exact Nat.add_lt_add_left (Nat.lt_add_of_pos_left Nat.one_pos) _
      · rw [hsz', List.length_append, List.length_singleton]; exact wre hlen
      · intro t ht
        rcases List.mem_append.mp ht with ht | ht
        · exact hts t (List.mem_append_left _ ht)
        · exact hNT t (List.mem_reverse.mp ht)
      · exact List.forall_mem_cons.mpr ⟨⟨Nat.ne_of_gt l6, Nat.ne_of_gt l5⟩, List.forall_mem_cons.mpr ⟨⟨Nat.ne_of_gt (hRD (f, _) (.head _)), Nat.ne_of_gt l2⟩, all_app (fun p hp => ⟨Nat.ne_of_gt (hord' (f, _) (.head _) p hp), l1 p hp⟩) (fun p hp => ⟨htf p hp, htu p hp⟩)⟩⟩
      · exact fun q hq => List.forall_mem_cons.mpr ⟨l4 q (List.mem_append_right _ (List.mem_append_right _ hq)), List.forall_mem_cons.mpr ⟨hRD q (.tail _ (.tail _ (List.mem_append_right _ hq))), all_app (hord' q (.tail _ (.tail _ (List.mem_append_right _ hq)))) (hord q hq)⟩⟩

/-- a row: a seq node with its list -/
inductive RowIn (w : World) (R : Led) (t : Th) (is : List Th) : Prop
  | ex (a : _) (p : _) (d : _) (o : _) (l : _) (n : _) (n' : _) (h1 : t = .node .seq a p [.seq false l n is]) (h2 : (a, instObj 147 d) ∈ R) (h3 : (d, o) ∈ R) (h4 : NodeD w .seq p o) (h5 : (p, tupO [.ref l] n') ∈ R) (h6 : (l, lstO (is.map Th.val) n) ∈ R) (h7 : is.length < 1000)

theorem row_of (w : World) (R : Led) (b : Th) (is : List Th) (hb : RowIn w R b is) (many : Nat) (tk : Tok) :
    Ct w 339 [b.val, .int (many : Int) tk] 10 [] R (fun r M' tl => r = .bool (is.length == many) ∧ M' = [] ∧ tl = []) := by
  obtain ⟨a, p, d, o, l, n, n', rfl, h1, h2, ⟨t1, t2, t3, t4, t5, t6, rfl⟩, h4, h5, h6⟩ := hb
  show Ct w 339 [.ref a, .int (many : Int) tk] 10 [] R _
  have hz : (is.map Th.val).length < 1000000 := by rw [List.length_map]; exact Nat.lt_trans h6 (by decide)
  unfold Ct; k_fill; intro dp un gd A₀ base h₀ outer env L m s pp loose mean mg mb Q B F X N T hf hk hd hu hret
  simp only [List.nil_append] at N
  k_dflt (refine' code_def ?k1 ?k2 ?k3 ?k4 ?k5 ?kA ?kF ?kK ?k6 ?k7 ?k8 ?k9 ?kB ?_ ?c2 ?c3 ?c4 ?c5; (case kA => exact rfl); (case kF => assumption); (case kK => assumption); (case k1 => k_asm); (case k2 => k_asm); (case k3 => k_asm); (case k4 => k_asm); (case k5 => k_asm); (case k6 => k_is); (case k7 => k_is); (case k8 => ktr_room); (case k9 => first | exact BindsTo.of_eq rfl | exact binds_K (by k_in) rfl (by k_is) rfl rfl rfl); (case c5 => decide); (case kB => exact locs rfl); (case c2 => exact rfl); (case c3 => exact rfl); (case c4 => exact rfl); k_whole; intro g' L' h' FG' F' N' B' X' T'; (try dsimp only); (try k_fold); (refine frame_name F' ?_); clear F'; intro mm' F' hfr')
  k_steps
  refine hret _ [] [] _ _ (by assumption) (by assumption) (fun _ _ _ h => nomatch h) ⟨?_, rfl, rfl⟩
  rw [List.length_map]
  congr 1
  rw [Bool.eq_iff_iff]
  simp only [beq_iff_eq, Int.ofNat_inj]
theorem row_none (w : World) (R : Led) (many : Nat) (tk : Tok) :
    Ct w 339 [.none, .int (many : Int) tk] 10 [] R (fun r M' tl => r = .bool false ∧ M' = [] ∧ tl = []) := by
  unfold Ct; k_fill; intro dp un gd A₀ base h₀ outer env L m s pp loose mean mg mb Q B F X N T hf hk hd hu hret
  simp only [List.nil_append] at N
  k_dflt (refine' code_def ?k1 ?k2 ?k3 ?k4 ?k5 ?kA ?kF ?kK ?k6 ?k7 ?k8 ?k9 ?kB ?_ ?c2 ?c3 ?c4 ?c5; (case kA => exact rfl); (case kF => assumption); (case kK => assumption); (case k1 => k_asm); (case k2 => k_asm); (case k3 => k_asm); (case k4 => k_asm); (case k5 => k_asm); (case k6 => k_is); (case k7 => k_is); (case k8 => ktr_room); (case k9 => first | exact BindsTo.of_eq rfl | exact binds_K (by k_in) rfl (by k_is) rfl rfl rfl); (case c5 => decide); (case kB => exact locs rfl); (case c2 => exact rfl); (case c3 => exact rfl); (case c4 => exact rfl); k_whole; intro g' L' h' FG' F' N' B' X' T'; (try dsimp only); (try k_fold); (refine frame_name F' ?_); clear F'; intro mm' F' hfr')
  k_steps
  refine hret _ [] [] _ _ (by assumption) (by assumption) (fun _ _ _ h => nomatch h) ⟨rfl, rfl, rfl⟩
noncomputable def nmL (b : Bool) (t : Tok) : List Value := match b with | true => [.str sA t] | false => []
section
variable {prog : Program} {w : World} {A : Around} {E : Value → Shared → Prop} {s : Shared} {h₀ : Heap} {L : Addr} {Q : Value → Shared → Prop} {news : Led}
theorem in_nm {l : Addr} {b : Bool} {t tk : Tok} {n : Nat} (N : News h₀ L s.heap news) (hm : (l, lstO (nmL b t) n) ∈ news) (h : Q (.bool b) s) : wpAny (model prog w) A (compareOp .In (.str sA tk) (.ref l)) Q E s := by
  cases b
  · exact in_list_strs (ys := []) ⟨_, (N _ hm).1, rfl, n, rfl⟩ .nil h
  · exact in_list_strs (ys := [sA]) ⟨_, (N _ hm).1, rfl, n, rfl⟩ (.cons _ _ .nil) h
theorem notin_nm {l : Addr} {b : Bool} {t tk : Tok} {n : Nat} (N : News h₀ L s.heap news) (hm : (l, lstO (nmL b t) n) ∈ news) (h : Q (.bool (!b)) s) : wpAny (model prog w) A (compareOp .NotIn (.str sA tk) (.ref l)) Q E s := by
  cases b
  · exact notin_list_strs (ys := []) ⟨_, (N _ hm).1, rfl, n, rfl⟩ .nil h
  · exact notin_list_strs (ys := [sA]) ⟨_, (N _ hm).1, rfl, n, rfl⟩ (.cons _ _ .nil) h
end

local macro_rules | `(tactic| walk_at "compareOp NotIn str ref") => `(tactic| (k_here; (with_reducible show wpAny _ _ (compareOp CmpOp.NotIn (Value.str sA _) (Value.ref _)) _ _ _); k_dflt (refine notin_nm (by k_asm) (by k_mem) ?_); dsimp only [Bool.not_true, Bool.not_false]))
local macro_rules | `(tactic| walk_at "compareOp In str ref") => `(tactic| (k_here; (with_reducible show wpAny _ _ (compareOp CmpOp.In (Value.str sA _) (Value.ref _)) _ _ _); k_dflt (refine in_nm (by k_asm) (by k_mem) ?_)))
noncomputable abbrev knO (w : World) (S C : Addr) (t1 t2 : Tok) : Obj := dictOf [⟨PyData.keyHash w.params (Str.ofString "scopes"), .str (Str.ofString "scopes") t1, .ref S⟩, ⟨PyData.keyHash w.params (Str.ofString "closed"), .str (Str.ofString "closed") t2, .ref C⟩] 2
inductive KnD (w : World) (S C : Addr) (o : Obj) : Prop
  | ex (t1 : _) (t2 : _) (h1 : o = knO w S C t1 t2)

theorem knows_ok (w : World) (R : Led) (x dx S Nm C : Addr) (o : Obj) (b : Bool) (t tk : Tok) (n1 n2 n3 : Nat) (h1 : (x, instObj 233 dx) ∈ R) (h2 : (dx, o) ∈ R) (h3 : KnD w S C o) (h4 : (S, lstO [.ref Nm] n1) ∈ R)
    (h5 : (Nm, lstO (nmL b t) n2) ∈ R) (h6 : (C, lstO [.bool true] n3) ∈ R) : Ct w 218 [.ref x, .str sA tk] 10 [] R (fun r M' tl => r = .bool b ∧ M' = [] ∧ tl = []) := by
  obtain ⟨t1, t2, rfl⟩ := h3
  unfold Ct; k_fill; intro dp un gd A₀ base h₀ outer env L m s pp loose mean mg mb Q B F X N T hf hk hd hu hret
  simp only [List.nil_append] at N
  k_dflt (refine' code_def ?k1 ?k2 ?k3 ?k4 ?k5 ?kA ?kF ?kK ?k6 ?k7 ?k8 ?k9 ?kB ?_ ?c2 ?c3 ?c4 ?c5; (case kA => exact rfl); (case kF => assumption); (case kK => assumption); (case k1 => k_asm); (case k2 => k_asm); (case k3 => k_asm); (case k4 => k_asm); (case k5 => k_asm); (case k6 => k_is); (case k7 => k_is); (case k8 => ktr_room); (case k9 => first | exact BindsTo.of_eq rfl | exact binds_K (by k_in) rfl (by k_is) rfl rfl rfl); (case c5 => decide); (case kB => exact locs rfl); (case c2 => exact rfl); (case c3 => exact rfl); (case c4 => exact rfl); k_whole; intro g' L' h' FG' F' N' B' X' T'; (try dsimp only); (try k_fold); (refine frame_name F' ?_); clear F'; intro mm' F' hfr')
  k_steps
  (rename News _ L' _ _ => kN)
  (rename Fr _ L' _ _ => kF)
  unfold Stop
  simp only [Int.sub_self] at kF
  refine While_inv (fun _ m' nx => nx = R ∧ m' = _) (n₀ := 0) kF kN ⟨rfl, rfl⟩ ?_
  rintro n m₁ nx h₁ tk₁ F₁ N₁ ⟨rfl, rfl⟩
  cases b
  · k_steps
    exact hret _ [] [] _ _ (by assumption) (by assumption) (fun _ _ _ h => nomatch h) ⟨rfl, rfl, rfl⟩
  · k_steps
    exact hret _ [] [] _ _ (by assumption) (by assumption) (fun _ _ _ h => nomatch h) ⟨rfl, rfl, rfl⟩
section
variable {prog : Program} {w : World} {A : Around} {E : Value → Shared → Prop} {s : Shared} {h₀ : Heap} {L : Addr} {Q : Value → Shared → Prop} {news : Led}
theorem itemneg_N {value slice : PySem.Expr} {l : Addr} {vs : List Value} {n : Nat} {k : Int} {u : Tok} {x : Value} (N : News h₀ L s.heap news) (hm : (l, lstO vs n) ∈ news) (h0 : k < 0) (hfit : -(2 ^ 63) ≤ k) (h1 : -(vs.length : Int) ≤ k) (hx : vs[(k + vs.length).toNat]? = some x) (h : Q x s)
    (hs : subscripted slice false (.ref l) (.int k u) = operate [.ref l, .int k u] (getItem (.ref l) (.int k u))) (hg : ∀ r, letTemporaryGo value (.ref l) r = pure ()) :
    wpAny (model prog w) A (subscriptTail value slice (.ref l) (.int k u)) Q E s :=
  have hl : s.heap.IsList l vs.toArray := ⟨_, (N _ hm).1, rfl, n, rfl⟩
  subscriptTail_builtin hl.typeIs PySem.F.slot_list_getitem.lookup (wpAny_getItem_list_neg hl h0 (by simpa using h1) hfit (by simpa using hx) h) hs hg
end

local macro_rules | `(tactic| walk_at "subscriptTail") => `(tactic| (k_here; (with_reducible show wpAny _ _ (subscriptTail _ (PySem.Expr.UnaryOp _ _ _) (Value.ref _) (Value.int (-1) _)) _ _ _); k_dflt (refine itemneg_N (by k_asm) (by k_mem) (by decide) (by decide) (by first | decide | (simp; done)) (by first | assumption | exact rfl) ?_ (by with_unfolding_all rfl) (by intro _; with_unfolding_all rfl))))
/-- a contract as Ct, where what is new is only known to be another object -/
noncomputable def Cn (w : World) (f : Addr) (args : List Value) (need : Nat) (M R : Led) (Post : Value → Led → Led → Prop) : Prop :=
  ∀ (dp un : Nat) (gd : Option (List Code)) (A₀ : Around) (base h₀ : Heap) (outer : List Env) (env : Env) (L : Addr) (m : PySem.Str → Option Value) (s : Shared)
    (p : Program) (loose : List PySem.Str) (mean : ExcName → Option Value) (mg mb : PySem.Str → Option Value) (Q : Result → Shared → Prop),
    Below A₀ base outer h₀ → Fr h₀ L s.heap m → (hd.heap_39 w.params).In h₀ → News h₀ L s.heap (M ++ R) → Top p loose mean mg mb h₀ →
    env.frame = some L → env.scope.kind = .function → dp + need < recursionLimit → un + 8 * need < cLine →
    (∀ r M' tl h' tk', Fr h₀ L h' m → News h₀ L h' (M' ++ (tl ++ R)) → (∀ q ∈ M ++ R, ∀ p ∈ tl, q.1 ≠ p.1) → Post r M' tl →
      Q (.ok (.ret r)) { s with heap := h', toks := tk' }) →
    codeAny (model PySem.Challenge.rw_pq0485_01.row.prog w) (Ar dp un gd env outer) (.call (.ref f) ⟨args, []⟩) Q s
theorem out1 {h₀ : Heap} {L : Addr} {m : PySem.Str → Option Value} {R : Led} {W : Led → Prop} {G : Value → Heap → Nat → Prop} {Nm : Addr} {kb : Bool}
    (k : ∀ t' n' h' tk', Fr h₀ L h' m → News h₀ L h' ((Nm, lstO (nmL kb t') n') :: R) → G .none h' tk') :
    ∀ r M' tl h' tk', Fr h₀ L h' m → News h₀ L h' (M' ++ (tl ++ R)) → W tl → (r = .none ∧ (∃ t' n', M' = [(Nm, lstO (nmL kb t') n')]) ∧ tl = []) → G r h' tk' := by
  rintro _ _ _ h' tk' F N _ ⟨rfl, ⟨t', n', rfl⟩, rfl⟩
  exact k t' n' h' tk' F N
theorem Ct.ne {w : World} {f : Addr} {args : List Value} {c : Nat} {M R : Led} {P : Value → Led → Led → Prop} (h : Ct w f args c M R P) : Cn w f args c M R P := by
  unfold Ct at h
  unfold Cn
  intro dp un gd A₀ base h₀ outer env L m s pp loose mean mg mb Q B F X N T hf hk hd hu hret
  exact h dp un gd A₀ base h₀ outer env L m s pp loose mean mg mb Q B F X N T hf hk hd hu fun r M' tl h' tk' F' N' hfr hP => hret r M' tl h' tk' F' N' (fun q hq p hp => Nat.ne_of_lt (hfr q hq p hp)) hP
theorem Cn.more {w : World} {f : Addr} {args : List Value} {c c' : Nat} {M R : Led} {P : Value → Led → Led → Prop} (h : Cn w f args c M R P) (hc : c ≤ c') : Cn w f args c' M R P := by
  unfold Cn at h ⊢
  intro dp un gd A₀ base h₀ outer env L m s pp loose mean mg mb Q B F X N T hf hk hd hu hret
  exact h dp un gd A₀ base h₀ outer env L m s pp loose mean mg mb Q B F X N T hf hk (le_dp hd hc) (le_mul8 hu hc) hret

theorem declare_ok (w : World) (R : Led) (x dx S Nm C : Addr) (o : Obj) (b : Bool) (t tv : Tok) (n1 n2 n3 : Nat) (h1 : (x, instObj 233 dx) ∈ R) (h2 : (dx, o) ∈ R) (h3 : KnD w S C o) (h4 : (S, lstO [.ref Nm] n1) ∈ R)
    (h6 : (C, lstO [.bool true] n3) ∈ R) (hR : ∀ p ∈ R, p.1 ≠ Nm) : Ct w 225 [.ref x, .str sA tv] 20 [(Nm, lstO (nmL b t) n2)] R (fun r M' tl => r = .none ∧ (∃ t' n', M' = [(Nm, lstO (nmL true t') n')]) ∧ tl = []) := by
  have h3' := h3
  obtain ⟨t1, t2, rfl⟩ := h3
  unfold Ct; k_fill; intro dp un gd A₀ base h₀ outer env L m s pp loose mean mg mb Q B F X N T hf hk hd hu hret
  simp only [List.cons_append, List.nil_append] at N
  k_dflt (refine' code_def ?k1 ?k2 ?k3 ?k4 ?k5 ?kA ?kF ?kK ?k6 ?k7 ?k8 ?k9 ?kB ?_ ?c2 ?c3 ?c4 ?c5; (case kA => exact rfl); (case kF => assumption); (case kK => assumption); (case k1 => k_asm); (case k2 => k_asm); (case k3 => k_asm); (case k4 => k_asm); (case k5 => k_asm); (case k6 => k_is); (case k7 => k_is); (case k8 => ktr_room); (case k9 => first | exact BindsTo.of_eq rfl | exact binds_K (by k_in) rfl (by k_is) rfl rfl rfl); (case c5 => decide); (case kB => exact locs rfl); (case c2 => exact rfl); (case c3 => exact rfl); (case c4 => exact rfl); k_whole; intro g' L' h' FG' F' N' B' X' T'; (try dsimp only); (try k_fold); (refine frame_name F' ?_); clear F'; intro mm' F' hfr')
  k_steps
  have key := knows_ok w ((Nm, lstO (nmL b t) n2) :: R) x dx S Nm C _ b t tv n1 n2 n3 (.tail _ h1) (.tail _ h2) h3' (.tail _ h4) (.head _) (.tail _ h6)
  refine key _ _ _ _ _ _ _ _ _ _ _ _ _ _ _ _ _ (by assumption) (by assumption) (by assumption) (by assumption) (by assumption) rfl rfl ?_ ?_ ?_
  · first | exact room1 hd (by decide) | (show dp + 1 + _ < _; omega)
  · first | exact room2 hu (by decide) | (show un + 3 + _ < _; omega)
  · refine out0 ?_
    intro h'' tk' F₂ N₂
    dsimp only
    have hz : (nmL b t).length < 1000000 := by cases b <;> simp [nmL]
    cases b
    · k_steps
      exact hret _ [_] [] _ _ (by assumption) (by assumption) (fun _ _ _ h => nomatch h) ⟨rfl, ⟨tv, _, rfl⟩, rfl⟩
    · k_steps
      refine hret _ [_] [] _ _ (by assumption) (by assumption) (fun _ _ _ h => nomatch h) ⟨rfl, ⟨t, _, rfl⟩, rfl⟩

local macro_rules | `(tactic| walk_at "call type:list") => `(tactic| (walk_at "m ty"; k_dflt (refine kup_listOf (by k_asm) (by k_asm) (by k_mem) (by exact rfl) ?_ (by assumption)); intro _ _ _ _ _; walk_at "m lt"))
theorem comp_one {h₀ h' : Heap} {L I C D : Addr} {m : PySem.Str → Option Value} {s₁ : Shared} {oI oC oD : Obj} {S : Led → Prop} {rest : Value → Led → Prop} {y : Value} {tk : Nat} {e : Addr × Obj} {l : Led} {X : Prop}
    (F : Fr h₀ L h' m) (N : News h₀ L h' (e :: (I, oI) :: (C, oC) :: (D, oD) :: l)) (l1 : I < e.1 ∧ C < e.1 ∧ D < e.1 ∧ X) (off : LCg.Off3 I C D l) (hS : S (e :: l)) (r : rest y (e :: l)) :
    LCg.CompEnd h₀ L m s₁ I oI C oC D oD S rest y { s₁ with heap := h', toks := tk } := by
  refine LCg.CompEnd.intro F N (e :: l) (fun p hp => ?_) ⟨⟨Nat.ne_of_gt l1.1, Nat.ne_of_gt l1.2.1, Nat.ne_of_gt l1.2.2.1⟩, off⟩ hS r
  simp only [List.mem_cons] at hp ⊢
  simp only [or_left_comm, or_comm, or_assoc] at hp ⊢
  exact hp

theorem off1_mem {D : Addr} : ∀ {l : Led}, LCg.Off1 D l → ∀ p ∈ l, p.1 ≠ D
  | [], _, _, h => nomatch h
  | _ :: _, x, p, h => by
    rcases List.mem_cons.mp h with rfl | h
    · exact x.1
    · exact off1_mem x.2 p h
theorem copy_fin {h₀ h : Heap} {L : Addr} {e1 e2 e3 e4 e5 e6 e7 e8 e9 : Addr × Obj} {R : Led} (N : News h₀ L h (e1 :: e2 :: e3 :: e4 :: e5 :: e6 :: e7 :: e8 :: e9 :: R)) : News h₀ L h ([] ++ ([e3, e1, e2, e4, e5, e6, e7, e8, e9] ++ R)) :=
  News.sub N fun p hp => by
    simp only [List.nil_append, List.cons_append, List.mem_cons] at hp ⊢
    simp only [or_left_comm, or_comm, or_assoc] at hp ⊢
    exact hp
theorem all9 {P : Addr × Obj → Prop} {e1 e2 e3 e4 e5 e6 e7 e8 e9 : Addr × Obj} (h1 : P e1) (h2 : P e2) (h3 : P e3) (h4 : P e4) (h5 : P e5) (h6 : P e6) (h7 : P e7) (h8 : P e8) (h9 : P e9) : ∀ p ∈ [e1, e2, e3, e4, e5, e6, e7, e8, e9], P p := by
  simp only [List.forall_mem_cons, List.not_mem_nil, false_implies, implies_true, and_true]
  exact ⟨h1, h2, h3, h4, h5, h6, h7, h8, h9⟩
theorem all8 {P : Addr × Obj → Prop} {e1 e2 e3 e4 e5 e6 e7 e8 : Addr × Obj} (h1 : P e1) (h2 : P e2) (h3 : P e3) (h4 : P e4) (h5 : P e5) (h6 : P e6) (h7 : P e7) (h8 : P e8) : ∀ p ∈ [e1, e2, e3, e4, e5, e6, e7, e8], P p := by
  simp only [List.forall_mem_cons, List.not_mem_nil, false_implies, implies_true, and_true]
  exact ⟨h1, h2, h3, h4, h5, h6, h7, h8⟩
inductive CopyPost (w : World) (b : Bool) (r : Value) (M' tl : Led) : Prop
  | ex (h0 : M' = []) (x' dx' S' N' C' : Addr) (o' : Obj) (t' : Tok) (n1 n2 n3 : Nat) (tl' : Led) (h1 : r = .ref x') (h2 : tl = (N', lstO (nmL b t') n2) :: tl') (h3 : (x', instObj 233 dx') ∈ tl') (h4 : (dx', o') ∈ tl') (h5 : (S', lstO [.ref N'] n1) ∈ tl') (h6 : (C', lstO [.bool true] n3) ∈ tl') (h7 : KnD w S' C' o') (h8 : ∀ p ∈ tl', p.1 ≠ N')
theorem copy_ok (w : World) (R : Led) (x dx S Nm C : Addr) (o : Obj) (b : Bool) (t : Tok) (n1 n2 n3 : Nat) (h1 : (x, instObj 233 dx) ∈ R) (h2 : (dx, o) ∈ R) (h3 : KnD w S C o) (h4 : (S, lstO [.ref Nm] n1) ∈ R)
    (h5 : (Nm, lstO (nmL b t) n2) ∈ R) (h6 : (C, lstO [.bool true] n3) ∈ R) : Cn w 230 [.ref x] 20 [] R (CopyPost w b) := by
  obtain ⟨t1, t2, rfl⟩ := h3
  have hz : (nmL b t).toArray.toList.length ≤ sizeLine := by rw [sizeLine_eq]; cases b <;> simp [nmL]
  unfold Cn; k_fill; intro dp un gd A₀ base h₀ outer env L m s pp loose mean mg mb Q B F X N T hf hk hd hu hret
  simp only [List.nil_append] at N
  k_dflt (refine' code_def ?k1 ?k2 ?k3 ?k4 ?k5 ?kA ?kF ?kK ?k6 ?k7 ?k8 ?k9 ?kB ?_ ?c2 ?c3 ?c4 ?c5; (case kA => exact rfl); (case kF => assumption); (case kK => assumption); (case k1 => k_asm); (case k2 => k_asm); (case k3 => k_asm); (case k4 => k_asm); (case k5 => k_asm); (case k6 => k_is); (case k7 => k_is); (case k8 => ktr_room); (case k9 => first | exact BindsTo.of_eq rfl | exact binds_K (by k_in) rfl (by k_is) rfl rfl rfl); (case c5 => decide); (case kB => exact locs rfl); (case c2 => exact rfl); (case c3 => exact rfl); (case c4 => exact rfl); k_whole; intro g' L' h' FG' F' N' B' X' T'; (try dsimp only); (try k_fold); (refine frame_name F' ?_); clear F'; intro mm' F' hfr')
  k_steps
  (rename _ ∧ _ ∧ _ ∧ _ ∧ _ ∧ _ ∧ LCg.Off3 _ _ _ R => kO)
  (rename News _ _ _ (_ :: (_, _) :: (_, _) :: (_, LCg.lst []) :: _) => kN)
  (rename _ < _ ∧ _ ∧ _ ∧ _ ∧ _ ∧ _ ∧ _ ∧ _ ∧ _ ∧ AllLt _ R => kL)
  refine comp_one (by assumption) kN kL kO (Or.inr ⟨_, by k_mem, rfl, _, rfl⟩) ?_
  k_steps
  (rename News h₀ L _ (_ :: _ :: _ :: _ :: _ :: _ :: _ :: _ :: _ :: R) => kN)
  (rename (_ : Nat) < _ => k3)
  (rename ∀ p ∈ R, p.1 < _ => k1)
  (rename _ ∧ AllLt _ R => k2)
  (rename _ ∧ _ ∧ _ ∧ AllLt _ R => k4)
  (rename _ ∧ _ ∧ _ ∧ _ ∧ AllLt _ R => k5)
  (rename _ ∧ _ ∧ _ ∧ _ ∧ _ ∧ AllLt _ R => k6)
  (rename _ ∧ _ ∧ _ ∧ _ ∧ _ ∧ _ ∧ _ ∧ _ ∧ AllLt _ R => k8)
  (rename _ ∧ _ ∧ _ ∧ _ ∧ _ ∧ _ ∧ _ ∧ LCg.Off1 _ R => o1)
  refine hret _ [] [_, _, _, _, _, _, _, _, _] _ _ (by assumption) (copy_fin kN) ?_ ⟨rfl, _, _, _, _, _, _, t, _, _, _, _, rfl, rfl, by k_mem, by k_mem, by k_mem, by k_mem, ⟨_, _, rfl⟩, ?_⟩
  · intro q hq
    refine all9 ?_ ?_ ?_ ?_ ?_ ?_ ?_ ?_ ?_ <;> first
      | exact Nat.ne_of_lt (k1 q hq)
      | exact Nat.ne_of_lt (k2.2.of q hq)
      | exact Nat.ne_of_lt (Nat.lt_trans (k2.2.of q hq) k3)
      | exact Nat.ne_of_lt (k4.2.2.2.of q hq)
      | exact Nat.ne_of_lt (k5.2.2.2.2.of q hq)
      | exact Nat.ne_of_lt (k6.2.2.2.2.2.of q hq)
      | exact Nat.ne_of_lt (kL.2.2.2.2.2.2.2.2.2.of q hq)
      | exact Nat.ne_of_lt (k8.2.2.2.2.2.2.2.2.of q hq)
      | exact off1_mem o1.2.2.2.2.2.2.2 q hq
  · refine all8 ?_ ?_ ?_ ?_ ?_ ?_ ?_ ?_ <;> first
      | exact Nat.ne_of_lt kL.1
      | exact Nat.ne_of_lt kL.2.1
      | exact Nat.ne_of_lt kL.2.2.1
      | exact Nat.ne_of_lt kL.2.2.2.1
      | exact Nat.ne_of_lt kL.2.2.2.2.1
      | exact Nat.ne_of_lt kL.2.2.2.2.2.1
      | exact Nat.ne_of_lt kL.2.2.2.2.2.2.1
      | exact Nat.ne_of_lt kL.2.2.2.2.2.2.2.1
      | exact Nat.ne_of_lt kL.2.2.2.2.2.2.2.2.1
      | exact Nat.ne_of_gt k3
      | k_ne
theorem copy_out {h₀ : Heap} {L : Addr} {m : PySem.Str → Option Value} {R : Led} {W : Led → Prop} {G : Value → Heap → Nat → Prop} {w : World} {b : Bool}
    (k : ∀ x' dx' S' N' C' o' t' n1 n2 n3 tl' h' tk', (x', instObj 233 dx') ∈ tl' → (dx', o') ∈ tl' → (S', lstO [.ref N'] n1) ∈ tl' → (C', lstO [.bool true] n3) ∈ tl' → KnD w S' C' o' → (∀ p ∈ tl', p.1 ≠ N') → Fr h₀ L h' m → News h₀ L h' ((N', lstO (nmL b t') n2) :: (tl' ++ R)) → W ((N', lstO (nmL b t') n2) :: tl') → G (.ref x') h' tk') :
    ∀ r M' tl h' tk', Fr h₀ L h' m → News h₀ L h' (M' ++ (tl ++ R)) → W tl → CopyPost w b r M' tl → G r h' tk' := by
  rintro _ _ _ h' tk' F N hw ⟨rfl, x', dx', S', N', C', o', t', n1, n2, n3, tl', rfl, rfl, h1, h2, h3, h4, h5, h6⟩
  exact k x' dx' S' N' C' o' t' n1 n2 n3 tl' h' tk' h1 h2 h3 h4 h5 h6 F N hw

noncomputable abbrev passO (w : World) (kn kp : Addr) (pl : Int) (lt : Addr) (right : Bool) (t1 t2 t3 t4 t5 t6 : Tok) : Obj := dictOf [⟨PyData.keyHash w.params (Str.ofString "known"), .str (Str.ofString "known") t1, .ref kn⟩, ⟨PyData.keyHash w.params (Str.ofString "kept"), .str (Str.ofString "kept") t2, .ref kp⟩,
    ⟨PyData.keyHash w.params (Str.ofString "place"), .str (Str.ofString "place") t3, .int pl t6⟩, ⟨PyData.keyHash w.params (Str.ofString "late"), .str (Str.ofString "late") t4, .ref lt⟩, ⟨PyData.keyHash w.params (Str.ofString "right"), .str (Str.ofString "right") t5, .bool right⟩] 5
inductive PassD (w : World) (kn kp : Addr) (pl : Int) (lt : Addr) (right : Bool) (o : Obj) : Prop
  | ex (t1 : _) (t2 : _) (t3 : _) (t4 : _) (t5 : _) (t6 : _) (h1 : o = passO w kn kp pl lt right t1 t2 t3 t4 t5 t6)
theorem PassD.elim {w : World} {kn kp : Addr} {pl : Int} {lt : Addr} {right : Bool} {P : Obj → Prop} (c : ∀ t1 t2 t3 t4 t5 t6, P (passO w kn kp pl lt right t1 t2 t3 t4 t5 t6)) : ∀ o, PassD w kn kp pl lt right o → P o := by
  rintro _ ⟨t1, t2, t3, t4, t5, t6, rfl⟩
  exact c t1 t2 t3 t4 t5 t6

inductive MK where
  | i (p : Nat)
  | t (p : Nat) (b : Bool)
deriving DecidableEq

noncomputable def MK.d : MK → PyData
  | .i p => .int p
  | .t p b => .tuple [.int p, .tuple (match b with | true => [.str sA] | false => [])]
noncomputable def MK.w : MK → WData
  | .i p => .int p
  | .t p b => .tuple [.int p, .tuple (match b with | true => [.str sA] | false => [])]

noncomputable def MkAt (h : Heap) : MK → Value → Prop
  | .i p, v => ∃ t, v = .int p t
  | .t p b, v => ∃ a c t t', v = .ref a ∧ h.get? a = some (tupO [.int p t, .ref c] 0) ∧ h.get? c = some (tupO (nmL b t') 0)

theorem int_beq (p q : Nat) : ((p : Int) == (q : Int)) = decide (p = q) := by
  rw [Bool.eq_iff_iff]; simp only [beq_iff_eq, decide_eq_true_eq]; exact Int.ofNat_inj
theorem mk_eqv (x y : MK) : PyData.eqv x.d y.d = decide (x = y) := by
  cases x with
  | i p => cases y with
    | i q => simp [MK.d, PyData.eqv, int_beq]
    | t q c => simp [MK.d, PyData.eqv]
  | t p b => cases y with
    | i q => simp [MK.d, PyData.eqv]
    | t q c => cases b <;> cases c <;> simp [MK.d, PyData.eqv, PyData.eqvAll, int_beq]

theorem mkAt_reads {h : Heap} {k : MK} {v : Value} (x : MkAt h k v) : ∃ as, Reads h v k.d as := by
  cases k with
  | i p => obtain ⟨t, rfl⟩ := x; exact ⟨_, .int _ _⟩
  | t p b =>
    obtain ⟨a, c, t, t', rfl, h1, h2⟩ := x
    cases b
    · exact ⟨_, .tuple h1 rfl rfl (.cons (.int _ _) (.cons (.tuple h2 rfl rfl .nil) .nil))⟩
    · exact ⟨_, .tuple h1 rfl rfl (.cons (.int _ _) (.cons (.tuple h2 rfl rfl (.cons (.str _ _) .nil)) .nil))⟩
theorem mk_canLay (k : MK) : PyData.canLay0 k.d = true := by
  cases k with
  | i p => rfl
  | t p b => cases b <;> simp [MK.d, PyData.canLay0, PyData.canLayAll0] <;> kernel_rfl
theorem mkAt_well {P : Params} {h : Heap} {k : MK} {v : Value} (x : MkAt h k v) : Well P h v k.w := by
  cases k with
  | i p => obtain ⟨t, rfl⟩ := x; exact .int _ _
  | t p b =>
    obtain ⟨a, c, t, t', rfl, h1, h2⟩ := x
    refine .tuple h1 (.cons (.int _ _) (.cons (.tuple h2 ?_) .nil))
    cases b
    · exact .nil
    · exact .cons (.str _ _) .nil
theorem mkAt_inj {h : Heap} {x y : MK} {v : Value} (hx : MkAt h x v) (hy : MkAt h y v) : x = y := by
  cases x with
  | i p => obtain ⟨t, rfl⟩ := hx; cases y with
    | i q => obtain ⟨u, e⟩ := hy; injection e with e1 e2; rw [Int.ofNat.inj e1]
    | t q c => obtain ⟨_, _, _, _, e, _⟩ := hy; cases e
  | t p b => obtain ⟨a, c, t, t', rfl, h1, h2⟩ := hx; cases y with
    | i q => obtain ⟨u, e⟩ := hy; cases e
    | t q b' =>
      obtain ⟨a', c', u, u', e, h3, h4⟩ := hy
      cases e
      rw [h1] at h3
      simp only [Option.some.injEq, Obj.mk.injEq, Data.seq.injEq, List.toArray_inj, List.cons.injEq, Value.int.injEq, Value.ref.injEq] at h3
      obtain ⟨e1, e2⟩ : (p : Int) = q ∧ c = c' := by simp_all
      subst e2
      rw [h2] at h4
      have e3 : b = b' := by cases b <;> cases b' <;> simp [nmL] at h4 <;> rfl
      rw [Int.ofNat.inj e1, e3]

section
variable {prog : Program} {w : World} {A : Around} {E : Value → Shared → Prop} {s : Shared}

theorem mk_hash {k : MK} {v : Value} {Q : Int → Shared → Prop} (hu : A.units + 3 < cLine) (x : MkAt s.heap k v) (h : ∀ tk, Q (hashW w.params k.w) { s with toks := tk }) : wpAny (model prog w) A (pyHash v) Q E s := by
  refine pyHash_laid k.w v A s Q ?_ (mkAt_well x) ?_ h
  · cases k with
    | i p => rfl
    | t p b => cases b <;> rfl
  · cases k with
    | i p => simp [MK.w, WData.depth]; omega
    | t p b => cases b <;> simp [MK.w, WData.depth, WData.depthAll] <;> omega
theorem mk_eq {x y : MK} {u v : Value} {Q : Bool → Shared → Prop} (hu : A.units + 3 < cLine) (hx : MkAt s.heap x u) (hy : MkAt s.heap y v) (h : Q (decide (x = y)) s) : wpAny (model prog w) A (eqBool u v) Q E s := by
  obtain ⟨as, ra⟩ := mkAt_reads hx
  obtain ⟨bs, rb⟩ := mkAt_reads hy
  refine PySem.SeqAt.eqBoolOverData prog w A E s u v x.d y.d as bs Q ra rb (mk_canLay x) (mk_canLay y) ?_ (by rw [mk_eqv]; exact h)
  have : x.d.depth ≤ 2 := by
    cases x with
    | i p => simp [MK.d, PyData.depth]
    | t p b => cases b <;> simp [MK.d, PyData.depth, PyData.depthAll]
  omega
theorem quiet_tup {n : Nat} {a : Addr} {vs : List Value} {k : Nat} {Q : Bool → Shared → Prop} (ho : s.heap.get? a = some (tupO vs k)) (hi : ∀ v ∈ vs, ∀ Q : Bool → Shared → Prop, Q true s → wpAny (model prog w) A (eqIsQuiet n v) Q E s) (h : Q true s) :
    wpAny (model prog w) A (eqIsQuiet (n + 1) (.ref a)) Q E s := by
  have hT : s.TypeIs (.ref a) "tuple" := ⟨_, ho, rfl⟩
  unfold eqIsQuiet
  refine wpAny_bind (wpAny_specialOf hT PySem.F.slot_tuple_eq.lookup ?_)
  show wpAny _ _ (isInstance (.ref a) (.type "tuple") >>= _) _ _ s
  refine wpAny_bind (wpAny_isInstance hT isSubtype_tuple_tuple ?_)
  simp only [Bool.not_true, Bool.false_eq_true, if_false]
  refine wpAny_bind (wpAny_seqItems ho rfl ?_)
  refine wpAny_bind ?_
  show wpAny _ _ (forIn vs.toArray _ _) _ _ s
  rw [← Array.forIn_toList]
  refine wpAny_forIn_list _ (fun rest r s' => r.1 = none ∧ s' = s ∧ ∀ v ∈ rest, v ∈ vs) _ ?_ ?_ _ _ ⟨rfl, rfl, fun _ h => h⟩
  · rintro v rest r s' ⟨hr, rfl, hall⟩
    refine wpAny_bind (hi v (hall v (.head _)) _ ?_)
    simp only [Bool.not_true, Bool.false_eq_true, if_false]
    exact wpAny_pure ⟨rfl, rfl, fun u hu' => hall u (.tail _ hu')⟩
  · rintro ⟨r1, r2⟩ s' ⟨hr, rfl, _⟩
    simp only at hr
    subst hr
    exact wpAny_pure h
theorem mk_quiet {k : MK} {v : Value} {Q : Bool → Shared → Prop} (x : MkAt s.heap k v) (h : Q true s) : wpAny (model prog w) A (eqIsQuiet 8 v) Q E s := by
  cases k with
  | i p => obtain ⟨t, rfl⟩ := x; rw [eqIsQuiet_byValue _ rfl]; exact wpAny_pure h
  | t p b =>
    obtain ⟨a, c, t, t', rfl, h1, h2⟩ := x
    refine quiet_tup (n := 7) h1 (fun v hv Q h => ?_) h
    simp only [List.mem_cons, List.not_mem_nil, or_false] at hv
    rcases hv with rfl | rfl
    · rw [eqIsQuiet_byValue _ rfl]; exact wpAny_pure h
    · refine quiet_tup (n := 6) h2 (fun v hv Q h => ?_) h
      have hv' : carriedByValue v = true := by
        cases b
        · cases hv
        · rw [List.mem_singleton.mp hv]; rfl
      rw [eqIsQuiet_byValue _ hv']; exact wpAny_pure h
theorem mk_tells {k : MK} {v : Value} {stored : List Value} {Q : Bool → Shared → Prop} (x : MkAt s.heap k v) (hst : ∀ u ∈ stored, ∃ k', MkAt s.heap k' u) (h : Q false s) : wpAny (model prog w) A (tableMayTell v stored) Q E s := by
  unfold tableMayTell
  split
  · exact wpAny_pure h
  · refine wpAny_bind (mk_quiet x ?_)
    simp only [Bool.not_true, Bool.false_eq_true, if_false]
    refine wpAny_bind ?_
    refine wpAny_forIn_list _ (fun rest r s' => s' = s ∧ r = (none, ()) ∧ ∀ v ∈ rest, ∃ k', MkAt s.heap k' v) _ ?_ ?_ _ _ ⟨rfl, rfl, hst⟩
    · rintro u rest r s' ⟨rfl, rfl, hr⟩
      obtain ⟨k', hb⟩ := hr u (.head _)
      refine wpAny_bind (mk_quiet hb ?_)
      simp only [Bool.not_true, Bool.false_eq_true, if_false]
      exact wpAny_pure ⟨rfl, rfl, fun v hv => hr v (.tail _ hv)⟩
    · rintro r s' ⟨rfl, rfl, _⟩
      exact wpAny_pure h
end

noncomputable abbrev MX := MK × Value × Value
noncomputable def mxE (w : World) (x : MX) : DictEntry := ⟨hashW w.params x.1.w, x.2.1, x.2.2⟩

section
variable {prog : Program} {w : World} {A : Around} {E : Value → Shared → Prop} {s : Shared}

theorem mx_at {es : Array DictEntry} {xs : List MX} (he : es.toList = xs.map (mxE w)) (j : Nat) : es[j]? = (xs[j]?).map (mxE w) := by
  rw [← Array.getElem?_toList, he, List.getElem?_map]
theorem mx_size {es : Array DictEntry} {xs : List MX} (he : es.toList = xs.map (mxE w)) : es.size = xs.length := by
  rw [← Array.length_toList, he, List.length_map]
/-- no other place holds the key -/
theorem mx_once {xs : List MX} (hn : (xs.map (·.1)).Nodup) {i j : Nat} {k : MK} {p q : Value × Value} (hi : xs[i]? = some (k, p)) (hj : xs[j]? = some (k, q)) : i = j := by
  have hi' : (xs.map (·.1))[i]? = some k := by rw [List.getElem?_map, hi]; rfl
  have hj' : (xs.map (·.1))[j]? = some k := by rw [List.getElem?_map, hj]; rfl
  exact (List.getElem?_inj (List.getElem?_eq_some_iff.mp hi').1 hn).mp (hi'.trans hj'.symm)

/-- where the search stands: what it has met below place i -/
noncomputable def Met (xs : List MX) (k : MK) (i : Nat) (hit : Option Nat) : Prop := (hit = none ∧ ∀ (j : Nat) (p : Value × Value), j < i → xs[j]? ≠ some (k, p)) ∨ ∃ (j : Nat) (p : Value × Value), hit = some j ∧ j < i ∧ xs[j]? = some (k, p)

theorem tells_join {α : Type} {c : Bool} {f : Bool → Sem α} {x : Sem Bool} {Q : α → Shared → Prop} (ht : ∀ Q' : Bool → Shared → Prop, Q' false s → wpAny (model prog w) A x Q' E s) (h : wpAny (model prog w) A (f false) Q E s) : wpAny (model prog w) A (if c = true then (pure false >>= f) else (x >>= f)) Q E s := by
  by_cases hc : c = true
  · rw [if_pos hc]; exact wpAny_bind (wpAny_pure h)
  · rw [if_neg hc]; exact wpAny_bind (ht _ h)
theorem tells_if {c : Bool} {x : Sem Bool} {Q : Bool → Shared → Prop} (ht : ∀ Q' : Bool → Shared → Prop, Q' false s → wpAny (model prog w) A x Q' E s) (h : Q false s) : wpAny (model prog w) A (if c = true then pure false else x) Q E s := by
  by_cases hc : c = true
  · rw [if_pos hc]; exact wpAny_pure h
  · rw [if_neg hc]; exact ht _ h
noncomputable abbrev hitsOf (w : World) (es : Array DictEntry) (k : MK) (i : Nat) : List Nat := (List.range' i (es.size - i)).filter (fun i => (es[i]?.map (·.hash)) == some (hashW w.params k.w))
theorem hash_of {es : Array DictEntry} {xs : List MX} {k : MK} (he : es.toList = xs.map (mxE w)) (j : Nat) (p : Value × Value) (hj : xs[j]? = some (k, p)) : ((es[j]?.map (·.hash)) == some (hashW w.params k.w)) = true := by
  rw [mx_at he j, hj]; simp [mxE]
theorem met_at {es : Array DictEntry} {xs : List MX} {k : MK} {i x : Nat} {hit : Option Nat} (he : es.toList = xs.map (mxE w)) (hix : i ≤ x) (hskip : ∀ j, i ≤ j → j < x → ¬ ((es[j]?.map (·.hash)) == some (hashW w.params k.w)) = true) (hH : Met xs k i hit) : Met xs k x hit :=
  hH.elim (fun h => .inl ⟨h.1, fun j p hjx hj => (Nat.lt_or_ge j i).elim (fun hl => h.2 j p hl hj) fun hl => hskip j hl hjx (hash_of he j p hj)⟩)
    fun ⟨j, p, h1, hji, hj⟩ => .inr ⟨j, p, h1, Nat.lt_of_lt_of_le hji hix, hj⟩
theorem met_next {xs : List MX} {k k' : MK} {x : Nat} {hit : Option Nat} {v z : Value} (hkv : xs[x]? = some (k', v, z)) (hne : k' ≠ k) (hH : Met xs k x hit) : Met xs k (x + 1) hit :=
  hH.elim (fun h => .inl ⟨h.1, fun j p hjx hj => (Nat.lt_or_ge j x).elim (fun hl => h.2 j p hl hj) fun hl => hne (congrArg Prod.fst (Option.some.inj ((Nat.le_antisymm (Nat.le_of_lt_succ hjx) hl ▸ hkv).symm.trans hj)))⟩)
    fun ⟨j, p, h1, hji, hj⟩ => .inr ⟨j, p, h1, Nat.lt_succ_of_lt hji, hj⟩
theorem met_none {xs : List MX} {k : MK} {x : Nat} {hit : Option Nat} {v z : Value} (hn : (xs.map (·.1)).Nodup) (hkv : xs[x]? = some (k, v, z)) (hH : Met xs k x hit) : hit = none :=
  hH.elim (fun h => h.1) fun ⟨_, _, _, hjx, hj⟩ => absurd (mx_once hn hj hkv) (Nat.ne_of_lt hjx)
/-- one place more -/
theorem seek_step {es : Array DictEntry} {xs : List MX} {k : MK} {i x : Nat} {rest : List Nat} {hit : Option Nat} {h : Heap} {G : Prop} (he : es.toList = xs.map (mxE w)) (his : ∀ x ∈ xs, MkAt h x.1 x.2.1) (hn : (xs.map (·.1)).Nodup) (hr : x :: rest = hitsOf w es k i) (hH : Met xs k i hit)
    (g : ∀ k' v' z', es[x]? = some (mxE w (k', v', z')) → xs[x]? = some (k', v', z') → MkAt h k' v' → (hashW w.params k'.w == hashW w.params k.w) = true → rest = hitsOf w es k (x + 1) → (k' ≠ k → Met xs k (x + 1) hit) → (k' = k → hit = none) → G) : G := by
  obtain ⟨hix, hxn, hpx, hskip, hrest⟩ := filter_range'_cons _ _ _ _ _ hr.symm
  have hsz := mx_size he
  have hle : i ≤ es.size := Nat.le_of_lt (Nat.lt_of_sub_pos (Nat.pos_of_lt_add_right (Nat.lt_of_le_of_lt hix hxn)))
  rw [Nat.add_sub_of_le hle] at hxn
  have hlt : x < es.size := hxn
  have hrest' : rest = hitsOf w es k (x + 1) := by rw [hrest, Nat.add_sub_of_le hle]
  obtain ⟨⟨k', v', z'⟩, hkv⟩ : ∃ y, xs[x]? = some y := ⟨xs[x]'(by rw [← hsz]; exact hlt), List.getElem?_eq_getElem _⟩
  have hex : es[x]? = some (mxE w (k', v', z')) := by rw [mx_at he x, hkv]; rfl
  have hHx := met_at he hix (fun j a b => by simpa using hskip j a b) hH
  refine g k' v' z' hex hkv (his _ (List.mem_of_getElem? hkv)) ?_ hrest' (fun hne => met_next hkv hne hHx) fun e => met_none hn (e ▸ hkv) hHx
  rw [hex] at hpx
  simpa [mxE] using hpx
theorem seek_last {es : Array DictEntry} {xs : List MX} {k : MK} {i : Nat} {hit : Option Nat} {G : Option Nat → Prop} (he : es.toList = xs.map (mxE w)) (hr : [] = hitsOf w es k i) (hH : Met xs k i hit)
    (hnone : (∀ (j : Nat) (p : Value × Value), xs[j]? ≠ some (k, p)) → G none) (hsome : ∀ (j : Nat) (p : Value × Value), xs[j]? = some (k, p) → G (some j)) : G hit := by
  rcases hH with ⟨rfl, hno⟩ | ⟨j, p, rfl, _, hj⟩
  · refine hnone fun j p hj => (Nat.lt_or_ge j i).elim (fun h => hno j p h hj) fun h => ?_
    have hjl : j < es.size := by
      rw [mx_size he]
      exact (List.getElem?_eq_some_iff.mp hj).1
    exact List.filter_eq_nil_iff.mp hr.symm j (List.mem_range'_1.mpr ⟨h, Nat.lt_of_lt_of_le hjl (Nat.sub_le_iff_le_add'.mp (Nat.le_refl _))⟩) (hash_of he j p hj)
  · exact hsome j p hj
theorem seek_first {es : Array DictEntry} {k : MK} : placesWithHash es.size (fun i => es[i]?.map (·.hash)) (hashW w.params k.w) = hitsOf w es k 0 := by
  rw [placesWithHash, List.range_eq_range', hitsOf, Nat.sub_zero]
/-- how the search goes on -/
inductive SeekP (w : World) (es : Array DictEntry) (xs : List MX) (k : MK) (s : Shared) (rest : List Nat) (b : Option (Option Nat) × Unit) (s' : Shared) : Prop
  | ex (h1 : s' = s) (i : _) (h2 : b = (none, ())) (h3 : rest = hitsOf w es k i) (h4 : Met xs k i none)
inductive SeekJ (w : World) (es : Array DictEntry) (xs : List MX) (k : MK) (s : Shared) (rest : List Nat) (b : Option (Option Nat) × Option Nat) (s' : Shared) : Prop
  | ex (h1 : s' = s) (i : _) (hit : _) (h2 : b = (none, hit)) (h3 : rest = hitsOf w es k i) (h4 : Met xs k i hit)
theorem SeekP.elim {es : Array DictEntry} {xs : List MX} {k : MK} {rest : List Nat} {P : Option (Option Nat) × Unit → Shared → Prop} (g : ∀ i, rest = hitsOf w es k i → Met xs k i none → P (none, ()) s) : ∀ b s', SeekP w es xs k s rest b s' → P b s' := by
  rintro b s' ⟨rfl, i, rfl, h1, h2⟩
  exact g i h1 h2
theorem SeekJ.elim {es : Array DictEntry} {xs : List MX} {k : MK} {rest : List Nat} {P : Option (Option Nat) × Option Nat → Shared → Prop} (g : ∀ i hit, rest = hitsOf w es k i → Met xs k i hit → P (none, hit) s) : ∀ b s', SeekJ w es xs k s rest b s' → P b s' := by
  rintro b s' ⟨rfl, i, hit, rfl, h1, h2⟩
  exact g i hit h1 h2
theorem SeekP.at {es : Array DictEntry} {xs : List MX} {k : MK} {rest : List Nat} {i : Nat} (h : rest = hitsOf w es k i) (h2 : Met xs k i none) : SeekP w es xs k s rest (none, ()) s := ⟨rfl, i, rfl, h, h2⟩
theorem SeekJ.at {es : Array DictEntry} {xs : List MX} {k : MK} {rest : List Nat} {i : Nat} {hit : Option Nat} (h : rest = hitsOf w es k i) (h2 : Met xs k i hit) : SeekJ w es xs k s rest (none, hit) s := ⟨rfl, i, hit, rfl, h, h2⟩
theorem met_zero {xs : List MX} {k : MK} : Met xs k 0 none := .inl ⟨rfl, fun _ _ h => absurd h (Nat.not_lt_zero _)⟩
/-- the plain walk -/
theorem mk_plain {d : Addr} {key : Value} {k : MK} {o : Obj} {es : Array DictEntry} {ep : Nat} {xs : List MX} {Q : Option Nat → Shared → Prop} (hu : A.units + 3 < cLine) (hk : MkAt s.heap k key) (ho : s.heap.get? d = some o) (hd : o.data = .dict es ep)
    (he : es.toList = xs.map (mxE w)) (his : ∀ x ∈ xs, MkAt s.heap x.1 x.2.1) (hn : (xs.map (·.1)).Nodup)
    (hnone : (∀ (j : Nat) (p : Value × Value), xs[j]? ≠ some (k, p)) → Q none s) (hsome : ∀ (j : Nat) (p : Value × Value), xs[j]? = some (k, p) → Q (some j) s) :
    wpAny (model prog w) A (dictWalkPlain d key (hashW w.params k.w) es (placesWithHash es.size (fun i => es[i]?.map (·.hash)) (hashW w.params k.w))) Q E s := by
  unfold dictWalkPlain
  refine wpAny_bind ?_
  refine wpAny_forIn_list _ (SeekP w es xs k s) _ ?_ ?_ _ _ (SeekP.at seek_first met_zero)
  · intro x rest
    refine SeekP.elim ?_
    intro i hr hH
    refine seek_step he his hn hr hH ?_
    intro k' v' z' hex hkv hib hhs hrest hno _
    rw [hex]
    dsimp only [mxE]
    rw [if_pos hhs]
    refine wpAny_bind (wpAny_dictEpoch ho hd (wpAny_bind (mk_eq hu hib hk (wpAny_bind (wpAny_dictEpoch ho hd ?_)))))
    rw [if_neg (by simp)]
    by_cases hkk : k' = k
    · rw [decide_eq_true hkk]
      refine wpAny_bind (wpAny_rule ?_)
      exact wpAny_pure (wpAny_pure (hsome x _ (hkk ▸ hkv)))
    · rw [decide_eq_false hkk]
      simp only [Bool.false_eq_true, if_false]
      refine wpAny_bind (wpAny_rule ?_)
      exact wpAny_pure (SeekP.at hrest (hno hkk))
  · refine SeekP.elim ?_
    intro i hr hH
    exact wpAny_pure (seek_last (G := fun h => Q h s) he hr hH hnone hsome)
theorem mk_find {d : Addr} {key : Value} {k : MK} {o : Obj} {es : Array DictEntry} {ep : Nat} {xs : List MX} {Q : Option Nat → Shared → Prop} (hu : A.units + 3 < cLine) (hk : MkAt s.heap k key) (ho : s.heap.get? d = some o) (hd : o.data = .dict es ep)
    (he : es.toList = xs.map (mxE w)) (his : ∀ x ∈ xs, MkAt s.heap x.1 x.2.1) (hn : (xs.map (·.1)).Nodup)
    (hnone : (∀ (j : Nat) (p : Value × Value), xs[j]? ≠ some (k, p)) → Q none s) (hsome : ∀ (j : Nat) (p : Value × Value), xs[j]? = some (k, p) → Q (some j) s) : wpAny (model prog w) A (dictFind d key (hashW w.params k.w)) Q E s := by
  have hmem : ∀ e ∈ es, ∃ x ∈ xs, e = mxE w x := fun e hin => by
    have : e ∈ xs.map (mxE w) := he ▸ Array.mem_toList_iff.mpr hin
    obtain ⟨x, hx, rfl⟩ := List.mem_map.mp this
    exact ⟨x, hx, rfl⟩
  have hst : ∀ v ∈ (placesWithHash es.size (fun i => es[i]?.map (·.hash)) (hashW w.params k.w)).filterMap (fun i => es[i]?.map (·.key)), ∃ k', MkAt s.heap k' v := by
    intro v hv
    obtain ⟨i, _, hi⟩ := List.mem_filterMap.mp hv
    cases hei : es[i]? with
    | none => rw [hei] at hi; cases hi
    | some e =>
      rw [hei] at hi
      obtain rfl : e.key = v := by simpa using hi
      obtain ⟨x, hx, rfl⟩ := hmem e (Array.mem_of_getElem? hei)
      exact ⟨x.1, his x hx⟩
  have hany : ¬ (es.any fun e => e.key == key && e.hash != hashW w.params k.w) = true := by
    rw [← Array.any_toList, List.any_eq_true]
    rintro ⟨e, hin, hc⟩
    obtain ⟨x, hx, rfl⟩ := hmem e (Array.mem_toList_iff.mp hin)
    simp only [mxE, Bool.and_eq_true, beq_iff_eq, bne_iff_ne, ne_eq] at hc
    obtain ⟨h1, h2⟩ := hc
    have h3 := his x hx
    rw [h1] at h3
    exact h2 (by rw [mkAt_inj h3 hk])
  cases k with
  | i p =>
    obtain ⟨tk, rfl⟩ := id hk
    unfold dictFind
    try with_reducible refine wpAny_holding ?_
    refine wpAny_bind (wpAny_dictEntries ho hd ?_)
    dsimp only
    by_cases hall : ((Value.int (p : Int) tk :: ((placesWithHash es.size (fun i => es[i]?.map (·.hash)) (hashW w.params (MK.i p).w)).filterMap (fun i => es[i]?.map (·.key)))).all carriedByValue) = true
    · rw [if_pos hall]
      exact mk_plain hu hk ho hd he his hn hnone hsome
    rw [if_neg hall]
    first | refine tells_join (fun Q' h => mk_tells hk hst h) ?_ | refine wpAny_bind (tells_if (fun Q' h => mk_tells hk hst h) ?_)
    rw [if_neg (by simp)]
    refine wpAny_bind ?_
    refine wpAny_forIn_list _ (SeekJ w es xs (MK.i p) s) _ ?_ ?_ _ _ (SeekJ.at seek_first met_zero)
    · intro x rest
      refine SeekJ.elim ?_
      intro i hit hr hH
      refine seek_step he his hn hr hH ?_
      intro k' v' z' hex hkv hib hhs hrest hno hnil
      rw [hex]
      dsimp only [mxE]
      rw [if_pos hhs]
      refine wpAny_bind (wpAny_dictEpoch ho hd (wpAny_bind (mk_eq hu hib hk (wpAny_bind (wpAny_dictEpoch ho hd ?_)))))
      rw [if_neg (by simp)]
      by_cases hkk : k' = .i p
      · rw [decide_eq_true hkk]
        rw [hnil hkk]
        first | rw [if_pos rfl] | skip
        simp only [Option.isSome_none, Bool.false_eq_true, if_false]
        first | refine wpAny_bind (wpAny_pure ?_) | skip
        refine wpAny_bind (wpAny_rule ?_)
        have hkv := hkk ▸ hkv
        split
        · exact wpAny_pure (wpAny_pure (hsome x _ hkv))
        · exact wpAny_pure (SeekJ.at hrest (.inr ⟨x, _, rfl, Nat.lt_succ_self x, hkv⟩))
      · rw [decide_eq_false hkk]
        simp only [Bool.false_eq_true, if_false]
        refine wpAny_bind (wpAny_rule ?_)
        first | rw [if_neg (by simp)] | skip
        first
          | exact wpAny_pure (SeekJ.at hrest (hno hkk))
          | exact wpAny_bind (wpAny_pure (wpAny_pure (SeekJ.at hrest (hno hkk))))
    · refine SeekJ.elim ?_
      intro i hit hr hH
      exact wpAny_pure (seek_last (G := fun h => Q h s) he hr hH hnone hsome)
  | t p bb =>
    obtain ⟨a, c, t, t', rfl, g1, g2⟩ := id hk
    unfold dictFind
    try with_reducible refine wpAny_holding ?_
    refine wpAny_bind (wpAny_dictEntries ho hd ?_)
    dsimp only
    rw [if_neg (show ¬ ((Value.ref a :: ((placesWithHash es.size (fun i => es[i]?.map (·.hash)) (hashW w.params (MK.t p bb).w)).filterMap (fun i => es[i]?.map (·.key)))).all carriedByValue) = true by simp [carriedByValue])]
    rw [if_neg hany]
    first | refine tells_join (fun Q' h => mk_tells hk hst h) ?_ | refine wpAny_bind (tells_if (fun Q' h => mk_tells hk hst h) ?_)
    rw [if_neg (by simp)]
    refine wpAny_bind ?_
    refine wpAny_forIn_list _ (SeekJ w es xs (MK.t p bb) s) _ ?_ ?_ _ _ (SeekJ.at seek_first met_zero)
    · intro x rest
      refine SeekJ.elim ?_
      intro i hit hr hH
      refine seek_step he his hn hr hH ?_
      intro k' v' z' hex hkv hib hhs hrest hno hnil
      rw [hex]
      dsimp only [mxE]
      rw [if_pos hhs]
      refine wpAny_bind (wpAny_dictEpoch ho hd (wpAny_bind (mk_eq hu hib hk (wpAny_bind (wpAny_dictEpoch ho hd ?_)))))
      rw [if_neg (by simp)]
      by_cases hkk : k' = .t p bb
      · rw [decide_eq_true hkk]
        rw [hnil hkk]
        first | rw [if_pos rfl] | skip
        simp only [Option.isSome_none, Bool.false_eq_true, if_false]
        first | refine wpAny_bind (wpAny_pure ?_) | skip
        refine wpAny_bind (wpAny_rule ?_)
        have hkv := hkk ▸ hkv
        split
        · exact wpAny_pure (wpAny_pure (hsome x _ hkv))
        · exact wpAny_pure (SeekJ.at hrest (.inr ⟨x, _, rfl, Nat.lt_succ_self x, hkv⟩))
      · rw [decide_eq_false hkk]
        simp only [Bool.false_eq_true, if_false]
        refine wpAny_bind (wpAny_rule ?_)
        first | rw [if_neg (by simp)] | skip
        first
          | exact wpAny_pure (SeekJ.at hrest (hno hkk))
          | exact wpAny_bind (wpAny_pure (wpAny_pure (SeekJ.at hrest (hno hkk))))
    · refine SeekJ.elim ?_
      intro i hit hr hH
      exact wpAny_pure (seek_last (G := fun h => Q h s) he hr hH hnone hsome)
end

/-- a key of the kept dict, as the ledger has it -/
noncomputable def MkIn (R : Led) : MK → Value → Prop
  | .i p, v => ∃ t, v = .int p t
  | .t p b, v => ∃ a c t t', v = .ref a ∧ (a, tupO [.int p t, .ref c] 0) ∈ R ∧ (c, tupO (nmL b t') 0) ∈ R
theorem MkIn.mono {R R' : Led} (hs : ∀ p ∈ R, p ∈ R') {k : MK} {v : Value} (h : MkIn R k v) : MkIn R' k v := by
  cases k with
  | i p => exact h
  | t p b => obtain ⟨a, c, t, t', e, h1, h2⟩ := h; exact ⟨a, c, t, t', e, hs _ h1, hs _ h2⟩
theorem MkIn.at {h₀ h : Heap} {L : Addr} {R : Led} (N : News h₀ L h R) {k : MK} {v : Value} (x : MkIn R k v) : MkAt h k v := by
  cases k with
  | i p => exact x
  | t p b => obtain ⟨a, c, t, t', e, h1, h2⟩ := x; exact ⟨a, c, t, t', e, (N _ h1).1, (N _ h2).1⟩

/-- the kept dict's object -/
noncomputable abbrev keptO (w : World) (xs : List MX) (n : Nat) : Obj := dictOf (xs.map (mxE w)) n
theorem keptO_push {w : World} {xs : List MX} {n : Nat} {k : MK} {key v : Value} : Obj.mapDictKeys (·.push ⟨hashW w.params k.w, key, v⟩) (keptO w xs n) = keptO w (xs ++ [(k, key, v)]) (n + 1) := by
  rw [keptO, keptO, List.map_append]
  exact congrArg (fun es => ({ cls := .type "dict", data := .dict es (n + 1) } : Obj)) (List.push_toArray _ _)
theorem keptO_mod {w : World} {xs ys : List MX} {n : Nat} {f : Array DictEntry → Array DictEntry} (e : f (xs.map (mxE w)).toArray = (ys.map (mxE w)).toArray) : Obj.mapDict f (keptO w xs n) = keptO w ys n :=
  congrArg (fun es => ({ cls := .type "dict", data := .dict es n } : Obj)) e

section
variable {prog : Program} {w : World} {A : Around} {E : Value → Shared → Prop} {s : Shared} {d : Addr} {key : Value} {k : MK} {xs : List MX} {n : Nat}
structure KeptAt (w : World) (h : Heap) (d : Addr) (xs : List MX) (n : Nat) : Prop where
  get : h.get? d = some (keptO w xs n)
  keys : ∀ x ∈ xs, MkAt h x.1 x.2.1
  nodup : (xs.map (·.1)).Nodup
theorem KeptAt.typeIs (K : KeptAt w s.heap d xs n) : s.TypeIs (.ref d) "dict" := ⟨_, K.get, rfl⟩

theorem kept_none {k : MK} (h : ∀ (j : Nat) (p : Value × Value), xs[j]? ≠ some (k, p)) : k ∉ xs.map (·.1) := by
  intro hm
  obtain ⟨x, hx, rfl⟩ := List.mem_map.mp hm
  obtain ⟨j, hj⟩ := List.mem_iff_getElem?.mp hx
  exact h j x.2 hj

theorem kept_get {Q : Option Value → Shared → Prop} (hu : A.units + 3 < cLine) (hk : MkAt s.heap k key) (K : KeptAt w s.heap d xs n)
    (h0 : k ∉ xs.map (·.1) → ∀ tk, Q none { s with toks := tk }) (h1 : ∀ kv v, (k, kv, v) ∈ xs → ∀ tk, Q (some v) { s with toks := tk }) : wpAny (model prog w) A (dictGet d key) Q E s := by
  unfold dictGet
  try with_reducible refine wpAny_holding ?_
  refine wpAny_bind (mk_hash hu hk fun tk => wpAny_bind (mk_find (s := { s with toks := tk }) hu hk K.get rfl (by simp) K.keys K.nodup ?_ ?_))
  · intro hno
    exact wpAny_pure (h0 (kept_none hno) tk)
  · intro j p hj
    refine wpAny_bind (wpAny_dictEntries (s := { s with toks := tk }) K.get rfl ?_)
    have e : (List.map (mxE w) xs).toArray[j]? = some (mxE w (k, p)) := by simp [hj]
    rw [e]
    exact wpAny_pure (h1 p.1 p.2 (List.mem_of_getElem? hj) tk)

theorem kept_contains {Q : Bool → Shared → Prop} (hu : A.units + 4 < cLine) (hk : MkAt s.heap k key) (K : KeptAt w s.heap d xs n) (lo : (d == sysModules) = false)
    (h : ∀ tk, Q (decide (k ∈ xs.map (·.1))) { s with toks := tk }) : wpAny (model prog w) A (contains (.ref d) key) Q E s := by
  unfold contains
  try with_reducible refine wpAny_holding ?_
  refine wpAny_bind (wpAny_specialOf K.typeIs slot_dict_contains.lookup ?_)
  show wpAny _ _ (if (some (Value.builtin "dict.__contains__") == some Value.none) = true then _ else _) _ E s
  rw [if_neg (by rw [beq_builtin_none]; exact Bool.false_ne_true)]
  refine wpAny_bind (wpAny_callSpecialUnlessNone?_slot (name := Str.ofString "__contains__") K.typeIs slot_dict_contains
    (wpAny_call_entry slot_dict_contains K.typeIs entry_dict_contains ?_ (args_dict_contains _ _)))
  show wpAny _ _ (dictGet d key >>= _) _ _ s
  refine wpAny_bind (kept_get (by show A.units + 1 + 3 < _; omega) hk K ?_ ?_)
  · intro hn tk
    have h' := h tk
    rw [decide_eq_false hn] at h'
    show wpAny _ _ (Builtin.Dict.pendingKey? d key >>= _) _ _ _
    exact wpAny_bind (wpAny_pendingKey_other lo (wpAny_pure ⟨_, rfl, wpAny_truthy_bool h'⟩))
  · intro kv v hm tk
    have h' := h tk
    rw [decide_eq_true (List.mem_map.mpr ⟨_, hm, rfl⟩)] at h'
    show wpAny _ _ (ret (.bool true)) _ _ _
    exact wpAny_pure ⟨_, rfl, wpAny_truthy_bool h'⟩

theorem kept_item {Q : Value → Shared → Prop} (hu : A.units + 4 < cLine) (hk : MkAt s.heap k key) (K : KeptAt w s.heap d xs n) (hm : k ∈ xs.map (·.1))
    (h : ∀ kv v, (k, kv, v) ∈ xs → ∀ tk, Q v { s with toks := tk }) : wpAny (model prog w) A (getItem (.ref d) key) Q E s := by
  unfold getItem
  try with_reducible refine wpAny_holding ?_
  refine wpAny_bind (wpAny_sequenceKey K.typeIs (by decide) ?_)
  refine wpAny_bind (wpAny_callSpecial?_slot (name := Str.ofString "__getitem__") K.typeIs slot_dict_getitem
    (wpAny_call_entry slot_dict_getitem K.typeIs entry_dict_getitem ?_ (args_dict_getitem _ _)))
  show wpAny _ _ (dictGet d key >>= _) _ _ s
  refine wpAny_bind (kept_get (by show A.units + 1 + 3 < _; omega) hk K ?_ ?_)
  · intro hn; exact absurd hm hn
  · intro kv v hv tk
    exact wpAny_pure ⟨v, rfl, wpAny_pure (h kv v hv tk)⟩

theorem kept_store {v : Value} {Q : Unit → Shared → Prop} (hu : A.units + 4 < cLine) (hk : MkAt s.heap k key) (K : KeptAt w s.heap d xs n) (hn : k ∉ xs.map (·.1)) (hz : xs.length < 1000000)
    (h : ∀ tk, Q () { s with heap := s.heap.update d (Obj.mapDictKeys (·.push ⟨hashW w.params k.w, key, v⟩)), toks := tk }) : wpAny (model prog w) A (setItem (.ref d) key v) Q E s := by
  unfold setItem
  try with_reducible refine wpAny_holding ?_
  refine wpAny_bind (wpAny_sequenceKey K.typeIs (by decide) ?_)
  refine wpAny_bind (wpAny_callSpecial?_slot (name := Str.ofString "__setitem__") K.typeIs slot_dict_setitem
    (wpAny_call_entry slot_dict_setitem K.typeIs entry_dict_setitem ?_ (args_dict_setitem _ _ _)))
  show wpAny _ _ (Builtin.Dict.notOrdered "__setitem__" ⟨[.ref d, key, v], []⟩ >>= _) _ _ s
  refine wpAny_bind (wpAny_notOrdered_dict K.typeIs ?_)
  show wpAny _ _ (dictSet d key v >>= _) _ _ s
  refine wpAny_bind ?_
  unfold dictSet
  try with_reducible refine wpAny_holding ?_
  refine wpAny_bind (mk_hash (by show A.units + 1 + 3 < _; omega) hk fun tk => ?_)
  unfold dictSetHashed
  try with_reducible refine wpAny_holding ?_
  refine wpAny_bind (mk_find (s := { s with toks := tk }) (by show A.units + 1 + 3 < _; omega) hk K.get rfl (by simp) K.keys K.nodup ?_ ?_)
  · intro _
    refine wpAny_bind (wpAny_rule (wpAny_updateDictKeys (hz := by rw [sizeLine_eq]; simp; omega) (s := { s with toks := tk }) K.get rfl ?_))
    exact wpAny_pure ⟨.none, rfl, wpAny_pure (h tk)⟩
  · intro j p hj
    exact absurd (List.mem_map.mpr ⟨_, List.mem_of_getElem? hj, rfl⟩) hn

variable {h₀ : Heap} {L : Addr} {m : PySem.Str → Option Value} {news : Led}
theorem keptAt_of (N : News h₀ L s.heap news) (hm : (d, keptO w xs n) ∈ news) (hx : ∀ x ∈ xs, MkIn news x.1 x.2.1) (hn : (xs.map (·.1)).Nodup) : KeptAt w s.heap d xs n :=
  ⟨(N _ hm).1, fun x h => (hx x h).at N, hn⟩
theorem kept_notinN {Q : Value → Shared → Prop} (hu : A.units + 4 < cLine) (N : News h₀ L s.heap news) (hm : (d, keptO w xs n) ∈ news) (hx : ∀ x ∈ xs, MkIn news x.1 x.2.1) (hn : (xs.map (·.1)).Nodup) (lo : (d == sysModules) = false) (hk : MkIn news k key)
    (h : ∀ tk, Q (.bool (!decide (k ∈ xs.map (·.1)))) { s with toks := tk }) : wpAny (model prog w) A (compareOp .NotIn key (.ref d)) Q E s := by
  show wpAny _ _ (do return .bool (!(← contains (.ref d) key))) Q E s
  exact wpAny_bind (kept_contains hu (hk.at N) (keptAt_of N hm hx hn) lo fun tk => wpAny_pure (h tk))
theorem kept_itemN {value slice : PySem.Expr} {Q : Value → Shared → Prop} (hu : A.units + 4 < cLine) (N : News h₀ L s.heap news) (hm : (d, keptO w xs n) ∈ news) (hx : ∀ x ∈ xs, MkIn news x.1 x.2.1) (hn : (xs.map (·.1)).Nodup) (hk : MkIn news k key) (hin : k ∈ xs.map (·.1))
    (h : ∀ kv v, (k, kv, v) ∈ xs → ∀ tk, Q v { s with toks := tk })
    (hs : subscripted slice false (.ref d) key = operate [.ref d, key] (getItem (.ref d) key)) (hg : ∀ r, letTemporaryGo value (.ref d) r = pure ()) : wpAny (model prog w) A (subscriptTail value slice (.ref d) key) Q E s :=
  have K := keptAt_of (s := s) N hm hx hn
  subscriptTail_builtin K.typeIs slot_dict_getitem.lookup (kept_item hu (hk.at N) K hin h) hs hg
theorem kept_storeN {v : Value} {g : Obj → Led} {Q : Unit → Shared → Prop} (hu : A.units + 4 < cLine) (F : Fr h₀ L s.heap m) (N : News h₀ L s.heap news) (U : UpdF d (keptO w xs n) news g) (hx : ∀ x ∈ xs, MkIn news x.1 x.2.1) (hn : (xs.map (·.1)).Nodup) (hk : MkIn news k key) (hin : k ∉ xs.map (·.1)) (hz : xs.length < 1000000)
    (h : ∀ h' tk, Fr h₀ L h' m → News h₀ L h' (g (keptO w (xs ++ [(k, key, v)]) (n + 1))) → Q () { s with heap := h', toks := tk }) : wpAny (model prog w) A (setItem (.ref d) key v) Q E s := by
  obtain ⟨pre, post, rfl, hg, a, b⟩ := U.split
  have hm := N (d, keptO w xs n) (List.mem_append_right _ (.head _))
  refine kept_store hu (hk.at N) (keptAt_of N (List.mem_append_right _ (.head _)) hx hn) hin hz fun tk => h _ tk (F.change (Heap.SameBut.update ..) hm.2.1 hm.2.2) ?_
  rw [hg]
  refine N.setIn a b (Heap.SameBut.update ..) ?_
  rw [Heap.get?_update_self _ hm.1 rfl]
  exact congrArg some keptO_push
end

noncomputable def Th.isNone : Th → Bool
  | .lit .none => true
  | _ => false
theorem isNone_none : (Th.lit .none).isNone = true := rfl
theorem isNone_bool {x : Bool} : (Th.lit (.bool x)).isNone = false := rfl
noncomputable def Th.rowLen : Th → Option Nat
  | .node .seq _ _ [.seq _ _ _ is] => some is.length
  | _ => none
/-- which part a test node runs behind its test: the second (false), the third (true), or none -/
noncomputable def bodySel (k : Kd) (y c : Th) : Option Bool :=
  match k = .ifk && !c.isNone with
  | true => if y.rowLen = some 0 ∧ c.rowLen = some 1 then some true else none
  | false => if y.rowLen = some 1 then some false else none

structure Rn where
  right : Bool
  late : List Addr
  known : Bool

noncomputable def Rn.join (a : Rn) (b : Bool → Rn) : Rn := ⟨a.right && (b a.known).right, a.late ++ (b a.known).late, (b a.known).known⟩
/-- the early order, or the turned one -/
noncomputable def Rn.pick (a : Addr) (opens : Nat) (b : Bool) (e u : Rn) : Rn :=
  match !e.right && !(b && decide (0 < opens)) with
  | true => match u.right with
    | true => ⟨true, a :: u.late, u.known⟩
    | false => e
  | false => e

mutual
noncomputable def Th.run : Th → Bool → Rn
  | .lit _, b => ⟨true, [], b⟩
  | .str _, b => ⟨true, [], b⟩
  | .seq _ _ _ is, b => Th.runs is b
  | .node .lvar _ _ _, b => ⟨b, [], b⟩
  | .node .vcall _ _ _, b => ⟨!b, [], b⟩
  | .node .tloc _ _ _, _ => ⟨true, [], true⟩
  | .node .int _ _ is, b => Th.runs is b
  | .node .asg _ _ is, b => Th.runs is b
  | .node .seq _ _ is, b => Th.runs is b
  | .node .ifk a _ is, b => Th.runt .ifk a (Th.openss is) is b
  | .node .whk a _ is, b => Th.runt .whk a (Th.openss is) is b
noncomputable def Th.runs : List Th → Bool → Rn
  | [], b => ⟨true, [], b⟩
  | i :: is, b => Rn.join (Th.run i b) (Th.runs is)
noncomputable def Th.runt : Kd → Addr → Nat → List Th → Bool → Rn
  | k, a, op, t :: r, b => Th.rund k a op (Th.run t) t r b
  | _, _, _, [], b => ⟨true, [], b⟩
noncomputable def Th.rund : Kd → Addr → Nat → (Bool → Rn) → Th → List Th → Bool → Rn
  | k, a, op, tr, t, y :: r, b => Th.rune k a op tr (Th.run y) t y r b
  | _, _, _, tr, _, [], b => tr b
noncomputable def Th.rune : Kd → Addr → Nat → (Bool → Rn) → (Bool → Rn) → Th → Th → List Th → Bool → Rn
  | k, a, op, tr, yr, _, y, c :: _, b =>
    match bodySel k y c with
    | none => Rn.join (tr b) fun b => Rn.join (yr b) fun b => Rn.join (Th.run c b) fun b => ⟨true, [], b⟩
    | some false => Rn.pick a op b (Rn.join (tr b) yr) (Rn.join (yr b) tr)
    | some true => Rn.pick a op b (Rn.join (tr b) (Th.run c)) (Rn.join (Th.run c b) tr)
  | _, _, _, tr, _, _, _, [], b => tr b
end
theorem run_lvar {a p : Addr} {is : List Th} (b : Bool) : (Th.node .lvar a p is).run b = ⟨b, [], b⟩ := rfl
theorem run_vcall {a p : Addr} {is : List Th} (b : Bool) : (Th.node .vcall a p is).run b = ⟨!b, [], b⟩ := rfl
theorem run_tloc {a p : Addr} {is : List Th} (b : Bool) : (Th.node .tloc a p is).run b = ⟨true, [], true⟩ := rfl
theorem runs_nil (b : Bool) : Th.runs [] b = ⟨true, [], b⟩ := rfl
theorem run_plain {k : Kd} {a p : Addr} {is : List Th} (hk : k = .int ∨ k = .asg ∨ k = .seq) (b : Bool) : (Th.node k a p is).run b = Th.runs is b := by
  rcases hk with rfl | rfl | rfl <;> rfl
theorem run_test {k : Kd} {a p : Addr} {t y c : Th} (hk : k = .ifk ∨ k = .whk) (b : Bool) : (Th.node k a p [t, y, c]).run b =
    match bodySel k y c with
    | none => Th.runs [t, y, c] b
    | some false => Rn.pick a (Th.openss [t, y, c]) b (Rn.join (t.run b) y.run) (Rn.join (y.run b) t.run)
    | some true => Rn.pick a (Th.openss [t, y, c]) b (Rn.join (t.run b) c.run) (Rn.join (c.run b) t.run) := by
  rcases hk with rfl | rfl <;> rfl
theorem join_assoc (a : Rn) (f g : Bool → Rn) : (a.join f).join g = a.join fun b => (f b).join g := by
  simp only [Rn.join, Bool.and_assoc, List.append_assoc]
theorem join_nil (a : Rn) : a.join (fun b => ⟨true, [], b⟩) = a := by
  simp [Rn.join]
theorem runs_snoc {th : Th} : ∀ {is : List Th} {i : Nat} (b : Bool), is[i]? = some th → Th.runs (is.take (i + 1)) b = (Th.runs (is.take i) b).join th.run
  | [], _, _, h => by cases h
  | j :: is, 0, b, h => by
    cases h
    show (th.run b).join (Th.runs []) = (Rn.mk true [] b).join th.run
    simp [Rn.join, runs_nil]
  | j :: is, i + 1, b, h => by
    show (j.run b).join (Th.runs (is.take (i + 1))) = ((j.run b).join (Th.runs (is.take i))).join th.run
    rw [join_assoc]
    congr 1
    funext b
    exact runs_snoc b (by simpa using h)

theorem pick_known {a : Addr} {n : Nat} {b c : Bool} {e u : Rn} (he : e.known = c) (hu : u.known = c) : (Rn.pick a n b e u).known = c := by
  unfold Rn.pick
  split
  · split
    · exact hu
    · exact he
  · exact he
theorem runs_true {is : List Th} (h : ∀ i ∈ is, (i.run true).known = true) : (Th.runs is true).known = true := by
  induction is with
  | nil => rfl
  | cons i is ih =>
    show ((i.run true).join (Th.runs is)).known = true
    simp only [Rn.join, h i (.head _)]
    exact ih fun j hj => h j (.tail _ hj)
theorem run_true {th : Th} (h : ThWf th) : (th.run true).known = true := by
  induction h with
  | lit => rfl
  | str => rfl
  | seq _ ih => exact runs_true ih
  | name hk => rcases hk with rfl | rfl | rfl <;> rfl
  | plain hk _ ih => rw [run_plain hk]; exact runs_true ih
  | test hk _ _ _ _ _ iht ihy ihc =>
    rw [run_test hk]
    split
    · refine runs_true fun i hi => ?_
      simp only [List.mem_cons, List.not_mem_nil, or_false] at hi
      rcases hi with rfl | rfl | rfl <;> assumption
    · refine pick_known ?_ ?_ <;> simp only [Rn.join, *]
    · refine pick_known ?_ ?_ <;> simp only [Rn.join, *]

/-- without the name: no opens, and the run hangs on nothing -/
noncomputable def Same (f : Bool → Rn) : Prop := ∀ b, (f b).right = (f true).right ∧ (f b).late = (f true).late ∧ (f b).known = b
theorem Same.join {f g : Bool → Rn} (hf : Same f) (hg : Same g) : Same fun b => (f b).join g := fun b => by
  simp only [Rn.join, (hf b).1, (hf b).2.1, (hf b).2.2, (hg b).1, (hg b).2.1, (hg b).2.2, (hf true).2.2, and_self]
theorem same_nil : Same fun b => ⟨true, [], b⟩ := fun _ => ⟨rfl, rfl, rfl⟩
theorem runs_same {is : List Th} (h : ∀ i ∈ is, Same i.run) : Same (Th.runs is) := by
  induction is with
  | nil => exact same_nil
  | cons i is ih => exact (h i (.head _)).join (ih fun j hj => h j (.tail _ hj))
theorem pick_same {a : Addr} {f g : Bool → Rn} (hf : Same f) (hg : Same g) : Same fun b => Rn.pick a 0 b (f b) (g b) := fun b => by
  simp only [Rn.pick, Nat.lt_irrefl, decide_false, Bool.and_false, Bool.not_false, Bool.and_true, (hf b).1, (hg b).1]
  cases h : (f true).right with
  | true => simpa [h] using hf b
  | false =>
    cases h' : (g true).right with
    | true => simp [hg b]
    | false => simpa [h] using hf b
theorem texts_all {is : List Th} (h : Th.textss is = false) : ∀ i ∈ is, i.texts = false := by
  induction is with
  | nil => intro i hi; cases hi
  | cons i is ih =>
    intro j hj
    unfold Th.textss at h
    rw [Bool.or_eq_false_iff] at h
    rcases List.mem_cons.mp hj with rfl | hj
    · exact h.1
    · exact ih h.2 j hj
theorem openss_zero {is : List Th} (h : ∀ i ∈ is, i.opens = 0) : Th.openss is = 0 := by
  induction is with
  | nil => rfl
  | cons i is ih => unfold Th.openss; rw [h i (.head _), ih fun j hj => h j (.tail _ hj)]
theorem run_same {th : Th} (h : ThWf th) : th.texts = false → th.opens = 0 ∧ Same th.run := by
  induction h with
  | lit => exact fun _ => ⟨rfl, same_nil⟩
  | str => intro e; cases e
  | seq _ ih => exact fun e => ⟨openss_zero fun i hi => (ih i hi (texts_all e i hi)).1, runs_same fun i hi => (ih i hi (texts_all e i hi)).2⟩
  | name hk => intro e; simp [Th.texts, Th.textss] at e
  | plain hk _ ih =>
    intro e
    refine ⟨?_, ?_⟩
    · have := openss_zero fun i hi => (ih i hi (texts_all e i hi)).1
      rcases hk with rfl | rfl | rfl <;> exact this
    · rw [show (Th.run (.node _ _ _ _)) = _ from funext (run_plain hk)]
      exact runs_same fun i hi => (ih i hi (texts_all e i hi)).2
  | @test k a p t y c hk _ _ _ _ _ iht ihy ihc =>
    intro e
    have h1 := texts_all e
    have ht := iht (h1 t (by simp))
    have hy := ihy (h1 y (by simp))
    have hc := ihc (h1 c (by simp))
    have h0 : Th.openss [t, y, c] = 0 := by simp [Th.openss, ht.1, hy.1, hc.1]
    refine ⟨by rcases hk with rfl | rfl <;> exact h0, ?_⟩
    rw [show (Th.run (.node k a p [t, y, c])) = _ from funext (run_test hk), h0]
    have hn : Same (Th.runs [t, y, c]) := runs_same fun i hi => by
      simp only [List.mem_cons, List.not_mem_nil, or_false] at hi
      rcases hi with rfl | rfl | rfl
      · exact ht.2
      · exact hy.2
      · exact hc.2
    cases bodySel k y c with
    | none => exact hn
    | some s =>
      cases s
      · exact pick_same (ht.2.join hy.2) (hy.2.join ht.2)
      · exact pick_same (ht.2.join hc.2) (hc.2.join ht.2)

mutual
noncomputable def Th.span : Th → Nat
  | .lit _ => 0
  | .str _ => 0
  | .seq _ _ _ is => Th.spans is
  | .node .lvar _ _ _ => 1
  | .node .vcall _ _ _ => 1
  | .node .tloc _ _ _ => 1
  | .node .int _ _ is => 1 + Th.spans is
  | .node .asg _ _ is => 1 + Th.spans is
  | .node .seq _ _ is => 1 + Th.spans is
  | .node .ifk _ _ is => 1 + Th.spant .ifk is
  | .node .whk _ _ is => 1 + Th.spant .whk is
noncomputable def Th.spans : List Th → Nat
  | [] => 0
  | i :: is => Th.span i + Th.spans is
noncomputable def Th.spant : Kd → List Th → Nat
  | k, t :: r => Th.spand k t (Th.span t) r
  | _, [] => 0
noncomputable def Th.spand : Kd → Th → Nat → List Th → Nat
  | k, t, n, y :: r => Th.spane k t n y (Th.span y) r
  | _, _, n, [] => n
noncomputable def Th.spane : Kd → Th → Nat → Th → Nat → List Th → Nat
  | k, t, n, y, m, c :: _ => match bodySel k y c with
    | none => n + (m + (Th.span c + 0))
    | some false => t.sz + y.sz
    | some true => t.sz + c.sz
  | _, _, n, _, _, [] => n
end
theorem span_lvar {a p : Addr} {is : List Th} : (Th.node .lvar a p is).span = 1 := rfl
theorem span_vcall {a p : Addr} {is : List Th} : (Th.node .vcall a p is).span = 1 := rfl
theorem span_tloc {a p : Addr} {is : List Th} : (Th.node .tloc a p is).span = 1 := rfl
theorem spans_nil : Th.spans [] = 0 := rfl
theorem spans_cons {i : Th} {is : List Th} : Th.spans (i :: is) = i.span + Th.spans is := rfl
theorem span_plain {k : Kd} {a p : Addr} {is : List Th} (hk : k = .int ∨ k = .asg ∨ k = .seq) : (Th.node k a p is).span = 1 + Th.spans is := by
  rcases hk with rfl | rfl | rfl <;> rfl
theorem span_test {k : Kd} {a p : Addr} {t y c : Th} (hk : k = .ifk ∨ k = .whk) : (Th.node k a p [t, y, c]).span = 1 +
    match bodySel k y c with
    | none => Th.spans [t, y, c]
    | some false => t.sz + y.sz
    | some true => t.sz + c.sz := by
  rcases hk with rfl | rfl <;> rfl
theorem spans_snoc {th : Th} : ∀ {is : List Th} {i : Nat}, is[i]? = some th → Th.spans (is.take (i + 1)) = Th.spans (is.take i) + th.span
  | [], _, h => by cases h
  | j :: is, 0, h => by cases h; simp [spans_cons, spans_nil]
  | j :: is, i + 1, h => by
    have ih := spans_snoc (is := is) (i := i) (by simpa using h)
    simp only [List.take_succ_cons, spans_cons, ih, Nat.add_assoc]

/-- the test nodes of a thing that begins at a place stand in the table -/
inductive Cov (T : Nat → Option Th) : Nat → Th → Prop
  | lit {p : Nat} {v : Value} : Cov T p (.lit v)
  | str {p : Nat} {t : Tok} : Cov T p (.str t)
  | seq {p : Nat} {tup : Bool} {a : Addr} {n : Nat} {is : List Th} : (∀ i th, is[i]? = some th → Cov T (p + Th.spans (is.take i)) th) → Cov T p (.seq tup a n is)
  | name {p : Nat} {k : Kd} {a q : Addr} {is : List Th} : (k = .lvar ∨ k = .vcall ∨ k = .tloc) → Cov T p (.node k a q is)
  | plain {p : Nat} {k : Kd} {a q : Addr} {is : List Th} : (k = .int ∨ k = .asg ∨ k = .seq) → (∀ i th, is[i]? = some th → Cov T (p + 1 + Th.spans (is.take i)) th) → Cov T p (.node k a q is)
  | bare {p : Nat} {k : Kd} {a q : Addr} {t y c : Th} : (k = .ifk ∨ k = .whk) → bodySel k y c = none → (∀ i th, [t, y, c][i]? = some th → Cov T (p + 1 + Th.spans ([t, y, c].take i)) th) → Cov T p (.node k a q [t, y, c])
  | body {p : Nat} {k : Kd} {a q : Addr} {t y c : Th} {s : Bool} : (k = .ifk ∨ k = .whk) → bodySel k y c = some s → T (p + 1) = some (.node k a q [t, y, c]) → Cov T (p + 1) t → Cov T (p + 1 + t.sz) (match s with | false => y | true => c) → (∃ k' a' q' is', t = .node k' a' q' is') →
      Cov T p (.node k a q [t, y, c])

/-- what one entry of the kept dict says -/
inductive EntI (w : World) (R : Led) (tab : Nat → Option Th) (q : Nat) (v : Value) : Prop
  | ex (k : Kd) (a p : Addr) (t y c : Th) (s : Bool) (A tx : Addr) (tt : Tok) (n : Nat) (t1 t2 : Tok) (h1 : tab q = some (.node k a p [t, y, c])) (h2 : k = .ifk ∨ k = .whk) (h3 : bodySel k y c = some s) (h4 : v = .ref A) (h5 : (A, tupO [.ref tx, .int (t.sz : Int) t1, .int (((match s with | false => y | true => c) : Th).sz : Int) t2] 0) ∈ R)
      (h6 : (tx, lstO (nmL (Th.textss [t, y, c]) tt) n) ∈ R)
inductive EntT (w : World) (R : Led) (tab : Nat → Option Th) (q : Nat) (b : Bool) (v : Value) : Prop
  | ex (nd : Th) (A l nz : Addr) (tt : Tok) (n1 n2 : Nat) (rt : Bool) (lts : List Addr) (nb : Bool) (h1 : tab q = some nd) (h2 : v = .ref A) (h3 : (A, tupO [.bool rt, .ref l, .ref nz] 0) ∈ R) (h4 : (l, lstO (lts.map Value.ref) n1) ∈ R) (h5 : (nz, lstO (nmL nb tt) n2) ∈ R)
      (h6 : ∀ kb, (kb && nd.texts) = b → (nd.run kb).right = rt ∧ (nd.run kb).late = lts ∧ (nb = ((nd.run kb).known && !kb)))
noncomputable def EntryOk (w : World) (R : Led) (tab : Nat → Option Th) (x : MX) : Prop :=
  MkIn R x.1 x.2.1 ∧ match x with
  | (.i q, _, v) => EntI w R tab q v
  | (.t q b, _, v) => EntT w R tab q b v
noncomputable def KeptOk (w : World) (R : Led) (tab : Nat → Option Th) (xs : List MX) : Prop := (xs.map (·.1)).Nodup ∧ ∀ x ∈ xs, EntryOk w R tab x
theorem EntryOk.mono {w : World} {R R' : Led} {tab : Nat → Option Th} {x : MX} (hs : ∀ p ∈ R, p ∈ R') (h : EntryOk w R tab x) : EntryOk w R' tab x := by
  obtain ⟨k, kv, v⟩ := x
  refine ⟨h.1.mono hs, ?_⟩
  cases k with
  | i q => obtain ⟨_, k, a, p, t, y, c, s, A, tx, tt, n, t1, t2, e1, e2, e3, e4, e5, e6⟩ := h; exact ⟨k, a, p, t, y, c, s, A, tx, tt, n, t1, t2, e1, e2, e3, e4, hs _ e5, hs _ e6⟩
  | t q b => obtain ⟨_, nd, A, l, nz, tt, n1, n2, rt, lts, nb, e1, e2, e3, e4, e5, e6⟩ := h; exact ⟨nd, A, l, nz, tt, n1, n2, rt, lts, nb, e1, e2, hs _ e3, hs _ e4, hs _ e5, e6⟩
theorem KeptOk.mono {w : World} {R R' : Led} {tab : Nat → Option Th} {xs : List MX} (hs : ∀ p ∈ R, p ∈ R') (h : KeptOk w R tab xs) : KeptOk w R' tab xs := ⟨h.1, fun x hx => (h.2 x hx).mono hs⟩
theorem KeptOk.keys {w : World} {R : Led} {tab : Nat → Option Th} {xs : List MX} (h : KeptOk w R tab xs) : ∀ x ∈ xs, MkIn R x.1 x.2.1 := fun x hx => (h.2 x hx).1

/-- the table: small places, well formed test nodes -/
noncomputable def TabOk (tab : Nat → Option Th) : Prop := ∀ q nd, tab q = some nd → q < 1000 ∧ ThWf nd
noncomputable def MK.code : MK → Nat
  | .i p => 3 * p
  | .t p b => 3 * p + 1 + b.toNat
theorem MK.code_inj {x y : MK} (h : x.code = y.code) : x = y := by
  cases x with
  | i p => cases y with
    | i q => simp only [MK.code] at h; rw [show p = q by omega]
    | t q c => cases c <;> simp only [MK.code, Bool.toNat_true, Bool.toNat_false] at h <;> omega
  | t p b => cases y with
    | i q => cases b <;> simp only [MK.code, Bool.toNat_true, Bool.toNat_false] at h <;> omega
    | t q c => cases b <;> cases c <;> simp only [MK.code, Bool.toNat_true, Bool.toNat_false] at h <;> first | omega | (rw [show p = q by omega])
theorem nodup_lt : ∀ (n : Nat) (l : List Nat), l.Nodup → (∀ x ∈ l, x < n) → l.length ≤ n
  | 0, [], _, _ => Nat.le_refl _
  | 0, x :: _, _, h => absurd (h x (.head _)) (Nat.not_lt_zero _)
  | n + 1, l, hl, h => by
    have h1 := nodup_lt n (l.erase n) (hl.erase n) fun x hx => by
      have hx' := (List.Nodup.mem_erase_iff hl).mp hx
      exact Nat.lt_of_le_of_ne (Nat.le_of_lt_succ (h x hx'.2)) hx'.1
    have h2 : l.length ≤ (l.erase n).length + 1 := by
      rw [List.length_erase]
      split
      · exact Nat.le_add_of_sub_le (Nat.le_refl _)
      · exact Nat.le_succ _
    exact Nat.le_trans h2 (Nat.succ_le_succ h1)
theorem KeptOk.size {w : World} {R : Led} {tab : Nat → Option Th} {xs : List MX} (ht : TabOk tab) (h : KeptOk w R tab xs) : xs.length < 1000000 := by
  have h1 := nodup_lt 3000 ((xs.map (·.1)).map MK.code) ?_ ?_
  · rw [List.length_map, List.length_map] at h1
    exact Nat.lt_of_le_of_lt h1 (by decide)
  · exact h.1.map _ fun a b hab e => hab (MK.code_inj e)
  · intro c hc
    obtain ⟨k, hk, rfl⟩ := List.mem_map.mp hc
    obtain ⟨⟨k', kv, v⟩, hx, rfl⟩ := List.mem_map.mp hk
    have he := h.2 _ hx
    cases k' with
    | i q =>
      obtain ⟨_, k, a, p, t, y, c, s, A, tx, tt, n, t1, t2, e1, _⟩ := he
      exact Nat.mul_lt_mul_of_pos_left (ht q _ e1).1 (by decide)
    | t q b =>
      obtain ⟨_, nd, A, l, nz, tt, n1, n2, rt, lts, nb, e1, _⟩ := he
      exact Nat.lt_of_le_of_lt (Nat.add_le_add_left (Bool.toNat_le b) _) (Nat.lt_of_lt_of_le (by show 3 * q + 1 + 1 < 3 * (q + 1); exact Nat.lt_succ_self _) (Nat.mul_le_mul_left 3 (ht q _ e1).1))

theorem late_runs {is : List Th} (h : ∀ i ∈ is, ∀ b, (i.run b).late.length ≤ i.sz) : ∀ b, (Th.runs is b).late.length ≤ Th.szs is := by
  induction is with
  | nil => intro b; exact Nat.le_refl _
  | cons i is ih =>
    intro b
    show ((i.run b).join (Th.runs is)).late.length ≤ _
    simp only [Rn.join, List.length_append]
    exact Nat.add_le_add (h i (.head _) b) (ih (fun j hj => h j (.tail _ hj)) (i.run b).known)
theorem pick_late {a : Addr} {n : Nat} {b : Bool} {e u : Rn} {m : Nat} (he : e.late.length ≤ m) (hu : u.late.length ≤ m) : (Rn.pick a n b e u).late.length ≤ m + 1 := by
  unfold Rn.pick
  split
  · split
    · exact Nat.succ_le_succ hu
    · exact Nat.le_succ_of_le he
  · exact Nat.le_succ_of_le he
theorem late_sz {th : Th} (h : ThWf th) : ∀ b, (th.run b).late.length ≤ th.sz := by
  induction h with
  | lit => intro b; exact Nat.le_refl _
  | str => intro b; exact Nat.le_refl _
  | seq _ ih => intro b; exact late_runs ih b
  | name hk => intro b; rcases hk with rfl | rfl | rfl <;> exact Nat.zero_le _
  | plain hk _ ih => intro b; rw [run_plain hk]; exact Nat.le_trans (late_runs ih b) (Nat.le_add_left _ 1)
  | @test k a p t y c hk _ _ _ _ _ iht ihy ihc =>
    intro b
    rw [run_test hk]
    have hsz : (Th.node k a p [t, y, c]).sz = 1 + (t.sz + (y.sz + (c.sz + 0))) := rfl
    rw [hsz]
    split
    · have := late_runs (is := [t, y, c]) (fun i hi b => by
        simp only [List.mem_cons, List.not_mem_nil, or_false] at hi
        rcases hi with rfl | rfl | rfl
        · exact iht b
        · exact ihy b
        · exact ihc b) b
      exact Nat.le_trans this (Nat.le_add_left _ 1)
    · refine Nat.le_trans (pick_late (m := t.sz + y.sz) ?_ ?_) (Nat.le_trans (Nat.le_of_eq (Nat.add_comm _ 1)) (Nat.add_le_add_left (Nat.add_le_add_left (Nat.le_add_right _ _) _) 1))
      · simp only [Rn.join, List.length_append]
        exact Nat.add_le_add (iht b) (ihy (t.run b).known)
      · simp only [Rn.join, List.length_append]
        exact Nat.le_trans (Nat.add_le_add (ihy b) (iht (y.run b).known)) (Nat.le_of_eq (Nat.add_comm _ _))
    · refine Nat.le_trans (pick_late (m := t.sz + c.sz) ?_ ?_) (Nat.le_trans (Nat.le_of_eq (Nat.add_comm _ 1)) (Nat.add_le_add_left (Nat.add_le_add_left (Nat.le_add_left _ _) _) 1))
      · simp only [Rn.join, List.length_append]
        exact Nat.add_le_add (iht b) (ihc (t.run b).known)
      · simp only [Rn.join, List.length_append]
        exact Nat.le_trans (Nat.add_le_add (ihc b) (iht (c.run b).known)) (Nat.le_of_eq (Nat.add_comm _ _))

structure Ps where
  pl : Nat
  right : Bool
  known : Bool
  late : List Addr
  xs : List MX
/-- what a pass leans on and does not change -/
structure Fix (w : World) (R : Led) (x xd kn kd S C Nm : Addr) (od : Obj) (n1 n3 : Nat) : Prop where
  h1 : (x, instObj 314 xd) ∈ R
  h2 : (kn, instObj 233 kd) ∈ R
  h3 : (kd, od) ∈ R
  h4 : KnD w S C od
  h5 : (S, lstO [.ref Nm] n1) ∈ R
  h6 : (C, lstO [.bool true] n3) ∈ R
theorem Fix.mono {w : World} {R R' : Led} {x xd kn kd S C Nm : Addr} {od : Obj} {n1 n3 : Nat} (hs : ∀ p ∈ R, p ∈ R') (h : Fix w R x xd kn kd S C Nm od n1 n3) : Fix w R' x xd kn kd S C Nm od n1 n3 :=
  ⟨hs _ h.h1, hs _ h.h2, hs _ h.h3, h.h4, hs _ h.h5, hs _ h.h6⟩
structure Apart (R : Led) (xd Nm lt kp : Addr) : Prop where
  a1 : xd ≠ Nm
  a2 : xd ≠ lt
  a3 : xd ≠ kp
  a4 : Nm ≠ lt
  a5 : Nm ≠ kp
  a6 : lt ≠ kp
  r1 : ∀ q ∈ R, q.1 ≠ xd
  r2 : ∀ q ∈ R, q.1 ≠ Nm
  r3 : ∀ q ∈ R, q.1 ≠ lt
  r4 : ∀ q ∈ R, q.1 ≠ kp
  lo : (kp == sysModules) = false
noncomputable def MutL (w : World) (xd Nm lt kp : Addr) (o : Obj) (t : Tok) (n ln kl : Nat) (st : Ps) : Led := [(xd, o), (Nm, lstO (nmL st.known t) n), (lt, lstO (st.late.map Value.ref) ln), (kp, keptO w st.xs kl)]
/-- the state behind a run -/
noncomputable def Ps.step (st : Ps) (sp : Nat) (r : Rn) (xs : List MX) : Ps := ⟨st.pl + sp, st.right && r.right, r.known, st.late ++ r.late, xs⟩
theorem step_plain {pl sp : Nat} {right known : Bool} {late : List Addr} {xs ys : List MX} {r : Rn} : (Ps.mk (pl + 1) right known late xs).step sp r ys = (Ps.mk pl right known late xs).step (1 + sp) r ys := by
  simp only [Ps.step, Nat.add_assoc]
theorem step_bare {pl sp : Nat} {right known : Bool} {late : List Addr} {xs ys : List MX} {r : Rn} : (Ps.mk pl right known late xs).step sp r ys = (Ps.mk pl right known late xs).step (1 + sp - 1) r ys := by
  rw [Nat.add_sub_cancel_left]
inductive GoPost (w : World) (tab : Nat → Option Th) (R : Led) (kn xd Nm lt kp : Addr) (sp : Nat) (rn : Rn) (st : Ps) (r : Value) (M' tl : Led) : Prop
  | ex (h1 : r = .none) (o : _) (t : _) (n : _) (ln : _) (kl : _) (xs : _) (h2 : M' = MutL w xd Nm lt kp o t n ln kl (st.step sp rn xs)) (h3 : PassD w kn kp (st.step sp rn xs).pl lt (st.step sp rn xs).right o) (h4 : KeptOk w (tl ++ R) tab xs)
theorem GoPost.out {h₀ : Heap} {L : Addr} {m : PySem.Str → Option Value} {R : Led} {W : Led → Prop} {G : Value → Heap → Nat → Prop} {w : World} {tab : Nat → Option Th} {R0 : Led} {kn xd Nm lt kp : Addr} {sp : Nat} {rn : Rn} {st : Ps}
    (k : ∀ o t n ln kl xs tl h' tk', PassD w kn kp (st.step sp rn xs).pl lt (st.step sp rn xs).right o → KeptOk w (tl ++ R0) tab xs → Fr h₀ L h' m → News h₀ L h' (MutL w xd Nm lt kp o t n ln kl (st.step sp rn xs) ++ (tl ++ R)) → W tl → G .none h' tk') :
    ∀ r M' tl h' tk', Fr h₀ L h' m → News h₀ L h' (M' ++ (tl ++ R)) → W tl → GoPost w tab R0 kn xd Nm lt kp sp rn st r M' tl → G r h' tk' := by
  rintro _ _ tl h' tk' F N hw ⟨rfl, o, t, n, ln, kl, xs, rfl, h1, h2⟩
  exact k o t n ln kl xs tl h' tk' h1 h2 F N hw
/-- the contract of a walking def f of NamePass on an argument -/
noncomputable def GoC (w : World) (tab : Nat → Option Th) (f : Addr) (arg : Value) (sz sp : Nat) (rn : Bool → Rn) (need : Nat) (Ok : Led → Nat → Prop) : Prop :=
  ∀ (R R0 : Led) (x xd kn kd S C Nm lt kp : Addr) (od o : Obj) (n1 n3 n ln kl : Nat) (t : Tok) (st : Ps), (∀ p ∈ R0, p ∈ R) →
    Fix w R x xd kn kd S C Nm od n1 n3 → Apart R xd Nm lt kp → PassD w kn kp st.pl lt st.right o → KeptOk w R0 tab st.xs → Ok R st.pl → st.late.length + sz ≤ 1000 →
    Cn w f [.ref x, arg] need (MutL w xd Nm lt kp o t n ln kl st) R (GoPost w tab R0 kn xd Nm lt kp sp (rn st.known) st)
/-- go on a thing -/
noncomputable def GoOk (w : World) (tab : Nat → Option Th) (th : Th) : Prop := GoC w tab 259 th.val th.sz th.span th.run (th.ht + 60) fun R p => ThIn w R th ∧ Cov tab p th
/-- nodes, their parts, their sizes -/
theorem sub_in {w : World} {R : Led} {k : Kd} {a p : Addr} {is : List Th} {i : Th} (h : ThIn w R (.node k a p is)) (hi : i ∈ is) : ThIn w R i := by
  cases h with | node _ _ _ _ _ h => exact h i hi
theorem wf_test {k : Kd} {a p : Addr} {t0 y c : Th} (hk0 : k = .ifk ∨ k = .whk) (hwf : ThWf (.node k a p [t0, y, c])) : IsRow y ∧ (c = .lit .none ∨ (k = .whk ∧ ∃ x, c = .lit (.bool x)) ∨ (k = .ifk ∧ IsRow c)) := by
  cases hwf with
  | plain h => rcases h with rfl | rfl | rfl <;> rcases hk0 with h | h <;> cases h
  | test _ _ _ h1 _ h2 => exact ⟨h1, h2⟩
theorem wf_sub {k : Kd} {a p : Addr} {t0 y c i : Th} (hwf : ThWf (.node k a p [t0, y, c])) (hi : i ∈ [t0, y, c]) : ThWf i := by
  cases hwf with
  | plain _ h => exact h i hi
  | test _ h1 h2 _ h3 => rcases List.mem_cons.mp hi with rfl | hi <;> first | exact h1 | (rcases List.mem_cons.mp hi with rfl | hi <;> first | exact h2 | (rw [List.mem_singleton.mp hi]; exact h3))
theorem mem_yc {t y c z : Th} (hz : z = y ∨ z = c) : z ∈ [t, y, c] := hz.elim (fun h => h ▸ .tail _ (.head _)) fun h => h ▸ .tail _ (.tail _ (.head _))
theorem sz_two {k : Kd} {a p : Addr} {t y c z : Th} (hz : z = y ∨ z = c) (h : (Th.node k a p [t, y, c]).sz ≤ 1000) : t.sz + z.sz ≤ 1000 := by
  have h0 : t.sz + (y.sz + c.sz) ≤ 1000 := Nat.le_trans (Nat.le_add_left _ 1) h
  rcases hz with rfl | rfl
  · exact Nat.le_trans (Nat.add_le_add_left (Nat.le_add_right _ _) _) h0
  · exact Nat.le_trans (Nat.add_le_add_left (Nat.le_add_left _ _) _) h0
theorem sz_seq {k : Kd} {a p : Addr} {is : List Th} {l : Nat} (h : l + (Th.node k a p is).sz ≤ 1000) : l + Th.szs is ≤ 1000 := Nat.le_trans (Nat.add_le_add_left (Nat.le_add_left _ 1) l) h
theorem ht_plain {k : Kd} {a p : Addr} {tup : Bool} {nn : Nat} {is : List Th} : 1 + ((Th.seq tup p nn is).ht + 60) ≤ (Th.node k a p is).ht + 58 := by
  show 1 + (1 + Th.hts is + 60) ≤ 6 + Th.hts is + 58
  rw [Nat.add_comm 1, Nat.add_comm 6, Nat.add_comm 1 (Th.hts is), Nat.add_assoc, Nat.add_assoc, Nat.add_assoc]
  exact Nat.add_le_add_left (by decide) _
theorem cov_plain {tab : Nat → Option Th} {k : Kd} {a p q : Addr} {is : List Th} {nn : Nat} {tup : Bool} (hk0 : k = .int ∨ k = .asg ∨ k = .seq) (h : Cov tab q (.node k a p is)) : Cov tab (q + 1) (.seq tup p nn is) := by
  cases h with
  | plain _ h => exact .seq h
  | name h => rcases hk0 with rfl | rfl | rfl <;> rcases h with h | h | h <;> cases h
  | bare h => rcases hk0 with rfl | rfl | rfl <;> rcases h with h | h <;> cases h
  | body h => rcases hk0 with rfl | rfl | rfl <;> rcases h with h | h <;> cases h
theorem cov_bare {tab : Nat → Option Th} {k : Kd} {a p q : Addr} {t0 y c : Th} {nn : Nat} {tup : Bool} (hk0 : k = .ifk ∨ k = .whk) (hsel : bodySel k y c = none) (h : Cov tab q (.node k a p [t0, y, c])) : Cov tab (q + 1) (.seq tup p nn [t0, y, c]) := by
  cases h with
  | plain h => rcases h with rfl | rfl | rfl <;> rcases hk0 with h | h <;> cases h
  | name h => rcases h with rfl | rfl | rfl <;> rcases hk0 with h | h <;> cases h
  | bare _ _ h => exact .seq h
  | body _ h => rw [hsel] at h; cases h
theorem cov_body {tab : Nat → Option Th} {k : Kd} {a p q : Addr} {t0 y c z : Th} {s0 : Bool} (hk0 : k = .ifk ∨ k = .whk) (hzs : z = match s0 with | false => y | true => c) (hsel : bodySel k y c = some s0) (h : Cov tab q (.node k a p [t0, y, c])) :
    tab (q + 1) = some (.node k a p [t0, y, c]) ∧ Cov tab (q + 1) t0 ∧ Cov tab (q + 1 + t0.sz) z ∧ ∃ k' a' q' is', t0 = .node k' a' q' is' := by
  cases h with
  | plain h => rcases h with rfl | rfl | rfl <;> rcases hk0 with h | h <;> cases h
  | name h => rcases h with rfl | rfl | rfl <;> rcases hk0 with h | h <;> cases h
  | bare _ h => rw [hsel] at h; cases h
  | body _ h h1 h2 h3 h4 =>
    rw [hsel] at h
    cases h
    rw [hzs]
    exact ⟨h1, h2, h3, h4⟩
theorem sz_t {k : Kd} {a p : Addr} {t y c : Th} {l : Nat} (h : l + (Th.node k a p [t, y, c]).sz ≤ 1000) : t.sz < 1000 :=
  Nat.lt_of_lt_of_le (Nat.lt_add_of_pos_left Nat.one_pos) (Nat.le_trans (Nat.add_le_add_left (Nat.le_add_right t.sz (y.sz + c.sz)) 1) (Nat.le_trans (Nat.le_add_left _ l) h))
theorem sz_z {k : Kd} {a p : Addr} {t y c z : Th} {l : Nat} (hz : z.sz ≤ y.sz + c.sz) (h : l + (Th.node k a p [t, y, c]).sz ≤ 1000) : z.sz < 1000 :=
  Nat.lt_of_lt_of_le (Nat.lt_add_of_pos_left Nat.one_pos) (Nat.le_trans (Nat.add_le_add_left (Nat.le_trans hz (Nat.le_add_left _ t.sz)) 1) (Nat.le_trans (Nat.le_add_left _ l) h))

theorem rot5 {h₀ h : Heap} {L : Addr} {e a b c d : Addr × Obj} {R : Led} (N : News h₀ L h (e :: a :: b :: c :: d :: R)) : News h₀ L h ([a, b, c, d] ++ ([e] ++ R)) :=
  News.sub N fun p hp => by
    simp only [List.nil_append, List.cons_append, List.mem_cons] at hp ⊢
    simp only [or_left_comm, or_comm, or_assoc] at hp ⊢
    exact hp
theorem step_nil (st : Ps) : st.step 0 ⟨true, [], st.known⟩ st.xs = st := by simp [Ps.step]
theorem fresh5 {D : Nat} {a b c d : Addr} {oa ob oc od oe : Obj} {R : Led} (kL : a < D ∧ b < D ∧ c < D ∧ d < D ∧ AllLt D R) : ∀ q ∈ [(a, oa), (b, ob), (c, oc), (d, od)] ++ R, ∀ p ∈ [(D, oe)], q.1 ≠ p.1 := by
  intro q hq p hp
  rw [List.mem_singleton.mp hp]
  simp only [List.cons_append, List.nil_append, List.mem_cons] at hq
  rcases hq with rfl | rfl | rfl | rfl | hq
  · exact Nat.ne_of_lt kL.1
  · exact Nat.ne_of_lt kL.2.1
  · exact Nat.ne_of_lt kL.2.2.1
  · exact Nat.ne_of_lt kL.2.2.2.1
  · exact Nat.ne_of_lt (kL.2.2.2.2.of q hq)

theorem GoPost.intro {w : World} {tab : Nat → Option Th} {R tl : Led} {kn xd Nm lt kp : Addr} {sp : Nat} {rn : Rn} {st : Ps} {o : Obj} {t : Tok} {n ln kl : Nat} (st' : Ps) (e : st.step sp rn st'.xs = st') (hpd : PassD w kn kp st'.pl lt st'.right o) (hko : KeptOk w (tl ++ R) tab st'.xs) :
    GoPost w tab R kn xd Nm lt kp sp rn st .none [(xd, o), (Nm, lstO (nmL st'.known t) n), (lt, lstO (st'.late.map Value.ref) ln), (kp, keptO w st'.xs kl)] tl :=
  ⟨rfl, o, t, n, ln, kl, st'.xs, by rw [e]; rfl, by rw [e]; exact hpd, hko⟩

theorem go_flat (w : World) (tab : Nat → Option Th) (th : Th) (hth : (∃ v, th = .lit v ∧ IsLit v) ∨ ∃ t, th = .str t) : GoOk w tab th := by
  intro R R0 x xd kn kd S C Nm lt kp od o n1 n3 n ln kl t st h0 hfix hap hpd hko hok hsz
  obtain ⟨f1, f2, f3, f4, f5, f6⟩ := hfix
  have hpd' := hpd
  obtain ⟨q1, q2, q3, q4, q5, q6, rfl⟩ := hpd
  rcases hth with ⟨v, rfl, hv⟩ | ⟨u, rfl⟩
  · show Cn w 259 [.ref x, v] _ _ R _
    unfold MutL
    unfold Cn; k_fill; intro dp un gd A₀ base h₀ outer env L m s pp loose mean mg mb Q B F X N T hf hk hd hu hret
    simp only [List.cons_append, List.nil_append] at N
    k_dflt (refine' code_def ?k1 ?k2 ?k3 ?k4 ?k5 ?kA ?kF ?kK ?k6 ?k7 ?k8 ?k9 ?kB ?_ ?c2 ?c3 ?c4 ?c5; (case kA => exact rfl); (case kF => assumption); (case kK => assumption); (case k1 => k_asm); (case k2 => k_asm); (case k3 => k_asm); (case k4 => k_asm); (case k5 => k_asm); (case k6 => k_is); (case k7 => k_is); (case k8 => ktr_room); (case k9 => first | exact BindsTo.of_eq rfl | exact binds_K (by k_in) rfl (by k_is) rfl rfl rfl); (case c5 => decide); (case kB => exact locs rfl); (case c2 => exact rfl); (case c3 => exact rfl); (case c4 => exact rfl); k_whole; intro g' L' h' FG' F' N' B' X' T'; (try dsimp only); (try k_fold); (refine frame_name F' ?_); clear F'; intro mm' F' hfr')
    k_steps
    (rename News h₀ L _ (_ :: _ :: _ :: _ :: _ :: R) => kN)
    (rename _ ∧ _ ∧ _ ∧ _ ∧ AllLt _ R => kL)
    exact hret _ _ _ _ _ (by assumption) (rot5 kN) (fresh5 kL) (GoPost.intro st (step_nil st) hpd' (hko.mono fun p hp => List.mem_append_right _ hp))
  · show Cn w 259 [.ref x, .str sA u] _ _ R _
    unfold MutL
    unfold Cn; k_fill; intro dp un gd A₀ base h₀ outer env L m s pp loose mean mg mb Q B F X N T hf hk hd hu hret
    simp only [List.cons_append, List.nil_append] at N
    k_dflt (refine' code_def ?k1 ?k2 ?k3 ?k4 ?k5 ?kA ?kF ?kK ?k6 ?k7 ?k8 ?k9 ?kB ?_ ?c2 ?c3 ?c4 ?c5; (case kA => exact rfl); (case kF => assumption); (case kK => assumption); (case k1 => k_asm); (case k2 => k_asm); (case k3 => k_asm); (case k4 => k_asm); (case k5 => k_asm); (case k6 => k_is); (case k7 => k_is); (case k8 => ktr_room); (case k9 => first | exact BindsTo.of_eq rfl | exact binds_K (by k_in) rfl (by k_is) rfl rfl rfl); (case c5 => decide); (case kB => exact locs rfl); (case c2 => exact rfl); (case c3 => exact rfl); (case c4 => exact rfl); k_whole; intro g' L' h' FG' F' N' B' X' T'; (try dsimp only); (try k_fold); (refine frame_name F' ?_); clear F'; intro mm' F' hfr')
    k_steps
    (rename News h₀ L _ (_ :: _ :: _ :: _ :: _ :: R) => kN)
    (rename _ ∧ _ ∧ _ ∧ _ ∧ AllLt _ R => kL)
    exact hret _ _ _ _ _ (by assumption) (rot5 kN) (fresh5 kL) (GoPost.intro st (step_nil st) hpd' (hko.mono fun p hp => List.mem_append_right _ hp))

theorem step_join (st : Ps) (a b : Nat) (f g : Bool → Rn) (xs ys : List MX) : (st.step a (f st.known) xs).step b (g (st.step a (f st.known) xs).known) ys = st.step (a + b) ((f st.known).join g) ys := by
  simp only [Ps.step, Rn.join, Nat.add_assoc, Bool.and_assoc, List.append_assoc]

/-- the apart facts with more that stays -/
theorem Apart.more {R R' : Led} {xd Nm lt kp : Addr} (h : Apart R xd Nm lt kp) (hs : ∀ q ∈ R', q ∈ R ∨ (q.1 ≠ xd ∧ q.1 ≠ Nm ∧ q.1 ≠ lt ∧ q.1 ≠ kp)) : Apart R' xd Nm lt kp :=
  ⟨h.a1, h.a2, h.a3, h.a4, h.a5, h.a6, fun q hq => (hs q hq).elim (h.r1 q) fun h => h.1, fun q hq => (hs q hq).elim (h.r2 q) fun h => h.2.1, fun q hq => (hs q hq).elim (h.r3 q) fun h => h.2.2.1, fun q hq => (hs q hq).elim (h.r4 q) fun h => h.2.2.2, h.lo⟩

inductive GoJ (w : World) (tab : Nat → Option Th) (R R0 : Led) (x xd kn Nm lt kp : Addr) (is : List Th) (st : Ps) (i : Nat) (m : PySem.Str → Option Value) (nx : Led) : Prop
  | ex (st' : Ps) (o : Obj) (t : Tok) (n : Nat) (ln : Nat) (kl : Nat) (tl : Led) (h1 : m (Str.ofString "self") = some (.ref x)) (h2 : st.step (Th.spans (is.take i)) (Th.runs (is.take i) st.known) st'.xs = st') (h3 : nx = (xd, o) :: (Nm, lstO (nmL st'.known t) n) :: (lt, lstO (st'.late.map Value.ref) ln) :: (kp, keptO w st'.xs kl) :: (tl ++ R)) (h4 : PassD w kn kp st'.pl lt st'.right o) (h5 : KeptOk w (tl ++ R0) tab st'.xs) (h6 : Apart (tl ++ R) xd Nm lt kp) (h7 : ∀ q ∈ R, ∀ p ∈ tl, q.1 ≠ p.1)
theorem GoJ.elim {w : World} {tab : Nat → Option Th} {R R0 : Led} {x xd kn Nm lt kp : Addr} {is : List Th} {st : Ps} {i : Nat} {m : PySem.Str → Option Value} {P : Led → Prop} (k : ∀ (st' : Ps) (o : Obj) (t : Tok) (n ln kl : Nat) (tl : Led), m (Str.ofString "self") = some (.ref x) → st.step (Th.spans (is.take i)) (Th.runs (is.take i) st.known) st'.xs = st' → PassD w kn kp st'.pl lt st'.right o → KeptOk w (tl ++ R0) tab st'.xs → Apart (tl ++ R) xd Nm lt kp → ((∀ q ∈ R, ∀ p ∈ tl, q.1 ≠ p.1)) → P ((xd, o) :: (Nm, lstO (nmL st'.known t) n) :: (lt, lstO (st'.late.map Value.ref) ln) :: (kp, keptO w st'.xs kl) :: (tl ++ R))) : ∀ nx, GoJ w tab R R0 x xd kn Nm lt kp is st i m nx → P nx := by
  intro nx h
  obtain ⟨st', o, t, n, ln, kl, tl, h1, h2, rfl, h3, h4, h5, h6⟩ := h
  exact k st' o t n ln kl tl h1 h2 h3 h4 h5 h6

theorem szs_take : ∀ (is : List Th) (i : Nat), Th.szs (is.take i) ≤ Th.szs is
  | [], _ => by simp
  | j :: is, 0 => by simp [Th.szs]
  | j :: is, i + 1 => by
    have := szs_take is i
    exact Nat.add_le_add_left this _
theorem szs_snoc {th : Th} : ∀ {is : List Th} {i : Nat}, is[i]? = some th → Th.szs (is.take (i + 1)) = Th.szs (is.take i) + th.sz
  | [], _, h => by cases h
  | j :: is, 0, h => by cases h; simp [Th.szs]
  | j :: is, i + 1, h => by
    have ih := szs_snoc (is := is) (i := i) (by simpa using h)
    simp only [List.take_succ_cons, Th.szs, ih, Nat.add_assoc]

theorem go_seq (w : World) (tab : Nat → Option Th) (tup : Bool) (a : Addr) (na : Nat) (is : List Th) (hwf : ∀ i ∈ is, ThWf i) (ih : ∀ i ∈ is, GoOk w tab i) : GoOk w tab (.seq tup a na is) := by
  intro R R0 x xd kn kd S C Nm lt kp od o n1 n3 n ln kl t st h0 hfix hap hpd hko hok hsz
  have hfix' := hfix
  obtain ⟨f1, f2, f3, f4, f5, f6⟩ := hfix
  have hpd' := hpd
  obtain ⟨q1, q2, q3, q4, q5, q6, rfl⟩ := hpd
  obtain ⟨hin, hcov⟩ := hok
  refine hin.atSeq ?_
  intro hm hl his
  cases hcov with | seq hcv =>
  show Cn w 259 [.ref x, .ref a] _ _ R _
  unfold MutL
  unfold Cn; k_fill; intro dp un gd A₀ base h₀ outer env L m s pp loose mean mg mb Q B F X N T hf hk hd hu hret
  simp only [List.cons_append, List.nil_append] at N
  k_dflt (refine' code_def ?k1 ?k2 ?k3 ?k4 ?k5 ?kA ?kF ?kK ?k6 ?k7 ?k8 ?k9 ?kB ?_ ?c2 ?c3 ?c4 ?c5; (case kA => exact rfl); (case kF => assumption); (case kK => assumption); (case k1 => k_asm); (case k2 => k_asm); (case k3 => k_asm); (case k4 => k_asm); (case k5 => k_asm); (case k6 => k_is); (case k7 => k_is); (case k8 => ktr_room); (case k9 => first | exact BindsTo.of_eq rfl | exact binds_K (by k_in) rfl (by k_is) rfl rfl rfl); (case c5 => decide); (case kB => exact locs rfl); (case c2 => exact rfl); (case c3 => exact rfl); (case c4 => exact rfl); k_whole; intro g' L' h' FG' F' N' B' X' T'; (try dsimp only); (try k_fold); (refine frame_name F' ?_); clear F'; intro mm' F' hfr')
  k_steps
  (rename News _ L' _ (_ :: _ :: _ :: _ :: _ :: R) => kN)
  (rename _ ∧ _ ∧ _ ∧ _ ∧ AllLt _ R => kL)
  (rename Fr _ L' _ _ => kF)
  have hm' : ∀ (e : Addr × Obj) (l : Led), (a, sqO tup (is.map Th.val) na) ∈ e :: e :: e :: e :: (l ++ R) := fun e l => .tail _ (.tail _ (.tail _ (.tail _ (List.mem_append_right _ hm))))
  refine loop_sq (GoJ w tab R R0 x xd kn Nm lt kp is st) rfl (.tail _ (.tail _ (.tail _ (.tail _ (List.mem_append_right _ hm))))) kF (rot5 kN) ⟨st, _, t, n, ln, kl, [_], by tb_rel, by rw [List.take_zero]; exact step_nil st, rfl, hpd', hko.mono fun p hp => List.mem_append_right _ hp, ?_, ?_⟩ ?_ ?_
  · refine hap.more fun q hq => ?_
    rcases List.mem_append.mp hq with hq | hq
    · rw [List.mem_singleton.mp hq]
      exact .inr ⟨Nat.ne_of_gt kL.1, Nat.ne_of_gt kL.2.1, Nat.ne_of_gt kL.2.2.1, Nat.ne_of_gt kL.2.2.2.1⟩
    · exact .inl hq
  · intro q hq p hp
    rw [List.mem_singleton.mp hp]
    exact Nat.ne_of_lt (kL.2.2.2.2.of q hq)
  · clear kN kF kL
    intro I i v m₁ news₁ h tk oI hv hI1 hI2 hmem hJ0
    revert hI2 hmem
    revert hJ0
    revert news₁
    refine GoJ.elim ?_
    intro st' o' t' n' ln' kl' tl e1 e2 hpd₁ hko₁ hap₁ hord hI2 hmem F₁ N₁
    have hpd₂ := hpd₁
    obtain ⟨r1, r2, r3, r4, r5, r6, rfl⟩ := hpd₁
    k_steps
    obtain ⟨th, hth, rfl, hmi, hle⟩ := map_get hv
    have hin' := his th hmi
    have key := ih th hmi ((I, oI) :: (tl ++ R)) (tl ++ R0) x xd kn kd S C Nm lt kp od _ n1 n3 n' ln' kl' t' st' (fun p hp => .tail _ ((List.mem_append.mp hp).elim (List.mem_append_left _) fun h => List.mem_append_right _ (h0 p h))) (hfix'.mono fun p hp => .tail _ (List.mem_append_right _ hp)) (hap₁.more fun q hq => ?_) hpd₂ hko₁
      ⟨hin'.mono fun p hp => .tail _ (List.mem_append_right _ hp), ?_⟩ ?_
    · refine key _ _ _ _ _ _ _ _ _ _ _ _ _ _ _ _ _ (by assumption) (by assumption) (by assumption) ?_ (by assumption) rfl rfl ?_ ?_ ?_
      · exact News.sub N₁ (by unfold MutL; array_get_dec)
      · show dp + 1 + _ < _; unfold Th.ht at hd; omega
      · show un + 3 + _ < _; unfold Th.ht at hu; omega
      · refine GoPost.out ?_
        intro o₂ t₂ n₂ ln₂ kl₂ xs₂ tl' h'' tk' hpd₃ hko₃ F₂ N₂ hfr
        dsimp only
        have e3 : st.step (Th.spans (is.take (i + 1))) (Th.runs (is.take (i + 1)) st.known) xs₂ = st'.step th.span (th.run st'.known) xs₂ := by
          rw [spans_snoc hth, runs_snoc _ hth, ← step_join st _ _ (Th.runs (is.take i)) th.run st'.xs xs₂, e2]
        k_steps
        have hI3 : ∀ p ∈ tl', p.1 ≠ I := fun p hp => Ne.symm (hfr (I, oI) (List.mem_append_right _ (.head _)) p hp)
        have hI4 : ∀ p ∈ tl ++ R, p.1 ≠ I := fun p hp => hI2 p (.tail _ (.tail _ (.tail _ (.tail _ hp))))
        have hx1 : xd ≠ I := hI2 (xd, _) (.head _)
        have hx2 : Nm ≠ I := hI2 (Nm, _) (.tail _ (.head _))
        have hx3 : lt ≠ I := hI2 (lt, _) (.tail _ (.tail _ (.head _)))
        have hx4 : kp ≠ I := hI2 (kp, _) (.tail _ (.tail _ (.tail _ (.head _))))
        have hM : ∀ p ∈ tl', p.1 ≠ xd ∧ p.1 ≠ Nm ∧ p.1 ≠ lt ∧ p.1 ≠ kp := fun p hp => ⟨Ne.symm (hfr (xd, _) (.head _) p hp), Ne.symm (hfr (Nm, _) (.tail _ (.head _)) p hp), Ne.symm (hfr (lt, _) (.tail _ (.tail _ (.head _))) p hp), Ne.symm (hfr (kp, _) (.tail _ (.tail _ (.tail _ (.head _)))) p hp)⟩
        refine SqEnd.intro (nx := MutL w xd Nm lt kp o₂ t₂ n₂ ln₂ kl₂ (st'.step th.span (th.run st'.known) xs₂) ++ ((tl' ++ tl) ++ R)) (by assumption) (News.sub N₂ ?_) ?_ ?_ ⟨st'.step th.span (th.run st'.known) xs₂, o₂, t₂, n₂, ln₂, kl₂, tl' ++ tl, by tb_rel, e3, rfl, hpd₃, by rw [List.append_assoc]; exact hko₃, hap₁.more ?_, ?_⟩
        · array_get_dec
        · exact all_led (all_cons (by assumption) (all_cons (by assumption) (all_cons (by assumption) (all_cons (by assumption) all_nil)))) (by rw [List.append_assoc]; exact all_led hI3 hI4)
        · exact List.mem_append_right _ (List.mem_append_right _ hm)
        · intro p hp
          rw [List.append_assoc] at hp
          exact (List.mem_append.mp hp).elim (fun h => .inr (hM p h)) .inl
        · exact fun q hq => all_led (hfr q (List.mem_append_right _ (.tail _ (List.mem_append_right _ hq)))) (hord q hq)
    · rcases List.mem_cons.mp hq with rfl | hq
      · exact .inr ⟨Ne.symm (hI2 (xd, _) (.head _)), Ne.symm (hI2 (Nm, _) (.tail _ (.head _))), Ne.symm (hI2 (lt, _) (.tail _ (.tail _ (.head _)))), Ne.symm (hI2 (kp, _) (.tail _ (.tail _ (.tail _ (.head _)))))⟩
      · exact .inl hq
    · have := hcv i th hth
      rw [← e2]
      exact this
    · have h1 := szs_take is (i + 1)
      rw [szs_snoc hth] at h1
      have h2 := late_runs (is := is.take i) (fun j hj => late_sz (hwf j (List.mem_of_mem_take hj))) st.known
      rw [← e2]
      simp only [Ps.step, List.length_append]
      exact Nat.le_trans (Nat.le_of_eq (Nat.add_assoc _ _ _)) (Nat.le_trans (Nat.add_le_add_left (Nat.le_trans (Nat.add_le_add_right h2 _) h1) _) hsz)
  · clear kN kF kL
    intro m₁ nx h tk hmem hJ0
    revert hmem
    revert hJ0
    revert nx
    refine GoJ.elim ?_
    intro st' o' t' n' ln' kl' tl e1 e2 hpd₁ hko₁ hap₁ hord hmem F₁ N₁
    k_steps
    rw [List.length_map, List.take_length] at e2
    refine hret _ [_, _, _, _] tl _ _ (by assumption) (by assumption) ?_ (GoPost.intro st' e2 hpd₁ hko₁)
    intro q hq p hp
    rcases List.mem_append.mp hq with hq | hq
    · have hp' := List.mem_append_left R hp
      simp only [List.mem_cons, List.not_mem_nil, or_false] at hq
      rcases hq with rfl | rfl | rfl | rfl
      · exact Ne.symm (hap₁.r1 p hp')
      · exact Ne.symm (hap₁.r2 p hp')
      · exact Ne.symm (hap₁.r3 p hp')
      · exact Ne.symm (hap₁.r4 p hp')
    · exact hord q hq p hp
section
variable {prog : Program} {w : World} {A : Around} {E : Value → Shared → Prop} {s : Shared} {Q : Value → Shared → Prop}
/-- a kind of which it is only known that it is one of some -/
theorem in_kd {t : Addr} {items : Array Value} {ys : List PySem.Str} {x : PySem.Str} {u : Tok} (b : Bool) {T : List PySem.Str → Bool} (hk : ∀ ys, T ys = b → ys.any (· == x) = b) (ht : IsTup s.heap t items) (hi : StrsAre items.toList ys) (d : T ys = b) (h : Q (.bool b) s) :
    wpAny (model prog w) A (compareOp .In (.str x u) (.ref t)) Q E s := in_tuple_strs ht hi (by rw [hk ys d]; exact h)
theorem eq_kd {y x : PySem.Str} {u v : Tok} {T : List PySem.Str → Bool} (hk : ∀ ys, T ys = false → ys.any (· == x) = false) (d : T [y] = false) (h : Q (.bool false) s) : wpAny (model prog w) A (compareOp .Eq (.str x u) (.str y v)) Q E s := by
  have e := hk [y] d
  have e2 : (x == y) = false := by
    simp only [List.any_cons, List.any_nil, Bool.or_false] at e
    rw [beq_eq_false_iff_ne] at e ⊢
    exact Ne.symm e
  exact eq_str (by rw [e2]; exact h)
end

local macro_rules | `(tactic| walk_at "compareOp In str ref") => `(tactic| (k_here; (with_reducible show wpAny _ _ (compareOp CmpOp.In (Value.str (Kd.s _) _) (Value.ref _)) _ _ _); k_dflt (first | (refine in_kd false (by assumption) (by exact News.isTup (by k_asm) (by news_mem)) (by kde_strs) (by decide) ?_) | (refine in_kd true (by assumption) (by exact News.isTup (by k_asm) (by news_mem)) (by kde_strs) (by decide) ?_))))
local macro_rules | `(tactic| walk_at "compareOp Eq str str") => `(tactic| (k_here; (with_reducible show wpAny _ _ (compareOp CmpOp.Eq (Value.str (Kd.s _) _) (Value.str _ _)) _ _ _); (refine eq_kd (by assumption) (by decide) ?_)))
noncomputable def NodeOk (w : World) (tab : Nat → Option Th) (th : Th) : Prop := GoC w tab 266 th.val th.sz th.span th.run (th.ht + 59) fun R p => ThIn w R th ∧ Cov tab p th

theorem apart_cons {R : Led} {xd Nm lt kp D : Addr} {o : Obj} (h : Apart R xd Nm lt kp) (h1 : xd < D) (h2 : Nm < D) (h3 : lt < D) (h4 : kp < D) : Apart ((D, o) :: R) xd Nm lt kp :=
  h.more fun q hq => by
    rcases List.mem_cons.mp hq with rfl | hq
    · exact .inr ⟨Nat.ne_of_gt h1, Nat.ne_of_gt h2, Nat.ne_of_gt h3, Nat.ne_of_gt h4⟩
    · exact .inl hq

noncomputable def Abv (xd Nm lt kp : Addr) (R : Led) (p : Addr × Obj) : Prop := xd < p.1 ∧ Nm < p.1 ∧ lt < p.1 ∧ kp < p.1 ∧ AllLt p.1 R
theorem apart_pre {pre R : Led} {xd Nm lt kp : Addr} (h : Apart R xd Nm lt kp) (hp : ∀ p ∈ pre, Abv xd Nm lt kp R p) : Apart (pre ++ R) xd Nm lt kp :=
  h.more fun q hq => by
    rcases List.mem_append.mp hq with hq | hq
    · exact .inr ⟨Nat.ne_of_gt (hp q hq).1, Nat.ne_of_gt (hp q hq).2.1, Nat.ne_of_gt (hp q hq).2.2.1, Nat.ne_of_gt (hp q hq).2.2.2.1⟩
    · exact .inl hq
theorem fresh_pre {pre R : Led} {xd Nm lt kp : Addr} {oa ob oc od : Obj} (hp : ∀ p ∈ pre, Abv xd Nm lt kp R p) : ∀ q ∈ [(xd, oa), (Nm, ob), (lt, oc), (kp, od)] ++ R, ∀ p ∈ pre, q.1 ≠ p.1 := by
  intro q hq p hm
  have h := hp p hm
  simp only [List.cons_append, List.nil_append, List.mem_cons] at hq
  rcases hq with rfl | rfl | rfl | rfl | hq
  · exact Nat.ne_of_lt h.1
  · exact Nat.ne_of_lt h.2.1
  · exact Nat.ne_of_lt h.2.2.1
  · exact Nat.ne_of_lt h.2.2.2.1
  · exact Nat.ne_of_lt (h.2.2.2.2.of q hq)
theorem rot_pre {h₀ h : Heap} {L : Addr} {pre R : Led} {a b c d : Addr × Obj} (N : News h₀ L h (pre ++ a :: b :: c :: d :: R)) : News h₀ L h ([a, b, c, d] ++ (pre ++ R)) :=
  News.sub N fun p hp => by
    simp only [List.nil_append, List.cons_append, List.mem_cons, List.mem_append] at hp ⊢
    simp only [or_left_comm, or_comm, or_assoc] at hp ⊢
    exact hp
/-- what an inner call's news and the ones ahead of it are to the outer ledger -/
theorem fresh_both {pre R tl : Led} {a b c d : Addr × Obj} {oa ob oc od : Obj} (h1 : ∀ q ∈ [(a.1, oa), (b.1, ob), (c.1, oc), (d.1, od)] ++ (pre ++ R), ∀ p ∈ tl, q.1 ≠ p.1) (h2 : ∀ q ∈ [a, b, c, d] ++ R, ∀ p ∈ pre, q.1 ≠ p.1) :
    ∀ q ∈ [a, b, c, d] ++ R, ∀ p ∈ tl ++ pre, q.1 ≠ p.1 := by
  intro q hq p hp
  rcases List.mem_append.mp hp with hp | hp
  · rcases List.mem_append.mp hq with hq | hq
    · simp only [List.mem_cons, List.not_mem_nil, or_false] at hq
      rcases hq with rfl | rfl | rfl | rfl
      · exact h1 _ (List.mem_append_left _ (.head _)) p hp
      · exact h1 _ (List.mem_append_left _ (.tail _ (.head _))) p hp
      · exact h1 _ (List.mem_append_left _ (.tail _ (.tail _ (.head _)))) p hp
      · exact h1 _ (List.mem_append_left _ (.tail _ (.tail _ (.tail _ (.head _))))) p hp
    · exact h1 q (List.mem_append_right _ (List.mem_append_right _ hq)) p hp
  · exact h2 q hq p hp

theorem rot_nm {h₀ h : Heap} {L : Addr} {pre R : Led} {a b c d : Addr × Obj} (N : News h₀ L h (b :: (pre ++ a :: c :: d :: R))) : News h₀ L h ([a, b, c, d] ++ (pre ++ R)) :=
  News.sub N fun p hp => by
    simp only [List.nil_append, List.cons_append, List.mem_cons, List.mem_append] at hp ⊢
    simp only [or_left_comm, or_comm, or_assoc] at hp ⊢
    exact hp

theorem go_of_node (w : World) (tab : Nat → Option Th) (k : Kd) (a p : Addr) (is : List Th) (ih : NodeOk w tab (.node k a p is)) : GoOk w tab (.node k a p is) := by
  intro R R0 x xd kn kd S C Nm lt kp od o n1 n3 n ln kl t st h0 hfix hap hpd hko hok hsz
  have hfix' := hfix
  obtain ⟨f1, f2, f3, f4, f5, f6⟩ := hfix
  have hpd' := hpd
  obtain ⟨q1, q2, q3, q4, q5, q6, rfl⟩ := hpd
  have hok' := hok
  obtain ⟨hin, hcov⟩ := hok
  refine hin.atNodeO ?_
  intro d nn v1 v2 v3 v4 v5 v6 g1 g2 g4 hl his
  show Cn w 259 [.ref x, .ref a] _ _ R _
  unfold MutL
  unfold Cn; k_fill; intro dp un gd A₀ base h₀ outer env L m s pp loose mean mg mb Q B F X N T hf hk hd hu hret
  simp only [List.cons_append, List.nil_append] at N
  k_dflt (refine' code_def ?k1 ?k2 ?k3 ?k4 ?k5 ?kA ?kF ?kK ?k6 ?k7 ?k8 ?k9 ?kB ?_ ?c2 ?c3 ?c4 ?c5; (case kA => exact rfl); (case kF => assumption); (case kK => assumption); (case k1 => k_asm); (case k2 => k_asm); (case k3 => k_asm); (case k4 => k_asm); (case k5 => k_asm); (case k6 => k_is); (case k7 => k_is); (case k8 => ktr_room); (case k9 => first | exact BindsTo.of_eq rfl | exact binds_K (by k_in) rfl (by k_is) rfl rfl rfl); (case c5 => decide); (case kB => exact locs rfl); (case c2 => exact rfl); (case c3 => exact rfl); (case c4 => exact rfl); k_whole; intro g' L' h' FG' F' N' B' X' T'; (try dsimp only); (try k_fold); (refine frame_name F' ?_); clear F'; intro mm' F' hfr')
  k_steps
  (rename News _ L' _ (_ :: _ :: _ :: _ :: _ :: R) => kN)
  (rename _ ∧ _ ∧ _ ∧ _ ∧ AllLt _ R => kL)
  rename_i D _ _ _ _ _ _ _ _ _
  refine cps (fun cG => ∀ oD, News g' L' _ ((D, oD) :: _ :: _ :: _ :: _ :: R) → (xd < D ∧ Nm < D ∧ lt < D ∧ kp < D ∧ AllLt D R) → cG) ?_ (fun ck => ck _ kN kL)
  intro oD kN kL
  have key := ih ((D, oD) :: R) R0 x xd kn kd S C Nm lt kp od _ n1 n3 n ln kl t st (fun p hp => .tail _ (h0 p hp)) (hfix'.mono fun p hp => .tail _ hp) (apart_cons hap kL.1 kL.2.1 kL.2.2.1 kL.2.2.2.1) hpd' hko ⟨hok'.1.mono fun p hp => .tail _ hp, hok'.2⟩ hsz
  refine key _ _ _ _ _ _ _ _ _ _ _ _ _ _ _ _ _ (by assumption) (by assumption) (by assumption) ?_ (by assumption) rfl rfl ?_ ?_ ?_
  · exact News.sub kN (by unfold MutL; array_get_dec)
  · first | exact room1 hd (by decide) | (show dp + 1 + _ < _; omega)
  · first | exact room2 hu (by decide) | (show un + 3 + _ < _; omega)
  · refine GoPost.out ?_
    intro o₂ t₂ n₂ ln₂ kl₂ xs₂ tl' h'' tk' hpd₃ hko₃ F₂ N₂ hfr
    dsimp only
    k_steps
    refine hret _ _ (tl' ++ [(D, oD)]) _ _ (by assumption) (News.sub (by assumption) ?_) ?_ ⟨rfl, o₂, t₂, n₂, ln₂, kl₂, xs₂, rfl, hpd₃, hko₃.mono ?_⟩
    · array_get_dec
    · intro q hq p hp
      rcases List.mem_append.mp hp with hp | hp
      · refine hfr q ?_ p hp
        rcases List.mem_append.mp hq with hq | hq
        · exact List.mem_append_left _ hq
        · exact List.mem_append_right _ (.tail _ hq)
      · exact fresh5 kL q hq p hp
    · array_get_dec

theorem node_name (w : World) (tab : Nat → Option Th) (k : Kd) (a p : Addr) (t0 : Tok) (hk0 : k = .lvar ∨ k = .vcall) : NodeOk w tab (.node k a p [.str t0]) := by
  intro R R0 x xd kn kd S C Nm lt kp od o n1 n3 n ln kl t st h0 hfix hap hpd hko hok hsz
  have hfix' := hfix
  obtain ⟨f1, f2, f3, f4, f5, f6⟩ := hfix
  have f4' := f4
  obtain ⟨u1, u2, rfl⟩ := f4
  obtain ⟨q1, q2, q3, q4, q5, q6, rfl⟩ := hpd
  obtain ⟨hin, hcov⟩ := hok
  refine hin.atNodeO ?_
  intro d nn v1 v2 v3 v4 v5 v6 g1 g2 g4 hl his
  have ha1 := hap.a1
  have ha2 := hap.a2
  have ha3 := hap.a3
  have hr1 := hap.r1
  obtain ⟨pl, right, known, late, xs⟩ := st
  show Cn w 266 [.ref x, .ref a] _ _ R _
  unfold MutL
  dsimp only at *
  rcases hk0 with rfl | rfl
  all_goals
    cases right
    · unfold Cn; k_fill; intro dp un gd A₀ base h₀ outer env L m s pp loose mean mg mb Q B F X N T hf hk hd hu hret
      simp only [List.cons_append, List.nil_append] at N
      k_dflt (refine' code_def ?k1 ?k2 ?k3 ?k4 ?k5 ?kA ?kF ?kK ?k6 ?k7 ?k8 ?k9 ?kB ?_ ?c2 ?c3 ?c4 ?c5; (case kA => exact rfl); (case kF => assumption); (case kK => assumption); (case k1 => k_asm); (case k2 => k_asm); (case k3 => k_asm); (case k4 => k_asm); (case k5 => k_asm); (case k6 => k_is); (case k7 => k_is); (case k8 => ktr_room); (case k9 => first | exact BindsTo.of_eq rfl | exact binds_K (by k_in) rfl (by k_is) rfl rfl rfl); (case c5 => decide); (case kB => exact locs rfl); (case c2 => exact rfl); (case c3 => exact rfl); (case c4 => exact rfl); k_whole; intro g' L' h' FG' F' N' B' X' T'; (try dsimp only); (try k_fold); (refine frame_name F' ?_); clear F'; intro mm' F' hfr')
      k_steps
      (rename News h₀ L _ (_ :: _ :: _ :: _ :: _ :: R) => kN)
      (rename _ ∧ _ ∧ _ ∧ _ ∧ AllLt _ R => kL)
      exact hret _ _ _ _ _ (by assumption) (rot5 kN) (fresh5 kL) (GoPost.intro ⟨pl + 1, false, known, late, xs⟩ (by simp [Ps.step, span_lvar, span_vcall, run_lvar, run_vcall]) ⟨_, _, _, _, _, _, rfl⟩ (hko.mono fun p hp => List.mem_append_right _ hp))
    · unfold Cn; k_fill; intro dp un gd A₀ base h₀ outer env L m s pp loose mean mg mb Q B F X N T hf hk hd hu hret
      simp only [List.cons_append, List.nil_append] at N
      k_dflt (refine' code_def ?k1 ?k2 ?k3 ?k4 ?k5 ?kA ?kF ?kK ?k6 ?k7 ?k8 ?k9 ?kB ?_ ?c2 ?c3 ?c4 ?c5; (case kA => exact rfl); (case kF => assumption); (case kK => assumption); (case k1 => k_asm); (case k2 => k_asm); (case k3 => k_asm); (case k4 => k_asm); (case k5 => k_asm); (case k6 => k_is); (case k7 => k_is); (case k8 => ktr_room); (case k9 => first | exact BindsTo.of_eq rfl | exact binds_K (by k_in) rfl (by k_is) rfl rfl rfl); (case c5 => decide); (case kB => exact locs rfl); (case c2 => exact rfl); (case c3 => exact rfl); (case c4 => exact rfl); k_whole; intro g' L' h' FG' F' N' B' X' T'; (try dsimp only); (try k_fold); (refine frame_name F' ?_); clear F'; intro mm' F' hfr')
      k_steps
      (rename News _ L' _ (_ :: _ :: _ :: _ :: _ :: R) => kN)
      (rename _ ∧ _ ∧ _ ∧ _ ∧ AllLt _ R => kL)
      refine knows_ok w _ kn kd S Nm C _ known t _ n1 n n3 ?m1 ?m2 f4' ?m4 ?m5 ?m6 _ _ _ _ _ _ _ _ _ _ _ _ _ _ _ _ _ (by assumption) (by assumption) (by assumption) kN (by assumption) rfl rfl ?_ ?_ ?_
      case m1 => k_mem
      case m2 => k_mem
      case m4 => k_mem
      case m5 => k_mem
      case m6 => k_mem
      · first | exact room1 hd (by decide) | (show dp + 1 + _ < _; omega)
      · first | exact room2 hu (by decide) | (show un + 3 + _ < _; omega)
      · refine out0 ?_
        intro h'' tk' F₂ N₂
        dsimp only
        cases known
        all_goals
          k_steps
          (rename News h₀ L _ (_ :: _ :: _ :: _ :: _ :: R) => kN')
          exact hret _ _ _ _ _ (by assumption) (rot5 kN') (fresh5 kL) (GoPost.intro ⟨pl + 1, _, _, late, xs⟩ (by simp [Ps.step, span_lvar, span_vcall, run_lvar, run_vcall] <;> first | rfl | exact ne_of_beq_false (by kernel_rfl)) ⟨_, _, _, _, _, _, rfl⟩ (hko.mono fun p hp => List.mem_append_right _ hp))

theorem node_tloc (w : World) (tab : Nat → Option Th) (a p : Addr) (t0 : Tok) : NodeOk w tab (.node .tloc a p [.str t0]) := by
  intro R R0 x xd kn kd S C Nm lt kp od o n1 n3 n ln kl t st h0 hfix hap hpd hko hok hsz
  have hfix' := hfix
  obtain ⟨f1, f2, f3, f4, f5, f6⟩ := hfix
  have f4' := f4
  obtain ⟨u1, u2, rfl⟩ := f4
  obtain ⟨q1, q2, q3, q4, q5, q6, rfl⟩ := hpd
  obtain ⟨hin, hcov⟩ := hok
  refine hin.atNodeO ?_
  intro d nn v1 v2 v3 v4 v5 v6 g1 g2 g4 hl his
  have ha1 := hap.a1
  have ha2 := hap.a2
  have ha3 := hap.a3
  have ha4 := hap.a4
  have ha5 := hap.a5
  have hr1 := hap.r1
  have hr2 := hap.r2
  obtain ⟨pl, right, known, late, xs⟩ := st
  show Cn w 266 [.ref x, .ref a] _ _ R _
  unfold MutL
  dsimp only at *
  unfold Cn; k_fill; intro dp un gd A₀ base h₀ outer env L m s pp loose mean mg mb Q B F X N T hf hk hd hu hret
  simp only [List.cons_append, List.nil_append] at N
  k_dflt (refine' code_def ?k1 ?k2 ?k3 ?k4 ?k5 ?kA ?kF ?kK ?k6 ?k7 ?k8 ?k9 ?kB ?_ ?c2 ?c3 ?c4 ?c5; (case kA => exact rfl); (case kF => assumption); (case kK => assumption); (case k1 => k_asm); (case k2 => k_asm); (case k3 => k_asm); (case k4 => k_asm); (case k5 => k_asm); (case k6 => k_is); (case k7 => k_is); (case k8 => ktr_room); (case k9 => first | exact BindsTo.of_eq rfl | exact binds_K (by k_in) rfl (by k_is) rfl rfl rfl); (case c5 => decide); (case kB => exact locs rfl); (case c2 => exact rfl); (case c3 => exact rfl); (case c4 => exact rfl); k_whole; intro g' L' h' FG' F' N' B' X' T'; (try dsimp only); (try k_fold); (refine frame_name F' ?_); clear F'; intro mm' F' hfr')
  k_steps
  (rename News _ L' _ (_ :: _ :: _ :: _ :: _ :: _ :: R) => kN)
  (rename _ ∧ _ ∧ _ ∧ _ ∧ AllLt _ R => k1)
  (rename _ ∧ _ ∧ _ ∧ _ ∧ _ ∧ AllLt _ R => k2)
  refine cps (fun cG => ∀ (pre : Led) (o' : Obj), News g' L' _ (pre ++ (xd, o') :: (Nm, lstO (nmL known t) n) :: (lt, lstO (late.map Value.ref) ln) :: (kp, keptO w xs kl) :: R) → (∀ p ∈ pre, Abv xd Nm lt kp R p) → PassD w kn kp ((pl + 1 : Nat) : Int) lt right o' → cG) ?_ (fun ck => ck ([_, _]) _ kN (List.forall_mem_cons.mpr ⟨k2.2, List.forall_mem_cons.mpr ⟨k1, fun _ h => nomatch h⟩⟩) ⟨_, _, _, _, _, _, rfl⟩)
  intro pre o' kN hp ho'
  have key := declare_ok w (pre ++ (xd, o') :: (lt, lstO (late.map Value.ref) ln) :: (kp, keptO w xs kl) :: R) kn kd S Nm C _ known t t0 n1 n n3 (by k_mem) (by k_mem) f4' (by k_mem) (by k_mem) ?_
  · refine key.ne _ _ _ _ _ _ _ _ _ _ _ _ _ _ _ _ _ (by assumption) (by assumption) (by assumption) ?_ (by assumption) rfl rfl ?_ ?_ ?_
    · exact News.sub kN (by array_get_dec)
    · first | exact room1 hd (by decide) | (show dp + 1 + _ < _; omega)
    · first | exact room2 hu (by decide) | (show un + 3 + _ < _; omega)
    · refine out1 ?_
      intro t' n' h'' tk' F₂ N₂
      dsimp only
      k_steps
      (rename News h₀ L _ (_ :: (pre ++ _)) => kN')
      refine hret _ _ _ _ _ (by assumption) (rot_nm kN') (fresh_pre hp) (GoPost.intro ⟨pl + 1, right, true, late, xs⟩ (by simp [Ps.step, span_tloc, run_tloc]) ho' (hko.mono fun p hp => List.mem_append_right _ hp))
  · intro q hq
    rcases List.mem_append.mp hq with hq | hq
    · exact Nat.ne_of_gt (hp q hq).2.1
    simp only [List.mem_cons] at hq
    rcases hq with rfl | rfl | rfl | hq
    · exact ha1
    · exact Ne.symm ha4
    · exact Ne.symm ha5
    · exact hr2 q hq

theorem node_plain (w : World) (tab : Nat → Option Th) (k : Kd) (a p : Addr) (is : List Th) (hk0 : k = .int ∨ k = .asg ∨ k = .seq) (ih : ∀ nn, GoOk w tab (.seq true p nn is)) : NodeOk w tab (.node k a p is) := by
  intro R R0 x xd kn kd S C Nm lt kp od o n1 n3 n ln kl t st h0 hfix hap hpd hko hok hsz
  have hfix' := hfix
  obtain ⟨f1, f2, f3, f4, f5, f6⟩ := hfix
  obtain ⟨q1, q2, q3, q4, q5, q6, rfl⟩ := hpd
  obtain ⟨hin, hcov⟩ := hok
  refine hin.atNodeO ?_
  intro d nn v1 v2 v3 v4 v5 v6 g1 g2 g4 hl his
  have ha1 := hap.a1
  have ha2 := hap.a2
  have ha3 := hap.a3
  have hr1 := hap.r1
  obtain ⟨pl, right, known, late, xs⟩ := st
  show Cn w 266 [.ref x, .ref a] _ _ R _
  unfold MutL
  dsimp only at *
  have he : ∀ ys, (Ps.mk (pl + 1) right known late xs).step (Th.seq true p nn is).span ((Th.seq true p nn is).run known) ys = (Ps.mk pl right known late xs).step (Th.node k a p is).span ((Th.node k a p is).run known) ys := fun ys => by
    rw [span_plain hk0, run_plain hk0]
    exact step_plain
  have hkno : ∀ ys : List PySem.Str, (ys.any (· == Kd.s .int) || ys.any (· == Kd.s .asg) || ys.any (· == Kd.s .seq)) = false → ys.any (· == Kd.s k) = false := by
    intro ys h
    simp only [Bool.or_eq_false_iff] at h
    rcases hk0 with rfl | rfl | rfl
    · exact h.1.1
    · exact h.1.2
    · exact h.2
  unfold Cn; k_fill; intro dp un gd A₀ base h₀ outer env L m s pp loose mean mg mb Q B F X N T hf hk hd hu hret
  simp only [List.cons_append, List.nil_append] at N
  k_dflt (refine' code_def ?k1 ?k2 ?k3 ?k4 ?k5 ?kA ?kF ?kK ?k6 ?k7 ?k8 ?k9 ?kB ?_ ?c2 ?c3 ?c4 ?c5; (case kA => exact rfl); (case kF => assumption); (case kK => assumption); (case k1 => k_asm); (case k2 => k_asm); (case k3 => k_asm); (case k4 => k_asm); (case k5 => k_asm); (case k6 => k_is); (case k7 => k_is); (case k8 => ktr_room); (case k9 => first | exact BindsTo.of_eq rfl | exact binds_K (by k_in) rfl (by k_is) rfl rfl rfl); (case c5 => decide); (case kB => exact locs rfl); (case c2 => exact rfl); (case c3 => exact rfl); (case c4 => exact rfl); k_whole; intro g' L' h' FG' F' N' B' X' T'; (try dsimp only); (try k_fold); (refine frame_name F' ?_); clear F'; intro mm' F' hfr')
  k_steps
  (rename News _ L' _ (_ :: _ :: _ :: _ :: _ :: _ :: _ :: _ :: _ :: _ :: R) => kN)
  (rename _ ∧ _ ∧ _ ∧ _ ∧ AllLt _ R => k1)
  (rename _ ∧ _ ∧ _ ∧ _ ∧ _ ∧ AllLt _ R => k2)
  (rename _ ∧ _ ∧ _ ∧ _ ∧ _ ∧ _ ∧ AllLt _ R => k3)
  (rename _ ∧ _ ∧ _ ∧ _ ∧ _ ∧ _ ∧ _ ∧ AllLt _ R => k4)
  (rename _ ∧ _ ∧ _ ∧ _ ∧ _ ∧ _ ∧ _ ∧ _ ∧ AllLt _ R => k5)
  (rename _ ∧ _ ∧ _ ∧ _ ∧ _ ∧ _ ∧ _ ∧ _ ∧ _ ∧ AllLt _ R => k6)
  refine cps (fun cG => ∀ (pre : Led) (o' : Obj), News g' L' _ (pre ++ (xd, o') :: (Nm, lstO (nmL known t) n) :: (lt, lstO (late.map Value.ref) ln) :: (kp, keptO w xs kl) :: R) → (∀ p ∈ pre, Abv xd Nm lt kp R p) → PassD w kn kp ((pl + 1 : Nat) : Int) lt right o' → cG) ?_ (fun ck => ck ([_, _, _, _, _, _]) _ kN (List.forall_mem_cons.mpr ⟨k6.2.2.2.2.2, List.forall_mem_cons.mpr ⟨k5.2.2.2.2, List.forall_mem_cons.mpr ⟨k4.2.2.2, List.forall_mem_cons.mpr ⟨k3.2.2, List.forall_mem_cons.mpr ⟨k2.2, List.forall_mem_cons.mpr ⟨k1, fun _ h => nomatch h⟩⟩⟩⟩⟩⟩) ⟨_, _, _, _, _, _, rfl⟩)
  intro pre o' kN hp ho'
  have hcv : Cov tab (pl + 1) (.seq true p nn is) := cov_plain hk0 hcov
  have key := ih nn (pre ++ R) R0 x xd kn kd S C Nm lt kp od o' n1 n3 n ln kl t ⟨pl + 1, right, known, late, xs⟩ (fun p hp => List.mem_append_right _ (h0 p hp)) (hfix'.mono fun p hp => List.mem_append_right _ hp) (apart_pre hap hp) ho' hko
    ⟨(ThIn.seq g4 hl his).mono fun p hp => List.mem_append_right _ hp, hcv⟩ (sz_seq hsz)
  refine key _ _ _ _ _ _ _ _ _ _ _ _ _ _ _ _ _ (by assumption) (by assumption) (by assumption) (rot_pre kN) (by assumption) rfl rfl ?_ ?_ ?_
  · exact room1 hd (Nat.le_succ_of_le ht_plain)
  · exact room2 hu (Nat.le_succ_of_le ht_plain)
  · refine GoPost.out ?_
    intro o₂ t₂ n₂ ln₂ kl₂ xs₂ tl' h'' tk' hpd₃ hko₃ F₂ N₂ hfr
    dsimp only
    rw [he] at hpd₃ N₂
    k_steps
    refine hret _ _ (tl' ++ pre) _ _ (by assumption) (News.sub (by assumption) ?_) (fresh_both hfr (fresh_pre hp)) ⟨rfl, o₂, t₂, n₂, ln₂, kl₂, xs₂, rfl, hpd₃, hko₃.mono ?_⟩
    · array_get_dec
    · array_get_dec

theorem row_in {w : World} {R : Led} {y : Th} (h : ThIn w R y) (hr : IsRow y) : ∃ is, RowIn w R y is ∧ y.rowLen = some is.length := by
  obtain ⟨a, p, l, n, is, rfl⟩ := hr
  refine ⟨is, ?_, rfl⟩
  cases h with | @node _ _ _ d o n' _ h1 h2 h3 h4 hl his =>
  cases his _ (.head _) with | seq hm hl' his' =>
  exact ⟨a, p, d, o, l, n, n', rfl, h1, h2, h3, h4, hm, hl'⟩

noncomputable def bodyVal (k : Kd) (y c : Th) : Value := match bodySel k y c with
  | none => .none
  | some false => y.val
  | some true => c.val

theorem body_ok (w : World) (R : Led) (k : Kd) (a p d : Addr) (o : Obj) (nn : Nat) (t y c : Th) (g1 : (a, instObj 147 d) ∈ R) (g2 : (d, o) ∈ R) (g3 : NodeD w k p o) (g4 : (p, tupO ([t, y, c].map Th.val) nn) ∈ R)
    (hk0 : k = .ifk ∨ k = .whk) (hy : ThIn w R y) (hyr : IsRow y) (hc : ThIn w R c) (hcc : c = .lit .none ∨ (k = .whk ∧ ∃ x, c = .lit (.bool x)) ∨ (k = .ifk ∧ IsRow c)) :
    Ct w 346 [.ref a] 20 [] R (fun r M' tl => r = bodyVal k y c ∧ M' = [] ∧ tl = []) := by
  obtain ⟨iy, hry, hly⟩ := row_in hy hyr
  obtain ⟨ya, yp, yl, yn, yis, rfl⟩ := hyr
  obtain ⟨t1, t2, t3, t4, t5, t6, rfl⟩ := g3
  have g4' : (p, tupO [t.val, .ref ya, c.val] nn) ∈ R := g4
  clear g4
  rcases hk0 with rfl | rfl
  · rcases hcc with rfl | ⟨h, _⟩ | ⟨_, hcr⟩
    · have g5 : (p, tupO [t.val, .ref ya, .none] nn) ∈ R := g4'
      clear g4'
      unfold Ct; k_fill; intro dp un gd A₀ base h₀ outer env L m s pp loose mean mg mb Q B F X N T hf hk hd hu hret
      simp only [List.nil_append] at N
      k_dflt (refine' code_def ?k1 ?k2 ?k3 ?k4 ?k5 ?kA ?kF ?kK ?k6 ?k7 ?k8 ?k9 ?kB ?_ ?c2 ?c3 ?c4 ?c5; (case kA => exact rfl); (case kF => assumption); (case kK => assumption); (case k1 => k_asm); (case k2 => k_asm); (case k3 => k_asm); (case k4 => k_asm); (case k5 => k_asm); (case k6 => k_is); (case k7 => k_is); (case k8 => ktr_room); (case k9 => first | exact BindsTo.of_eq rfl | exact binds_K (by k_in) rfl (by k_is) rfl rfl rfl); (case c5 => decide); (case kB => exact locs rfl); (case c2 => exact rfl); (case c3 => exact rfl); (case c4 => exact rfl); k_whole; intro g' L' h' FG' F' N' B' X' T'; (try dsimp only); (try k_fold); (refine frame_name F' ?_); clear F'; intro mm' F' hfr')
      k_steps
      refine row_of w R (.node .seq ya yp [.seq false yl yn yis]) iy hry 1 _ _ _ _ _ _ _ _ _ _ _ _ _ _ _ _ _ _ (by assumption) (by assumption) (by assumption) (by assumption) (by assumption) rfl rfl ?_ ?_ ?_
      · first | exact room1 hd (by decide) | (show dp + 1 + _ < _; omega)
      · first | exact room2 hu (by decide) | (show un + 3 + _ < _; omega)
      · refine out0 ?_
        intro h'' tk' F₂ N₂
        dsimp only
        cases hb : (iy.length == 1)
        all_goals
          k_steps
          refine hret _ [] [] _ _ (by assumption) (by assumption) (fun _ _ _ h => nomatch h) ⟨?_, rfl, rfl⟩
          simp only [beq_eq_false_iff_ne, beq_iff_eq, ne_eq] at hb
          simp [bodyVal, bodySel, isNone_none, isNone_bool, Th.val, hly, hb]
    · cases h
    · obtain ⟨ic, hrc, hlc⟩ := row_in hc hcr
      obtain ⟨ca, cp, cl, cn, cis, rfl⟩ := hcr
      have g5 : (p, tupO [t.val, .ref ya, .ref ca] nn) ∈ R := g4'
      clear g4'
      unfold Ct; k_fill; intro dp un gd A₀ base h₀ outer env L m s pp loose mean mg mb Q B F X N T hf hk hd hu hret
      simp only [List.nil_append] at N
      k_dflt (refine' code_def ?k1 ?k2 ?k3 ?k4 ?k5 ?kA ?kF ?kK ?k6 ?k7 ?k8 ?k9 ?kB ?_ ?c2 ?c3 ?c4 ?c5; (case kA => exact rfl); (case kF => assumption); (case kK => assumption); (case k1 => k_asm); (case k2 => k_asm); (case k3 => k_asm); (case k4 => k_asm); (case k5 => k_asm); (case k6 => k_is); (case k7 => k_is); (case k8 => ktr_room); (case k9 => first | exact BindsTo.of_eq rfl | exact binds_K (by k_in) rfl (by k_is) rfl rfl rfl); (case c5 => decide); (case kB => exact locs rfl); (case c2 => exact rfl); (case c3 => exact rfl); (case c4 => exact rfl); k_whole; intro g' L' h' FG' F' N' B' X' T'; (try dsimp only); (try k_fold); (refine frame_name F' ?_); clear F'; intro mm' F' hfr')
      k_steps
      refine row_of w R (.node .seq ya yp [.seq false yl yn yis]) iy hry 0 _ _ _ _ _ _ _ _ _ _ _ _ _ _ _ _ _ _ (by assumption) (by assumption) (by assumption) (by assumption) (by assumption) rfl rfl ?_ ?_ ?_
      · first | exact room1 hd (by decide) | (show dp + 1 + _ < _; omega)
      · first | exact room2 hu (by decide) | (show un + 3 + _ < _; omega)
      · refine out0 ?_
        intro h'' tk' F₂ N₂
        dsimp only
        cases hb0 : (iy.length == 0)
        · k_steps
          refine row_none w R 1 _ _ _ _ _ _ _ _ _ _ _ _ _ _ _ _ _ _ (by assumption) (by assumption) (by assumption) (by assumption) (by assumption) rfl rfl ?_ ?_ ?_
          · first | exact room1 hd (by decide) | (show dp + 1 + _ < _; omega)
          · first | exact room2 hu (by decide) | (show un + 3 + _ < _; omega)
          · refine out0 ?_
            intro h'' tk' F₂ N₂
            dsimp only
            k_steps
            refine hret _ [] [] _ _ (by assumption) (by assumption) (fun _ _ _ h => nomatch h) ⟨?_, rfl, rfl⟩
            simp only [beq_eq_false_iff_ne, ne_eq] at hb0
            have hn : (Th.node .seq ca cp [.seq false cl cn cis]).isNone = false := rfl
            simp [bodyVal, bodySel, hn, hly, hb0]
        · k_steps
          refine row_of w R (.node .seq ca cp [.seq false cl cn cis]) ic hrc 1 _ _ _ _ _ _ _ _ _ _ _ _ _ _ _ _ _ _ (by assumption) (by assumption) (by assumption) (by assumption) (by assumption) rfl rfl ?_ ?_ ?_
          · first | exact room1 hd (by decide) | (show dp + 1 + _ < _; omega)
          · first | exact room2 hu (by decide) | (show un + 3 + _ < _; omega)
          · refine out0 ?_
            intro h'' tk' F₂ N₂
            dsimp only
            cases hb : (ic.length == 1)
            all_goals
              k_steps
              refine hret _ [] [] _ _ (by assumption) (by assumption) (fun _ _ _ h => nomatch h) ⟨?_, rfl, rfl⟩
              simp only [beq_eq_false_iff_ne, beq_iff_eq, ne_eq] at hb hb0
              have hn : (Th.node .seq ca cp [.seq false cl cn cis]).isNone = false := rfl
              simp [bodyVal, bodySel, hn, hly, hlc, hb0, hb, Th.val]
  · obtain ⟨v, rfl⟩ : ∃ v, c = .lit v := by
      rcases hcc with rfl | ⟨_, x, rfl⟩ | ⟨h, _⟩
      · exact ⟨_, rfl⟩
      · exact ⟨_, rfl⟩
      · cases h
    have g5 : (p, tupO [t.val, .ref ya, v] nn) ∈ R := g4'
    clear g4'
    unfold Ct; k_fill; intro dp un gd A₀ base h₀ outer env L m s pp loose mean mg mb Q B F X N T hf hk hd hu hret
    simp only [List.nil_append] at N
    k_dflt (refine' code_def ?k1 ?k2 ?k3 ?k4 ?k5 ?kA ?kF ?kK ?k6 ?k7 ?k8 ?k9 ?kB ?_ ?c2 ?c3 ?c4 ?c5; (case kA => exact rfl); (case kF => assumption); (case kK => assumption); (case k1 => k_asm); (case k2 => k_asm); (case k3 => k_asm); (case k4 => k_asm); (case k5 => k_asm); (case k6 => k_is); (case k7 => k_is); (case k8 => ktr_room); (case k9 => first | exact BindsTo.of_eq rfl | exact binds_K (by k_in) rfl (by k_is) rfl rfl rfl); (case c5 => decide); (case kB => exact locs rfl); (case c2 => exact rfl); (case c3 => exact rfl); (case c4 => exact rfl); k_whole; intro g' L' h' FG' F' N' B' X' T'; (try dsimp only); (try k_fold); (refine frame_name F' ?_); clear F'; intro mm' F' hfr')
    k_steps
    refine row_of w R (.node .seq ya yp [.seq false yl yn yis]) iy hry 1 _ _ _ _ _ _ _ _ _ _ _ _ _ _ _ _ _ _ (by assumption) (by assumption) (by assumption) (by assumption) (by assumption) rfl rfl ?_ ?_ ?_
    · first | exact room1 hd (by decide) | (show dp + 1 + _ < _; omega)
    · first | exact room2 hu (by decide) | (show un + 3 + _ < _; omega)
    · refine out0 ?_
      intro h'' tk' F₂ N₂
      dsimp only
      cases hb : (iy.length == 1)
      all_goals
        k_steps
        refine hret _ [] [] _ _ (by assumption) (by assumption) (fun _ _ _ h => nomatch h) ⟨?_, rfl, rfl⟩
        simp only [beq_eq_false_iff_ne, beq_iff_eq, ne_eq] at hb
        simp [bodyVal, bodySel, isNone_none, isNone_bool, Th.val, hly, hb]

section
variable {prog : Program} {w : World} {A : Around} {E : Value → Shared → Prop} {s : Shared} {env : Env} {h₀ : Heap} {body : List Stmt} {Q : Flow → Shared → Prop}
theorem loopT_list {elts : List PySem.Expr} {x1 : Nat} {tpos : Pos} {l : Addr} {vs : List Value} {n : Nat} {m₀ : PySem.Str → Option Value} {news : Led} (J : Nat → (PySem.Str → Option Value) → Led → Prop)
    (hh : A.handled = none) (hm : (l, lstO vs n) ∈ news)
    (F : Fr h₀ env.locals s.heap m₀) (N : News h₀ env.locals s.heap news) (hj : J 0 m₀ news)
    (turn : ∀ I i v m₁ news₁ (s₁ : Shared) oI, vs[i]? = some v → (∀ p ∈ news, p.1 < I) → (∀ p ∈ news₁, p.1 ≠ I) → (l, lstO vs n) ∈ news₁ → J i m₁ news₁ → Fr h₀ env.locals s₁.heap m₁ → News h₀ env.locals s₁.heap ((I, oI) :: news₁) →
      wpAny (model prog w) A (assign (.Tuple elts x1 tpos) env v) (fun _ s₂ => wpAny (model prog w) A (execs body env) (fun f s₃ => f = .next ∧ SqEnd h₀ env.locals I oI (l, lstO vs n) (J (i + 1)) s₁ s₃) E s₂) E s₁)
    (done : ∀ m₁ nx h tk, (l, lstO vs n) ∈ nx → J vs.length m₁ nx → Fr h₀ env.locals h m₁ → News h₀ env.locals h nx → Q .next { s with heap := h, toks := tk }) :
    wpAny (model prog w) A (pyIter (.ref l)) (fun it s₂ => LoopAtT prog w A h₀ env (.Tuple elts x1 tpos) body Q E it s₂) E s := by
  have hls : s.heap.IsList l vs.toArray := ⟨_, (N _ hm).1, rfl, _, rfl⟩
  refine wpAny_pyIter_list hls ?_
  have hfr : ∀ p ∈ news, p.1 < s.heap.objs.size := fun p hp => Heap.lt_size (N p hp).1
  have hne : l ≠ s.heap.objs.size := Nat.ne_of_lt (hfr _ hm)
  have hl0 : h₀.get? l = none := (N _ hm).2.2
  have hlL : l ≠ env.locals := (N _ hm).2.1
  have hI0 : h₀.get? s.heap.objs.size = none := next_is_new F
  refine ex9 s.heap.objs.size _ _ _ _ (fun i h => h.IsListIter s.heap.objs.size l i ∧ h.IsList l vs.toArray) m₀ news (fun i m nx => (l, lstO vs n) ∈ nx ∧ J i m nx) ⟨rfl, Walks.list hh s.heap.objs.size l hne vs.toArray, ?_, ?_, ?_, ⟨⟨_, Heap.get?_push_size _ rfl, rfl, rfl⟩, hls.at fun o e => Heap.get?_push_of_some _ e⟩, F.push _, fun p hp => ⟨Heap.get?_push_of_some _ (N p hp).1, (N p hp).2⟩, ?_, ⟨hm, hj⟩, ?_, ?_⟩
  · intro hq
    rcases List.mem_cons.mp hq with e | hq
    · exact Nat.ne_of_gt F.ns.lt e.symm
    · exact hlL (List.mem_singleton.mp hq).symm
  · intro b hb; rw [List.mem_singleton.mp hb]; exact hI0
  · intro p hp hq; exact Nat.ne_of_lt (hfr p hp) (List.mem_singleton.mp hq)
  · rintro i s' v Q' ⟨hit, _⟩ hQ
    cases v with
    | ref T => exact wpAny_letOwnedTupleGo_listiter hit hQ
    | _ => exact wpAny_pure hQ
  · rintro i v m₁ news₁ s₁ own hi hP ⟨hlm, hJ⟩ hoff hown _ hmem ⟨hst1, hst2⟩ F₁ N₁
    obtain ⟨oI, hoI, _⟩ := hst1
    have hIo : (s.heap.objs.size, oI) ∈ own := hmem _ (.head _) hI0 oI hoI
    have hv : vs[i]? = some v := by simpa using hP
    have hoff' : ∀ p ∈ news₁, p.1 ≠ s.heap.objs.size := fun p hp e => hoff p hp (by rw [e]; exact .head _)
    have hlo : s₁.heap.get? l = some (lstO vs n) := (N₁ _ (List.mem_append_right _ hlm)).1
    have N₂ : News h₀ env.locals s₁.heap ((s.heap.objs.size, oI) :: news₁) := fun p hp => by
      rcases List.mem_cons.mp hp with rfl | hp
      · exact N₁ _ (List.mem_append_left _ hIo)
      · exact N₁ _ (List.mem_append_right _ hp)
    refine wpAny_mono (turn _ i v m₁ news₁ s₁ oI hv hfr hoff' hlm hJ F₁ N₂) (fun _ s₂ h₂ => wpAny_mono h₂ (fun f s₃ p => ?_) fun _ _ e => e) fun _ _ e => e
    obtain ⟨rfl, h', tk, m', nx, e, F', N', ha, hl, hJ'⟩ := p
    refine ⟨rfl, h', tk, m', nx, e, F', fun p hp => ?_, fun p hp hq => ha p hp (List.mem_singleton.mp hq), hl, hJ'⟩
    rcases List.mem_append.mp hp with hp | hp
    · have hp1 := hown p hp
      have hp2 := (N₁ p (List.mem_append_left _ hp)).1
      rcases List.mem_cons.mp hp1 with e1 | e1
      · have : p = (s.heap.objs.size, oI) := by
          rcases p with ⟨a, b⟩
          simp only at e1 hp2
          subst e1
          rw [hoI] at hp2
          rw [Option.some.inj hp2]
        rw [this]; exact N' _ (.head _)
      · have e1 := List.mem_singleton.mp e1
        have : p = (l, lstO vs n) := by
          rcases p with ⟨a, b⟩
          simp only at e1 hp2
          subst e1
          rw [hlo] at hp2
          rw [Option.some.inj hp2]
        rw [this]; exact N' _ (.tail _ hl)
    · exact N' p (.tail _ hp)
  · rintro h' tk m' news' F' N' _ ⟨hl, hJ⟩
    exact done m' news' h' tk hl (by simpa using hJ) F' N'
end

set_option hygiene true in
local macro_rules | `(tactic| walk_at "m fort") => `(tactic| (k_here; (rename Fr _ _ _ _ => lF'); (with_unfolding_all refine For_invTF lF' ?_ (by (intro _; rfl)); k_whole)))
local macro_rules | `(tactic| walk_at "exec For Tuple Name cons nil") => `(tactic| walk_at "m fort")
/-- what a pass on copies leaves: the trial pass, in the new ledger -/
inductive TrPost (w : World) (tab : Nat → Option Th) (R0 : Led) (kp : Addr) (rn : Rn) (r : Value) (M' tl : Led) : Prop
  | ex (x' : _) (xd' : _) (kn' : _) (kd' : _) (S' : _) (C' : _) (N' : _) (lt' : _) (od' : _) (o' : _) (t' : _) (n1 : _) (n2 : _) (n3 : _) (ln : _) (kl : _) (xs' : _) (h1 : r = .ref x') (h2 : M' = [(kp, keptO w xs' kl)]) (h3 : KeptOk w (tl ++ R0) tab xs') (h4 : (x', instObj 314 xd') ∈ tl) (h5 : (xd', o') ∈ tl) (h6 : (∃ pl : Nat, PassD w kn' kp pl lt' rn.right o')) (h7 : (kn', instObj 233 kd') ∈ tl) (h8 : (kd', od') ∈ tl) (h9 : KnD w S' C' od') (h10 : (S', lstO [.ref N'] n1) ∈ tl) (h11 : (N', lstO (nmL rn.known t') n2) ∈ tl) (h12 : (C', lstO [.bool true] n3) ∈ tl) (h13 : (lt', lstO (rn.late.map Value.ref) ln) ∈ tl)
theorem TrPost.mk {w : World} {tab : Nat → Option Th} {R0 : Led} {kp : Addr} {rn : Rn}  { tl : Led} (x' xd' kn' kd' S' C' N' lt' od' o' t' n1 n2 n3 ln kl xs' : _) (h1 : KeptOk w (tl ++ R0) tab xs') (h2 : (x', instObj 314 xd') ∈ tl) (h3 : (xd', o') ∈ tl) (h4 : (∃ pl : Nat, PassD w kn' kp pl lt' rn.right o')) (h5 : (kn', instObj 233 kd') ∈ tl) (h6 : (kd', od') ∈ tl) (h7 : KnD w S' C' od') (h8 : (S', lstO [.ref N'] n1) ∈ tl) (h9 : (N', lstO (nmL rn.known t') n2) ∈ tl) (h10 : (C', lstO [.bool true] n3) ∈ tl) (h11 : (lt', lstO (rn.late.map Value.ref) ln) ∈ tl) : TrPost w tab R0 kp rn (.ref x') ([(kp, keptO w xs' kl)]) tl := ⟨x', xd', kn', kd', S', C', N', lt', od', o', t', n1, n2, n3, ln, kl, xs', rfl, rfl, h1, h2, h3, h4, h5, h6, h7, h8, h9, h10, h11⟩
theorem TrPost.out {h₀ : Heap} {L : Addr} {m : PySem.Str → Option Value} {R : Led} {W : Led → Prop} {G : Value → Heap → Nat → Prop} {w : World} {tab : Nat → Option Th} {R0 : Led} {kp : Addr} {rn : Rn}
    (k : ∀ x' xd' kn' kd' S' C' N' lt' t' n1 n2 n3 ln kl xs' (pl : Nat) v1 v2 v3 v4 v5 v6 v7 v8 tl h' tk', KeptOk w (tl ++ R0) tab xs' → (x', instObj 314 xd') ∈ tl → (xd', passO w kn' kp pl lt' rn.right v1 v2 v3 v4 v5 v6) ∈ tl → (kn', instObj 233 kd') ∈ tl →
      (kd', knO w S' C' v7 v8) ∈ tl → (S', lstO [.ref N'] n1) ∈ tl → (N', lstO (nmL rn.known t') n2) ∈ tl → (C', lstO [.bool true] n3) ∈ tl → (lt', lstO (rn.late.map Value.ref) ln) ∈ tl → Fr h₀ L h' m → News h₀ L h' ((kp, keptO w xs' kl) :: (tl ++ R)) → W tl → G (.ref x') h' tk') :
    ∀ r M' tl h' tk', Fr h₀ L h' m → News h₀ L h' (M' ++ (tl ++ R)) → W tl → TrPost w tab R0 kp rn r M' tl → G r h' tk' := by
  rintro _ _ tl h' tk' F N hw ⟨x', xd', kn', kd', S', C', N', lt', od', o', t', n1, n2, n3, ln, kl, xs', rfl, rfl, h1, h2, h3, ⟨pl, v1, v2, v3, v4, v5, v6, rfl⟩, h4, h5, ⟨v7, v8, rfl⟩, h6, h7, h8, h9⟩
  exact k x' xd' kn' kd' S' C' N' lt' t' n1 n2 n3 ln kl xs' pl v1 v2 v3 v4 v5 v6 v7 v8 tl h' tk' h1 h2 h3 h4 h5 h6 h7 h8 h9 F N hw
inductive TrJ (w : World) (tab : Nat → Option Th) (R R2 R0 : Led) (x' xd' kn' N' lt' kp : Addr) (rnAt : Nat → Rn) (i : Nat) (m : PySem.Str → Option Value) (nx : Led) : Prop
  | ex (st' : Ps) (o : Obj) (t : Tok) (n : Nat) (ln : Nat) (kl : Nat) (tl : Led) (h1 : m (Str.ofString "trial") = some (.ref x')) (h2 : st'.right = (rnAt i).right) (h3 : st'.known = (rnAt i).known) (h4 : st'.late = (rnAt i).late) (h5 : nx = (xd', o) :: (N', lstO (nmL st'.known t) n) :: (lt', lstO (st'.late.map Value.ref) ln) :: (kp, keptO w st'.xs kl) :: (tl ++ R2)) (h6 : PassD w kn' kp st'.pl lt' st'.right o) (h7 : KeptOk w (tl ++ R0) tab st'.xs) (h8 : Apart (tl ++ R2) xd' N' lt' kp) (h9 : ∀ q ∈ R, ∀ p ∈ tl, q.1 ≠ p.1)
theorem TrJ.elim {w : World} {tab : Nat → Option Th} {R R2 R0 : Led} {x' xd' kn' N' lt' kp : Addr} {rnAt : Nat → Rn} {i : Nat} {m : PySem.Str → Option Value} {P : Led → Prop} (k : ∀ (st' : Ps) (o : Obj) (t : Tok) (n ln kl : Nat) (tl : Led), m (Str.ofString "trial") = some (.ref x') → st'.right = (rnAt i).right → st'.known = (rnAt i).known → st'.late = (rnAt i).late → PassD w kn' kp st'.pl lt' st'.right o → KeptOk w (tl ++ R0) tab st'.xs → Apart (tl ++ R2) xd' N' lt' kp → ((∀ q ∈ R, ∀ p ∈ tl, q.1 ≠ p.1)) → P ((xd', o) :: (N', lstO (nmL st'.known t) n) :: (lt', lstO (st'.late.map Value.ref) ln) :: (kp, keptO w st'.xs kl) :: (tl ++ R2))) : ∀ nx, TrJ w tab R R2 R0 x' xd' kn' N' lt' kp rnAt i m nx → P nx := by
  intro nx h
  obtain ⟨st', o, t, n, ln, kl, tl, h1, h2, h3, h4, rfl, h5, h6, h7, h8⟩ := h
  exact k st' o t n ln kl tl h1 h2 h3 h4 h5 h6 h7 h8

theorem tried_ok (w : World) (tab : Nat → Option Th) (u v : Th) (pu pv : Nat) (need : Nat) (ihu : GoOk w tab u) (ihv : GoOk w tab v) (hnu : u.ht + 61 ≤ need) (hnv : v.ht + 61 ≤ need)
    (R R0 : Led) (x xd kn kd S C Nm lt kp P T1 T2 : Addr) (od o : Obj) (n1 n2 n3 kl np : Nat) (t a1 a2 : Tok) (pl : Nat) (right b : Bool) (xs : List MX)
    (h0 : ∀ p ∈ R0, p ∈ R) (hfix : Fix w R x xd kn kd S C Nm od n1 n3) (hxd : (xd, o) ∈ R) (hpd : PassD w kn kp pl lt right o) (hNm : (Nm, lstO (nmL b t) n2) ∈ R) (hko : KeptOk w R0 tab xs) (hlo : (kp == sysModules) = false) (hkp : ∀ q ∈ R, q.1 ≠ kp)
    (hP : (P, lstO [.ref T1, .ref T2] np) ∈ R) (hT1 : (T1, tupO [u.val, .int (pu : Int) a1] 0) ∈ R) (hT2 : (T2, tupO [v.val, .int (pv : Int) a2] 0) ∈ R)
    (hu1 : ThIn w R u) (hu2 : Cov tab pu u) (hv1 : ThIn w R v) (hv2 : Cov tab pv v) (hwu : ThWf u) (hsz : u.sz + v.sz ≤ 1000) (hnd : 60 ≤ need) :
    Cn w 311 [.ref x, .ref P] need [(kp, keptO w xs kl)] R (TrPost w tab R0 kp ((u.run b).join v.run)) := by
  obtain ⟨f1, f2, f3, f4, f5, f6⟩ := hfix
  have f4' := f4
  obtain ⟨u1, u2, rfl⟩ := f4
  obtain ⟨q1, q2, q3, q4, q5, q6, rfl⟩ := hpd
  unfold Cn; k_fill; intro dp un gd A₀ base h₀ outer env L m s pp loose mean mg mb Q B F X N T hf hk hd hu hret
  simp only [List.cons_append, List.nil_append] at N
  k_dflt (refine' code_def ?k1 ?k2 ?k3 ?k4 ?k5 ?kA ?kF ?kK ?k6 ?k7 ?k8 ?k9 ?kB ?_ ?c2 ?c3 ?c4 ?c5; (case kA => exact rfl); (case kF => assumption); (case kK => assumption); (case k1 => k_asm); (case k2 => k_asm); (case k3 => k_asm); (case k4 => k_asm); (case k5 => k_asm); (case k6 => k_is); (case k7 => k_is); (case k8 => ktr_room); (case k9 => first | exact BindsTo.of_eq rfl | exact binds_K (by k_in) rfl (by k_is) rfl rfl rfl); (case c5 => decide); (case kB => exact locs rfl); (case c2 => exact rfl); (case c3 => exact rfl); (case c4 => exact rfl); k_whole; intro g' L' h' FG' F' N' B' X' T'; (try dsimp only); (try k_fold); (refine frame_name F' ?_); clear F'; intro mm' F' hfr')
  k_steps
  have key := copy_ok w ((kp, keptO w xs kl) :: R) kn kd S Nm C _ b t n1 n2 n3 (by k_mem) (by k_mem) f4' (by k_mem) (by k_mem) (by k_mem)
  refine key _ _ _ _ _ _ _ _ _ _ _ _ _ _ _ _ _ (by assumption) (by assumption) (by assumption) (by assumption) (by assumption) rfl rfl ?_ ?_ ?_
  · first | exact room1 hd (by decide) | (show dp + 1 + _ < _; omega)
  · first | exact room2 hu (by decide) | (show un + 3 + _ < _; omega)
  refine copy_out ?_
  intro kn' kd' S' N' C' od' t' m1 m2 m3 tl1 h'' tk' g1 g2 g4 g5 g3 g6 F₂ N₂ hfr
  dsimp only
  refine cps (fun cG => ∀ R1, R1 = tl1 ++ R → cG) ?_ (fun ck => ck _ rfl)
  intro R1 hR1
  have hs : ∀ p ∈ R, p ∈ R1 := fun p hp => hR1 ▸ List.mem_append_right _ hp
  have hs' : ∀ p ∈ tl1, p ∈ R1 := fun p hp => hR1 ▸ List.mem_append_left _ hp
  have N₃ : News g' L' h'' ((N', lstO (nmL b t') m2) :: (kp, keptO w xs kl) :: R1) := News.sub N₂ (by subst hR1; array_get_dec)
  have g7 : ∀ q ∈ R1, q.1 ≠ N' := by
    intro q hq
    rw [hR1] at hq
    rcases List.mem_append.mp hq with hq | hq
    · exact g6 q hq
    · exact hfr q (List.mem_append_right _ (.tail _ hq)) _ (.head _)
  have g8 : kp ≠ N' := hfr (kp, _) (List.mem_append_right _ (.head _)) _ (.head _)
  have g9 : ∀ q ∈ R1, q.1 ≠ kp := by
    intro q hq
    rw [hR1] at hq
    rcases List.mem_append.mp hq with hq | hq
    · exact Ne.symm (hfr (kp, _) (List.mem_append_right _ (.head _)) q (.tail _ hq))
    · exact hkp q hq
  have f1 := hs _ f1
  have hxd := hs _ hxd
  have hP := hs _ hP
  have hT1 := hs _ hT1
  have hT2 := hs _ hT2
  have c1 := g1
  have c2 := g2
  have c4 := g4
  have c5 := g5
  have g1 := hs' _ g1
  have g2 := hs' _ g2
  have g4 := hs' _ g4
  have g5 := hs' _ g5
  clear N₂
  k_steps
  (rename News _ L' _ (_ :: _ :: _ :: _ :: _ :: R1) => kN)
  (rename Fr _ L' _ _ => kF)
  (rename _ ∧ _ ∧ AllLt _ R1 => k1)
  (rename _ ∧ _ ∧ _ ∧ _ ∧ AllLt _ R1 => k3)
  (rename (_ : Nat) < _ => k2)
  rename_i x' xd' _ _ _ _ _ _ _ _ _ _ _ _ _ _ _ _ _ _ _ _ lt' _ _ _ _ _ _ _ _ _ _
  refine cps (fun cG => ∀ o' me, News g' L' _ ((lt', lstO [] 0) :: (x', instObj 314 xd') :: (xd', o') :: (N', lstO (nmL b t') m2) :: (kp, keptO w xs kl) :: R1) → (N' < xd' ∧ kp < xd' ∧ AllLt xd' R1) → xd' < x' → (x' < lt' ∧ xd' < lt' ∧ N' < lt' ∧ kp < lt' ∧ AllLt lt' R1) → PassD w kn' kp ((0 : Nat) : Int) lt' true o' → Fr g' L' _ me → me (Str.ofString "trial") = some (.ref x') → cG) ?_ (fun ck => ck _ _ kN k1 k2 k3 ⟨_, _, _, _, _, _, rfl⟩ kF (by tb_rel))
  intro o' me kN k1 k2 k3 ho' kF e1
  let rnAt : Nat → Rn := fun i => match i with
    | 0 => ⟨true, [], b⟩
    | 1 => u.run b
    | _ => (u.run b).join v.run
  have hap2 : Apart ((x', instObj 314 xd') :: R1) xd' N' lt' kp := by
    refine ⟨Nat.ne_of_gt k1.1, Nat.ne_of_lt k3.2.1, Nat.ne_of_gt k1.2.1, Nat.ne_of_lt k3.2.2.1, Ne.symm g8, Nat.ne_of_gt k3.2.2.2.1, ?_, ?_, ?_, ?_, hlo⟩
    · exact List.forall_mem_cons.mpr ⟨Nat.ne_of_gt k2, fun q hq => Nat.ne_of_lt (k1.2.2.of q hq)⟩
    · exact List.forall_mem_cons.mpr ⟨Nat.ne_of_gt (Nat.lt_trans k1.1 k2), g7⟩
    · exact List.forall_mem_cons.mpr ⟨Nat.ne_of_lt k3.1, fun q hq => Nat.ne_of_lt (k3.2.2.2.2.of q hq)⟩
    · exact List.forall_mem_cons.mpr ⟨Nat.ne_of_gt (Nat.lt_trans k1.2.1 k2), g9⟩
  refine loopT_list (TrJ w tab R ((x', instObj 314 xd') :: R1) R0 x' xd' kn' N' lt' kp rnAt) rfl (.tail _ (.tail _ (.tail _ (.tail _ (.tail _ hP))))) (news := (xd', o') :: (N', lstO (nmL b t') m2) :: (lt', lstO [] 0) :: (kp, keptO w xs kl) :: ([] ++ (x', instObj 314 xd') :: R1)) kF (News.sub kN (by array_get_dec)) ⟨⟨0, true, b, [], xs⟩, o', t', m2, 0, kl, [], e1, rfl, rfl, rfl, rfl, ho', hko, hap2, fun _ _ _ h => nomatch h⟩ ?_ ?_
  · clear kN kF
    intro I i vv m₁ news₁ s₁ oI hv hI1 hI2 hmem hJ0
    revert hI2 hmem
    revert hJ0
    revert news₁
    refine TrJ.elim ?_
    intro st' o t n ln kl' tl e2 e3 e4 e5 hpd₁ hko₁ hap₁ hord hI2 hmem F₁ N₁
    obtain ⟨T0, q, pq, aq, rfl, hT, ihq, hq1, hq2, hrn, hszq, hhtq⟩ : ∃ (T0 : Addr) (q : Th) (pq : Nat) (aq : Tok), vv = .ref T0 ∧ (T0, tupO [q.val, .int (pq : Int) aq] 0) ∈ R1 ∧ GoOk w tab q ∧ ThIn w R q ∧ Cov tab pq q ∧ rnAt (i + 1) = (rnAt i).join q.run ∧ (rnAt i).late.length + q.sz ≤ 1000 ∧ q.ht + 61 ≤ need := by
      match i, hv with
      | 0, hv => exact ⟨T1, u, pu, a1, (Option.some.inj hv).symm, hT1, ihu, hu1, hu2, by simp [rnAt, Rn.join], by show 0 + u.sz ≤ _; rw [Nat.zero_add]; exact Nat.le_trans (Nat.le_add_right _ _) hsz, hnu⟩
      | 1, hv => exact ⟨T2, v, pv, a2, (Option.some.inj hv).symm, hT2, ihv, hv1, hv2, rfl, Nat.le_trans (Nat.add_le_add_right (late_sz hwu b) _) hsz, hnv⟩
      | i + 2, hv => simp at hv
    obtain ⟨r1, r2, r3, r4, r5, r6, rfl⟩ := hpd₁
    have b1 := hap₁.a1
    have b2 := hap₁.a2
    have b3 := hap₁.a3
    have b4 := hap₁.r1
    have b5 : xd' ≠ I := hI2 (xd', _) (.head _)
    have b6 : (x', instObj 314 xd') ∈ tl ++ (x', instObj 314 xd') :: R1 := List.mem_append_right _ (.head _)
    have F₃ : Fr g' L' s₁.heap m₁ := F₁
    have N₅ : News g' L' s₁.heap _ := N₁
    clear F₁ N₁
    k_steps
    (rename News _ L' _ (_ :: _ :: _ :: _ :: _ :: (tl ++ _)) => kN)
    refine cps (fun cG => ∀ o2, News g' L' _ ((I, oI) :: (xd', o2) :: (N', lstO (nmL st'.known t) n) :: (lt', lstO (st'.late.map Value.ref) ln) :: (kp, keptO w st'.xs kl') :: (tl ++ (x', instObj 314 xd') :: R1)) → PassD w kn' kp ((pq : Nat) : Int) lt' st'.right o2 → cG) ?_ (fun ck => ck _ kN ⟨_, _, _, _, _, _, rfl⟩)
    intro o2 kN ho2
    have key2 := ihq ((I, oI) :: (tl ++ (x', instObj 314 xd') :: R1)) (tl ++ R0) x' xd' kn' kd' S' C' N' lt' kp od' o2 m1 m3 n ln kl' t ⟨pq, st'.right, st'.known, st'.late, st'.xs⟩
      (fun p hp => .tail _ ((List.mem_append.mp hp).elim (List.mem_append_left _) fun h => List.mem_append_right _ (.tail _ (hs _ (h0 p h)))))
      ⟨.tail _ b6, .tail _ (List.mem_append_right _ (.tail _ g1)), .tail _ (List.mem_append_right _ (.tail _ g2)), g3, .tail _ (List.mem_append_right _ (.tail _ g4)), .tail _ (List.mem_append_right _ (.tail _ g5))⟩
      (hap₁.more fun q hq => ?_) ho2 hko₁ ⟨hq1.mono fun p hp => .tail _ (List.mem_append_right _ (.tail _ (hs _ hp))), hq2⟩ (by rw [← e5] at hszq; exact hszq)
    · refine key2 _ _ _ _ _ _ _ _ _ _ _ _ _ _ _ _ _ (by assumption) (by assumption) (by assumption) ?_ (by assumption) rfl rfl ?_ ?_ ?_
      · exact News.sub kN (by unfold MutL; array_get_dec)
      · first | exact room1 hd (by decide) | (show dp + 1 + _ < _; omega)
      · first | exact room2 hu (by decide) | (show un + 3 + _ < _; omega)
      · refine GoPost.out ?_
        intro o₂ t₂ n₂ ln₂ kl₂ xs₂ tl2 h'' tk' hpd₃ hko₃ F₂ N₂ hfr2
        dsimp only
        k_steps
        have hI3 : ∀ p ∈ tl2, p.1 ≠ I := fun p hp => Ne.symm (hfr2 (I, oI) (List.mem_append_right _ (.head _)) p hp)
        have hI4 : ∀ p ∈ tl ++ (x', instObj 314 xd') :: R1, p.1 ≠ I := fun p hp => hI2 p (.tail _ (.tail _ (.tail _ (.tail _ hp))))
        have hx2 : N' ≠ I := hI2 (N', _) (.tail _ (.head _))
        have hx3 : lt' ≠ I := hI2 (lt', _) (.tail _ (.tail _ (.head _)))
        have hx4 : kp ≠ I := hI2 (kp, _) (.tail _ (.tail _ (.tail _ (.head _))))
        have hM : ∀ p ∈ tl2, p.1 ≠ xd' ∧ p.1 ≠ N' ∧ p.1 ≠ lt' ∧ p.1 ≠ kp := fun p hp => ⟨Ne.symm (hfr2 (xd', _) (.head _) p hp), Ne.symm (hfr2 (N', _) (.tail _ (.head _)) p hp), Ne.symm (hfr2 (lt', _) (.tail _ (.tail _ (.head _))) p hp), Ne.symm (hfr2 (kp, _) (.tail _ (.tail _ (.tail _ (.head _)))) p hp)⟩
        refine SqEnd.intro (nx := MutL w xd' N' lt' kp o₂ t₂ n₂ ln₂ kl₂ ((Ps.mk pq st'.right st'.known st'.late st'.xs).step q.span (q.run st'.known) xs₂) ++ ((tl2 ++ tl) ++ (x', instObj 314 xd') :: R1)) (by assumption) (News.sub N₂ ?_) ?_ ?_ ⟨(Ps.mk pq st'.right st'.known st'.late st'.xs).step q.span (q.run st'.known) xs₂, o₂, t₂, n₂, ln₂, kl₂, tl2 ++ tl, by tb_rel, ?_, ?_, ?_, rfl, hpd₃, by rw [List.append_assoc]; exact hko₃, hap₁.more ?_, ?_⟩
        · array_get_dec
        · exact all_led (all_cons (by assumption) (all_cons (by assumption) (all_cons (by assumption) (all_cons (by assumption) all_nil)))) (by rw [List.append_assoc]; exact all_led hI3 hI4)
        · exact List.mem_append_right _ (List.mem_append_right _ (.tail _ hP))
        · rw [hrn]; simp only [Ps.step, Rn.join, e3, e4]
        · rw [hrn]; simp only [Ps.step, Rn.join, e4]
        · rw [hrn]; simp only [Ps.step, Rn.join, e4, e5]
        · intro p hp
          rw [List.append_assoc] at hp
          exact (List.mem_append.mp hp).elim (fun h => .inr (hM p h)) .inl
        · exact fun q hq => all_led (hfr2 q (List.mem_append_right _ (.tail _ (List.mem_append_right _ (.tail _ (hs _ hq)))))) (hord q hq)
    · rcases List.mem_cons.mp hq with rfl | hq
      · exact .inr ⟨Ne.symm (hI2 (xd', _) (.head _)), Ne.symm (hI2 (N', _) (.tail _ (.head _))), Ne.symm (hI2 (lt', _) (.tail _ (.tail _ (.head _)))), Ne.symm (hI2 (kp, _) (.tail _ (.tail _ (.tail _ (.head _)))))⟩
      · exact .inl hq
  · clear kN kF
    intro m₁ nx h tk hmem hJ0
    revert hmem
    revert hJ0
    revert nx
    refine TrJ.elim ?_
    intro st' o t n ln kl' tl e2 e3 e4 e5 hpd₁ hko₁ hap₁ hord hmem F₁ N₁
    k_steps
    have hj : rnAt [Value.ref T1, Value.ref T2].length = (u.run b).join v.run := rfl
    rw [hj] at e3 e4 e5
    rw [e3] at hpd₁
    (rename News h₀ L _ (_ :: _ :: _ :: _ :: (tl ++ _)) => kN')
    rw [e4, e5, hR1] at kN'
    refine hret _ [(kp, keptO w st'.xs kl')] (tl ++ (x', instObj 314 xd') :: (xd', o) :: (lt', lstO (((u.run b).join v.run).late.map Value.ref) ln) :: (N', lstO (nmL ((u.run b).join v.run).known t) n) :: tl1) _ _ (by assumption) (News.sub kN' ?_) ?_
      (TrPost.mk x' xd' kn' kd' S' C' N' lt' od' o t m1 n m3 ln kl' st'.xs (hko₁.mono ?_) (List.mem_append_right _ (.head _)) (List.mem_append_right _ (.tail _ (.head _))) ⟨_, hpd₁⟩ (List.mem_append_right _ (.tail _ (.tail _ (.tail _ (.tail _ c1))))) (List.mem_append_right _ (.tail _ (.tail _ (.tail _ (.tail _ c2))))) g3 (List.mem_append_right _ (.tail _ (.tail _ (.tail _ (.tail _ c4))))) (List.mem_append_right _ (.tail _ (.tail _ (.tail _ (.head _))))) (List.mem_append_right _ (.tail _ (.tail _ (.tail _ (.tail _ c5))))) (List.mem_append_right _ (.tail _ (.tail _ (.head _)))))
    · array_get_dec
    · intro q hq p hp
      rcases List.mem_append.mp hq with hq | hq
      · rw [List.mem_singleton.mp hq]
        rcases List.mem_append.mp hp with hp | hp
        · exact Ne.symm (hap₁.r4 p (List.mem_append_left _ hp))
        simp only [List.mem_cons] at hp
        rcases hp with rfl | rfl | rfl | rfl | hp
        · exact Nat.ne_of_lt (Nat.lt_trans k1.2.1 k2)
        · exact Nat.ne_of_lt k1.2.1
        · exact Nat.ne_of_lt k3.2.2.2.1
        · exact g8
        · exact Ne.symm (g9 p (hs' p hp))
      · rcases List.mem_append.mp hp with hp | hp
        · exact hord q hq p hp
        simp only [List.mem_cons] at hp
        rcases hp with rfl | rfl | rfl | rfl | hp
        · exact Nat.ne_of_lt (Nat.lt_trans (k1.2.2.of q (hs q hq)) k2)
        · exact Nat.ne_of_lt (k1.2.2.of q (hs q hq))
        · exact Nat.ne_of_lt (k3.2.2.2.2.of q (hs q hq))
        · exact g7 q (hs q hq)
        · exact hfr q (List.mem_append_right _ (.tail _ hq)) p (.tail _ hp)
    · array_get_dec

theorem strs_reads {h : Heap} : ∀ {ys : List Value}, (∀ y ∈ ys, ∃ t, y = .str sA t) → ∃ as, ReadsAll h ys (ys.map fun _ => PyData.str sA) as
  | [], _ => ⟨_, .nil⟩
  | y :: ys, hy => by
    obtain ⟨t, rfl⟩ := hy y (.head _)
    obtain ⟨as, h1⟩ := strs_reads fun z hz => hy z (.tail _ hz)
    exact ⟨_, .cons (.str _ _) h1⟩
theorem strs_canLay : ∀ (ys : List Value), PyData.canLayAll0 (ys.map fun _ => PyData.str sA) = true
  | [] => rfl
  | y :: ys => by
    simp only [List.map_cons, PyData.canLayAll0, PyData.canLay0, strs_canLay ys, Bool.and_true]
    kernel_rfl
section
variable {prog : Program} {w : World} {A : Around} {E : Value → Shared → Prop} {s : Shared} {h₀ : Heap} {L : Addr} {Q : Value → Shared → Prop} {news : Led}
theorem eq_nil {d e : Addr} {ys : List Value} {n m : Nat} (N : News h₀ L s.heap news) (hd : (d, lstO ys n) ∈ news) (he : (e, lstO [] m) ∈ news) (hys : ∀ y ∈ ys, ∃ t, y = .str sA t) (hu : A.units + 1 < cLine) (h : Q (.bool ys.isEmpty) s) :
    wpAny (model prog w) A (compareOp .Eq (.ref d) (.ref e)) Q E s := by
  obtain ⟨as, ra⟩ := strs_reads (h := s.heap) hys
  have hx : Reads s.heap (.ref d) (.list (ys.map fun _ => PyData.str sA)) (d :: as) := .list (N _ hd).1 rfl rfl (by simpa using ra)
  have hy : Reads s.heap (.ref e) (.list []) (e :: []) := .list (N _ he).1 rfl rfl .nil
  show wpAny _ _ (richCompare .Eq _ _) _ _ _
  refine PySem.SeqAt.eqOverData prog w A E s _ _ _ _ _ _ Q hx hy (by simp only [PyData.canLay0]; exact strs_canLay ys) rfl ?_ ?_
  · exact Nat.lt_of_le_of_lt (Nat.add_le_add_left (Nat.min_le_right _ _) _) hu
  · cases ys <;> exact h
end
theorem pick_nm (nb b : Bool) (t tt : Tok) : slicePick (nmL nb t).toArray (some ((nmL b tt).length : Int)) none none = (nmL (nb && !b) t).toArray := by
  cases nb <;> cases b <;> first | rfl | kernel_rfl | (simp [slicePick, sliceBounds, sliceRange, nmL]; done) | with_unfolding_all rfl
section
variable {prog : Program} {w : World} {A : Around} {E : Value → Shared → Prop} {s : Shared} {h₀ : Heap} {L : Addr} {m : PySem.Str → Option Value} {Q : Value → Shared → Prop} {news : Led}
theorem slice_nm {value slice : PySem.Expr} {l : Addr} {nb b : Bool} {t tt u : Tok} {n : Nat} {ops : List Value} (F : Fr h₀ L s.heap m) (N : News h₀ L s.heap news) (hm : (l, lstO (nmL nb t) n) ∈ news)
    (h : ∀ D h', Fr h₀ L h' m → News h₀ L h' ((D, lstO (nmL (nb && !b) t) 0) :: news) → (∀ p ∈ news, p.1 < D) → Q (.ref D) { s with heap := h' })
    (hs : subscripted slice false (.ref l) (.ref s.heap.objs.size) = operate ops (getItem (.ref l) (.ref s.heap.objs.size))) (ht : ∀ r, letTemporaryGo value (.ref l) r = pure ()) :
    wpAny (model prog w) A (subscriptTail value slice (.ref l) (.ref s.heap.objs.size)) Q E { s with heap := s.heap.push { cls := .type "slice", data := .fields #[.int ((nmL b tt).length : Int) u, .none, .none] } } := by
  refine slice_list3 F N (items := (nmL nb t).toArray) ⟨_, (N _ hm).1, rfl, n, rfl⟩ (.int _ _) .none .none (by decide) (fun h' F' N' => h _ h' F' ?_ fun p hp => Nat.lt_succ_of_lt (Heap.lt_size (N p hp).1)) hs ht (by cases nb <;> simp [nmL, sizeLine_eq])
  rw [pick_nm] at N'
  exact N'
end
mutual
theorem opens_sz : ∀ t : Th, t.opens ≤ t.sz
  | .lit _ => Nat.le_refl _
  | .str _ => Nat.le_refl _
  | .seq _ _ _ is => openss_szs is
  | .node k _ _ is => by
    have h := openss_szs is
    cases k <;> first | exact Nat.le_trans h (Nat.le_add_left _ 1) | exact Nat.le_add_right 1 _
theorem openss_szs : ∀ is : List Th, Th.openss is ≤ Th.szs is
  | [] => Nat.le_refl _
  | i :: is => by
    have h1 := opens_sz i
    have h2 := openss_szs is
    exact Nat.add_le_add h1 h2
end

local macro_rules | `(tactic| walk_at "eval ListComp") => `(tactic| (k_here; lct_look; k_dflt (refine LCt.ListComp_T (F₀ := by k_asm) (by with_unfolding_all rfl) (by decide) (by rfl) (by decide) (by rfl) ?_)))
local macro_rules | `(tactic| walk_at "compareOp Eq ref ref") => `(tactic| (k_here; (with_reducible show wpAny _ _ (compareOp CmpOp.Eq (Value.ref _) (Value.ref _)) _ _ _); k_dflt (refine eq_nil (by k_asm) (by k_mem) (by k_mem) (by assumption) (by k_units) ?_)))
local macro_rules | `(tactic| walk_at "subscriptTail Name Slice ref ref") => `(tactic| (k_here; (with_reducible show wpAny _ _ (subscriptTail _ (PySem.Expr.Slice (some _) none none _) (Value.ref _) (Value.ref _)) _ _ _); k_dflt (refine slice_nm (by k_asm) (by k_asm) (by k_mem) ?_ (by with_unfolding_all rfl) (by intro _; with_unfolding_all rfl)); intro _ _ _ _ _))
inductive OutPost (w : World) (tab : Nat → Option Th) (R0 : Led) (kp : Addr) (b : Bool) (rn : Rn) (r : Value) (M' tl : Led) : Prop
  | ex (A : _) (l : _) (nz : _) (tt : _) (n1 : _) (n2 : _) (kl : _) (xs' : _) (h1 : r = .ref A) (h2 : M' = [(kp, keptO w xs' kl)]) (h3 : KeptOk w (tl ++ R0) tab xs') (h4 : (A, tupO [.bool rn.right, .ref l, .ref nz] 0) ∈ tl) (h5 : (l, lstO (rn.late.map Value.ref) n1) ∈ tl) (h6 : (nz, lstO (nmL (rn.known && !b) tt) n2) ∈ tl)

theorem out_rot {h₀ h : Heap} {L : Addr} {new tl R : Led} {e c : Addr × Obj} (N : News h₀ L h (new ++ e :: (tl ++ c :: R))) : News h₀ L h ([e] ++ ((new ++ (tl ++ [c])) ++ R)) :=
  News.sub N fun p hp => by
    simp only [List.nil_append, List.cons_append, List.mem_cons, List.mem_append, List.not_mem_nil, or_false] at hp ⊢
    simp only [or_left_comm, or_comm, or_assoc] at hp ⊢
    exact hp
theorem out_fresh {new tl R : Led} {kp Lc : Addr} {x x' oc : Obj} (hnew : ∀ p ∈ new, kp ≠ p.1 ∧ ∀ q ∈ R, q.1 ≠ p.1) (h1 : ∀ q ∈ [(kp, x')] ++ (Lc, oc) :: R, ∀ p ∈ tl, q.1 ≠ p.1) (h2 : kp ≠ Lc) (h3 : ∀ q ∈ R, q.1 ≠ Lc) :
    ∀ q ∈ [(kp, x)] ++ R, ∀ p ∈ new ++ (tl ++ [(Lc, oc)]), q.1 ≠ p.1 := by
  intro q hq p hp
  rcases List.mem_append.mp hp with hp | hp
  · rcases List.mem_append.mp hq with hq | hq
    · rw [List.mem_singleton.mp hq]; exact (hnew p hp).1
    · exact (hnew p hp).2 q hq
  rcases List.mem_append.mp hp with hp | hp
  · rcases List.mem_append.mp hq with hq | hq
    · rw [List.mem_singleton.mp hq]; exact h1 (kp, x') (List.mem_append_left _ (.head _)) p hp
    · exact h1 q (List.mem_append_right _ (.tail _ hq)) p hp
  · rw [List.mem_singleton.mp hp]
    rcases List.mem_append.mp hq with hq | hq
    · rw [List.mem_singleton.mp hq]; exact h2
    · exact h3 q hq
theorem OutPost.intro {w : World} {tab : Nat → Option Th} {R0 tl : Led} {kp A l nz : Addr} {b : Bool} {rn rn' : Rn} {tt : Tok} {n1 n2 kl : Nat} {xs' : List MX} (e : rn' = rn) (hko : KeptOk w (tl ++ R0) tab xs') (h1 : (A, tupO [.bool rn.right, .ref l, .ref nz] 0) ∈ tl) (h2 : (l, lstO (rn.late.map Value.ref) n1) ∈ tl) (h3 : (nz, lstO (nmL (rn.known && !b) tt) n2) ∈ tl) :
    OutPost w tab R0 kp b rn' (.ref A) [(kp, keptO w xs' kl)] tl := by
  subst e
  exact ⟨A, l, nz, tt, n1, n2, kl, xs', rfl, rfl, hko, h1, h2, h3⟩
theorem OutPost.out {h₀ : Heap} {L : Addr} {m : PySem.Str → Option Value} {R : Led} {W : Led → Prop} {G : Value → Heap → Nat → Prop} {w : World} {tab : Nat → Option Th} {R0 : Led} {kp : Addr} {b : Bool} {rn : Rn}
    (k : ∀ A l nz tt n1 n2 kl xs' tl h' tk', KeptOk w (tl ++ R0) tab xs' → (A, tupO [.bool rn.right, .ref l, .ref nz] 0) ∈ tl → (l, lstO (rn.late.map Value.ref) n1) ∈ tl → (nz, lstO (nmL (rn.known && !b) tt) n2) ∈ tl → Fr h₀ L h' m → News h₀ L h' ((kp, keptO w xs' kl) :: (tl ++ R)) → W tl → G (.ref A) h' tk') :
    ∀ r M' tl h' tk', Fr h₀ L h' m → News h₀ L h' (M' ++ (tl ++ R)) → W tl → OutPost w tab R0 kp b rn r M' tl → G r h' tk' := by
  rintro _ _ tl h' tk' F N hw ⟨A, l, nz, tt, n1, n2, kl, xs', rfl, rfl, h1, h2, h3, h4⟩
  exact k A l nz tt n1 n2 kl xs' tl h' tk' h1 h2 h3 h4 F N hw
noncomputable def Far (kp : Addr) (R : Led) (p : Addr × Obj) : Prop := kp ≠ p.1 ∧ ∀ q ∈ R, q.1 ≠ p.1
theorem far_fresh {kp : Addr} {x : Obj} {R tl : Led} (h : ∀ p ∈ tl, Far kp R p) : ∀ q ∈ [(kp, x)] ++ R, ∀ p ∈ tl, q.1 ≠ p.1 := by
  intro q hq p hp
  rcases List.mem_append.mp hq with hq | hq
  · rw [List.mem_singleton.mp hq]; exact (h p hp).1
  · exact (h p hp).2 q hq
theorem far_app {kp : Addr} {R a b : Led} (h1 : ∀ p ∈ a, Far kp R p) (h2 : ∀ p ∈ b, Far kp R p) : ∀ p ∈ a ++ b, Far kp R p := fun p hp => (List.mem_append.mp hp).elim (h1 p) (h2 p)
theorem far_cons {kp : Addr} {R b : Led} {e : Addr × Obj} (h1 : kp ≠ e.1 ∧ ∀ q ∈ R, q.1 ≠ e.1) (h2 : ∀ p ∈ b, Far kp R p) : ∀ p ∈ e :: b, Far kp R p := List.forall_mem_cons.mpr ⟨h1, h2⟩
theorem far_nil {kp : Addr} {R : Led} : ∀ p ∈ ([] : Led), Far kp R p := fun _ h => nomatch h
theorem out5 {h₀ h : Heap} {L : Addr} {new tl X R : Led} {e : Addr × Obj} (N : News h₀ L h (new ++ e :: (tl ++ (X ++ R)))) : News h₀ L h ([e] ++ ((new ++ (tl ++ X)) ++ R)) :=
  News.sub N fun p hp => by
    simp only [List.nil_append, List.cons_append, List.mem_cons, List.mem_append] at hp ⊢
    simp only [or_left_comm, or_comm, or_assoc] at hp ⊢
    exact hp
theorem out6 {h₀ h : Heap} {L : Addr} {new tl3 tl1 R : Led} {d3 d2 l e c : Addr × Obj} (N : News h₀ L h (new ++ (d3 :: (tl3 ++ d2 :: l :: e :: (tl1 ++ c :: R))))) : News h₀ L h ([e] ++ ((new ++ (d3 :: (tl3 ++ ([d2, l] ++ (tl1 ++ [c]))))) ++ R)) :=
  News.sub N fun p hp => by
    simp only [List.nil_append, List.cons_append, List.append_assoc, List.mem_cons, List.mem_append, List.not_mem_nil, or_false] at hp ⊢
    simp only [or_left_comm, or_comm, or_assoc] at hp ⊢
    exact hp
theorem nw_of {D kp : Addr} {x : Obj} {big R : Led} (h : ∀ p ∈ big, p.1 ≠ D) (hk : (kp, x) ∈ big) (hR : ∀ q ∈ R, q ∈ big) : kp ≠ D ∧ ∀ q ∈ R, q.1 ≠ D := ⟨h _ hk, fun q hq => h q (hR q hq)⟩
theorem ne_lt {D : Addr} {l : Led} (h : ∀ p ∈ l, (@LT.lt Nat _ p.1 D)) : ∀ p ∈ l, p.1 ≠ D := fun p hp => Nat.ne_of_lt (h p hp)
theorem all_of {D : Nat} {kp Lc : Addr} {oc : Obj} {tl R : Led} (h1 : kp < D) (h2 : AllLt D (tl ++ (Lc, oc) :: R)) : kp ≠ D ∧ ∀ q ∈ R, q.1 ≠ D :=
  ⟨Nat.ne_of_lt h1, fun q hq => Nat.ne_of_lt (h2.of q (List.mem_append_right _ (.tail _ hq)))⟩

theorem eq_and3 {nw0 : Led} {A B C : Prop} {P : Led → Prop} (g : A → B → C → P nw0) : ∀ nw, (nw = nw0 ∧ A ∧ B ∧ C) → P nw := by
  rintro nw ⟨rfl, h1, h2, h3⟩
  exact g h1 h2 h3
theorem str_elim {vs : List Value} {i : Nat} {P : Value → Prop} (hvs : ∀ v ∈ vs, ∃ t, v = Value.str sA t) (g : ∀ tv, P (.str sA tv)) : ∀ v, vs.toArray[i]? = some v → P v := by
  intro v hv
  obtain ⟨tv, rfl⟩ := hvs v (List.mem_of_getElem? (by simpa using hv))
  exact g tv
theorem outcome_ok (w : World) (tab : Nat → Option Th) (k : Kd) (a p : Addr) (t y c z : Th) (s2 : Bool) (pu pv : Nat) (need : Nat) (iht : GoOk w tab t) (ihz : GoOk w tab z) (hnu : t.ht + 62 ≤ need) (hnv : z.ht + 62 ≤ need)
    (R R0 : Led) (x xd kn kd S C Nm lt kp P T1 T2 : Addr) (od o : Obj) (n1 n2 n3 kl np : Nat) (tt a1 a2 : Tok) (pl : Nat) (right b : Bool) (xs : List MX)
    (h0 : ∀ p ∈ R0, p ∈ R) (hfix : Fix w R x xd kn kd S C Nm od n1 n3) (hxd : (xd, o) ∈ R) (hpd : PassD w kn kp pl lt right o) (hNm : (Nm, lstO (nmL b tt) n2) ∈ R) (hko : KeptOk w R0 tab xs) (hlo : (kp == sysModules) = false) (hkp : ∀ q ∈ R, q.1 ≠ kp)
    (hP : (P, lstO [.ref T1, .ref T2] np) ∈ R) (hT1 : (T1, tupO [t.val, .int (pu : Int) a1] 0) ∈ R) (hT2 : (T2, tupO [z.val, .int (pv : Int) a2] 0) ∈ R)
    (hnode : ThIn w R (.node k a p [t, y, c])) (hwf : ThWf (.node k a p [t, y, c])) (hk0 : k = .ifk ∨ k = .whk) (hz : z = y ∨ z = c)
    (hu2 : Cov tab pu t) (hv2 : Cov tab pv z) (hsz : (Th.node k a p [t, y, c]).sz ≤ 1000) (hnd : (Th.node k a p [t, y, c]).ht + 57 ≤ need) :
    Cn w 304 [.ref x, .ref a, .ref P] need [(kp, keptO w xs kl)] R (OutPost w tab R0 kp b (Rn.pick a (Th.openss [t, y, c]) b ((t.run b).join z.run) ((z.run b).join t.run))) := by
  have hfix' := hfix
  have hpd' := hpd
  obtain ⟨f1, f2, f3, f4, f5, f6⟩ := hfix
  have f4' := f4
  obtain ⟨u1, u2, rfl⟩ := f4
  obtain ⟨q1, q2, q3, q4, q5, q6, rfl⟩ := hpd
  unfold Cn; k_fill; intro dp un gd A₀ base h₀ outer env L m s pp loose mean mg mb Q B F X N T hf hk hd hu hret
  simp only [List.cons_append, List.nil_append] at N
  k_dflt (refine' code_defC ?k1 ?k2 ?k3 ?k4 ?k5 ?kA ?kF ?kK ?k6 ?k7 ?k8 ?k9 ?kB ?kD ?_ ?c2 ?c3 ?c4; (case kA => exact rfl); (case kF => assumption); (case kK => assumption); (case k1 => k_asm); (case k2 => k_asm); (case k3 => k_asm); (case k4 => k_asm); (case k5 => k_asm); (case k6 => k_is); (case k7 => k_is); (case k8 => ktr_room); (case k9 => first | exact BindsTo.of_eq rfl | exact binds_K (by k_in) rfl (by k_is) rfl rfl rfl); (case kB => exact rfl); (case kD => decide +kernel); (case c2 => exact rfl); (case c3 => exact rfl); (case c4 => exact rfl); k_whole; intro g' L' h' tk' cells' FG' F' N' Y' B' X' T' l1; (try k_lt l1); k_cells Y'; (try simp only [List.cons_append, List.nil_append] at N'); (try dsimp only); (try k_fold); (refine frame_name F' ?_); clear F'; intro mm' F' hfr')
  k_steps
  (rename News _ L' _ (_ :: _ :: R) => kN)
  (rename _ ∧ AllLt _ R => kL)
  (rename Obj.data _ = _ => kC)
  rename_i oc _ _
  have kN : News g' L' _ ((L' + 1, oc) :: (kp, keptO w xs kl) :: R) := kN
  have kC : oc.data = _ := kC
  have cR : ∀ q ∈ (L' + 1, oc) :: R, q.1 ≠ kp := List.forall_mem_cons.mpr ⟨Nat.ne_of_gt (Nat.lt_succ_of_lt kL.1), hkp⟩
  have hT : ThIn w R t := sub_in hnode (.head _)
  have hZ : ThIn w R z := sub_in hnode (mem_yc hz)
  have wT : ThWf t := wf_sub hwf (.head _)
  have wZ : ThWf z := wf_sub hwf (mem_yc hz)
  have hsz2 : t.sz + z.sz ≤ 1000 := sz_two hz hsz
  have key := tried_ok w tab t z pu pv (need - 1) iht ihz (by omega) (by omega) ((L' + 1, oc) :: R) R0 x xd kn kd S C Nm lt kp P T1 T2 _ _ n1 n2 n3 kl np tt a1 a2 pl right b xs (fun p hp => .tail _ (h0 p hp)) (hfix'.mono fun p hp => .tail _ hp) (.tail _ hxd) hpd' (.tail _ hNm) hko hlo cR
    (.tail _ hP) (.tail _ hT1) (.tail _ hT2) (hT.mono fun p hp => .tail _ hp) hu2 (hZ.mono fun p hp => .tail _ hp) hv2 wT hsz2 (Nat.le_sub_of_add_le (le_n hnu (by decide)))
  refine key _ _ _ _ _ _ _ _ _ _ _ _ _ _ _ _ _ (by assumption) (by assumption) (by assumption) ?_ (by assumption) rfl rfl ?_ ?_ ?_
  · exact News.sub kN (by array_get_dec)
  · first | exact room1 hd (by decide) | (show dp + 1 + _ < _; omega)
  · first | exact room2 hu (by decide) | (show un + 3 + _ < _; omega)
  refine TrPost.out ?_
  intro x' xd' kn' kd' S' C' N' lt' t' m1 m2 m3 ln kl1 xs1 pl' v1 v2 v3 v4 v5 v6 v7 v8 tl1 h'' tk' hko1 e1 e2 e4 e5 e7 e8 e9 e10 F₂ N₂ hfr
  dsimp only
  have hle : (((t.run b).join z.run).late.map Value.ref).length < 1000000 := by
    simp only [Rn.join, List.length_map, List.length_append]
    exact mil_add hsz2 (late_sz wT b) (late_sz wZ (t.run b).known)
  have hlz : ([] : List Value).length + (((t.run b).join z.run).late.map Value.ref).length < 1000000 := by simpa using hle
  have hzb : (nmL b tt).length < 1000000 := by cases b <;> simp [nmL]
  have hop : (Th.node k a p [t, y, c]).opens = Th.openss [t, y, c] := by rcases hk0 with rfl | rfl <;> rfl
  have hopz : Th.openss [t, y, c] < 1000 := by
    exact Nat.lt_of_le_of_lt (openss_szs [t, y, c]) (Nat.lt_of_lt_of_le (Nat.lt_add_of_pos_left (by decide : 0 < 1)) hsz)
  cases hr : ((t.run b).join z.run).right
  · rw [hr] at e2
    k_steps
    (rename News _ L' _ (_ :: _ :: (kp, _) :: (tl1 ++ _)) => kN2)
    (rename _ ∧ AllLt _ (tl1 ++ _) => kL1)
    (rename _ ∧ _ ∧ AllLt _ (tl1 ++ _) => kL2)
    rename_i ll _ D2 _ _ _ _ _ _ _
    refine cps (fun cG => ∀ oD2, News g' L' _ ((D2, oD2) :: (ll, lstO [] 0) :: (kp, keptO w xs1 kl1) :: (tl1 ++ (L' + 1, oc) :: R)) → (kp < ll ∧ AllLt ll (tl1 ++ (L' + 1, oc) :: R)) → (ll < D2 ∧ kp < D2 ∧ AllLt D2 (tl1 ++ (L' + 1, oc) :: R)) → cG) ?_ (fun ck => ck _ kN2 kL1 kL2)
    intro oD2 nN2 nL1 nL2
    have key2 := opens_ok w _ (.node k a p [t, y, c]) (Nat.le_refl _) (by rw [hop]; exact hopz) _ (hnode.mono (R' := (D2, oD2) :: (ll, lstO [] 0) :: (kp, keptO w xs1 kl1) :: (tl1 ++ (L' + 1, oc) :: R)) fun p hp => .tail _ (.tail _ (.tail _ (List.mem_append_right _ (.tail _ hp))))) hwf
    refine key2 _ _ _ _ _ _ _ _ _ _ _ _ _ _ _ _ _ (by assumption) (by assumption) (by assumption) nN2 (by assumption) rfl rfl ?_ ?_ ?_
    · first | exact room1 hd (by decide) | (show dp + 1 + _ < _; omega)
    · first | exact room2 hu (by decide) | (show un + 3 + _ < _; omega)
    refine OcPost.out ?_
    intro D3 vs e3 tl3 h3 tk3 hvl hvs hD3 F₃ N₃ hfr3
    dsimp only
    k_steps
    (rename News _ L' _ _ => kN3)
    (rename Fr _ L' _ _ => kF3)
    refine LCt.CompSrcT.ledger (its := vs.toArray) (k := e3) rfl kF3 kN3 (.head _) (by rw [List.size_toArray, sizeLine_eq, hvl, hop]; exact Nat.le_of_lt (Nat.lt_trans hopz (by decide))) ?_
    intro gg
    refine (?go : ∀ kk i ys nw, (nw = (D3, lstO vs e3) :: (tl3 ++ (D2, oD2) :: (ll, lstO [] 0) :: (kp, keptO w xs1 kl1) :: (tl1 ++ (L' + 1, oc) :: R)) ∧ (b = false → ys = []) ∧ (b = true → i + kk = vs.length ∧ ys.length = i) ∧ (∀ y ∈ ys, ∃ t, y = Value.str sA t)) → LCt.CompRestT _ _ _ _ _ _ _ _ _ _ _ _ _ _ _ _ kk i ys nw) _ _ _ _ ⟨rfl, fun _ => rfl, fun _ => ⟨by simp, rfl⟩, fun _ h => nomatch h⟩
    clear key key2
    have bk : (kp, keptO w xs1 kl1) ∈ tl3 ++ (D2, oD2) :: (ll, lstO [] 0) :: (kp, keptO w xs1 kl1) :: (tl1 ++ (L' + 1, oc) :: R) := List.mem_append_right _ (.tail _ (.tail _ (.head _)))
    have bR : ∀ q ∈ R, q ∈ tl3 ++ (D2, oD2) :: (ll, lstO [] 0) :: (kp, keptO w xs1 kl1) :: (tl1 ++ (L' + 1, oc) :: R) := fun q hq => List.mem_append_right _ (.tail _ (.tail _ (.tail _ (List.mem_append_right _ (.tail _ hq)))))
    have far1 : ∀ p ∈ tl1 ++ [(L' + 1, oc)], Far kp R p := far_app (fun p hp => ⟨hfr (kp, _) (.head _) p hp, fun q hq => hfr q (List.mem_append_right _ (.tail _ hq)) p hp⟩) (far_cons ⟨Ne.symm (cR (L' + 1, oc) (.head _)), fun q hq => Nat.ne_of_lt (Nat.lt_succ_of_lt (kL.2.of q hq))⟩ far_nil)
    have far2 : ∀ p ∈ (D3, lstO vs e3) :: (tl3 ++ ([(D2, oD2), (ll, lstO [] 0)] ++ (tl1 ++ [(L' + 1, oc)]))), Far kp R p := by
      have h3 : ∀ p ∈ (D3, lstO vs e3) :: tl3, Far kp R p := fun p hp => ⟨Nat.ne_of_lt (hfr3 (kp, _) (.tail _ (.tail _ (.head _))) p hp), fun q hq => Nat.ne_of_lt (hfr3 q (.tail _ (.tail _ (.tail _ (List.mem_append_right _ (.tail _ hq))))) p hp)⟩
      exact far_cons (h3 _ (.head _)) (far_app (fun p hp => h3 p (.tail _ hp)) (far_app (far_cons (all_of nL2.2.1 nL2.2.2) (far_cons (all_of nL1.1 nL1.2) far_nil)) far1))
    intro kk
    induction kk with
    | zero =>
      intro i ys
      refine eq_and3 ?_
      intro hy1 hy2 hy3
      refine LCt.CompRestT.zero ?_
      rcases ys with _ | ⟨y0, ys⟩
      · k_steps
        (rename News _ L' _ (_ :: _ :: _ :: (D3, _) :: (tl3 ++ _)) => kN4)
        (rename _ ∧ LCg.Off1 _ (tl3 ++ _) => o1)
        (rename _ ∧ _ ∧ AllLt _ (tl3 ++ _) => nA1)
        (rename _ ∧ _ ∧ _ ∧ AllLt _ (tl3 ++ _) => nA2)
        have farD := far_cons (e := (_, lstO [.ref T2, .ref T1] 0)) (nw_of (ne_lt nA2.2.2.2.of) bk bR) (far_cons (e := (_, lstO [] 0)) (nw_of (ne_lt nA1.2.2.of) bk bR) (far_cons (e := (_, lstO [] 0)) (nw_of (off1_mem o1.2) bk bR) far2))
        rename_i Dc _ _ Dn _ _ _ Dr _ _
        have nN4 : News g' L' _ ((Dr, lstO [.ref T2, .ref T1] 0) :: (Dn, lstO [] 0) :: (Dc, lstO [] 0) :: (D3, lstO vs e3) :: (tl3 ++ (D2, oD2) :: (ll, lstO [] 0) :: (kp, keptO w xs1 kl1) :: (tl1 ++ (L' + 1, oc) :: R))) := kN4
        have farD : (∀ p ∈ (Dr, lstO [.ref T2, .ref T1] 0) :: (Dn, lstO [] 0) :: (Dc, lstO [] 0) :: (D3, lstO vs e3) :: (tl3 ++ ([(D2, oD2), (ll, lstO [] 0)] ++ (tl1 ++ [(L' + 1, oc)]))), Far kp R p) := farD
        refine cps (fun cG => ∀ R3, R3 = (Dr, lstO [.ref T2, .ref T1] 0) :: (Dn, lstO [] 0) :: (Dc, lstO [] 0) :: (D3, lstO vs e3) :: (tl3 ++ (D2, oD2) :: (ll, lstO [] 0) :: (tl1 ++ (L' + 1, oc) :: R)) → cG) ?_ (fun ck => ck _ rfl)
        intro R3 hR3
        have hs1 : ∀ p ∈ tl1, p ∈ R3 := fun p hp => hR3 ▸ .tail _ (.tail _ (.tail _ (.tail _ (List.mem_append_right _ (.tail _ (.tail _ (List.mem_append_left _ hp)))))))
        have hsR : ∀ p ∈ R, p ∈ R3 := fun p hp => hR3 ▸ .tail _ (.tail _ (.tail _ (.tail _ (List.mem_append_right _ (.tail _ (.tail _ (List.mem_append_right _ (.tail _ hp))))))))
        have cR3 : ∀ q ∈ R3, q.1 ≠ kp := by
          intro q hq
          rw [hR3] at hq
          have hq' : q ∈ ((Dr, lstO [.ref T2, .ref T1] 0) :: (Dn, lstO [] 0) :: (Dc, lstO [] 0) :: (D3, lstO vs e3) :: (tl3 ++ ([(D2, oD2), (ll, lstO [] 0)] ++ (tl1 ++ [(L' + 1, oc)])))) ++ R := by
            simp only [List.append_assoc, List.cons_append, List.nil_append] at hq ⊢
            exact hq
          rcases List.mem_append.mp hq' with hq | hq
          · exact Ne.symm (farD q hq).1
          · exact hkp q hq
        have key3 := tried_ok w tab z t pv pu (need - 1) ihz iht (by omega) (by omega) R3 (tl1 ++ R0) x xd kn kd S C Nm lt kp Dr T2 T1 _ _ n1 n2 n3 kl1 0 tt a2 a1 pl right b xs1 (fun p hp => (List.mem_append.mp hp).elim (hs1 p) fun h => hsR p (h0 p h)) (hfix'.mono hsR) (hsR _ hxd) hpd' (hsR _ hNm) hko1 hlo cR3
          (hR3 ▸ .head _) (hsR _ hT2) (hsR _ hT1) (hZ.mono hsR) hv2 (hT.mono hsR) hu2 wZ (by omega) (Nat.le_sub_of_add_le (le_n hnu (by decide)))
        refine key3 _ _ _ _ _ _ _ _ _ _ _ _ _ _ _ _ _ (by assumption) (by assumption) (by assumption) ?_ (by assumption) rfl rfl ?_ ?_ ?_
        · subst hR3; exact News.sub nN4 (by array_get_dec)
        · first | exact room1 hd (by decide) | (show dp + 1 + _ < _; omega)
        · first | exact room2 hu (by decide) | (show un + 3 + _ < _; omega)
        refine TrPost.out ?_
        intro x5 xd5 kn5 kd5 S5 C5 N5 lt5 t5 m51 m52 m53 ln5 kl5 xs5 pl5 w1 w2 w3 w4 w5 w6 w7 w8 tl5 h5 tk5 hko5 i1 i2 i4 i5 i7 i8 i9 i10 F₅ N₅ hfr5
        dsimp only
        have far5 : ∀ p ∈ tl5, Far kp R p := fun p hp => ⟨hfr5 (kp, _) (.head _) p hp, fun q hq => hfr5 q (List.mem_append_right _ (hsR q hq)) p hp⟩
        have b5 : (kp, keptO w xs5 kl5) ∈ (kp, keptO w xs5 kl5) :: (tl5 ++ R3) := .head _
        have b6 : ∀ q ∈ R, q ∈ (kp, keptO w xs5 kl5) :: (tl5 ++ R3) := fun q hq => .tail _ (List.mem_append_right _ (hsR q hq))
        have j1 : (ll, lstO [] 0) ∈ R3 := hR3 ▸ .tail _ (.tail _ (.tail _ (.tail _ (List.mem_append_right _ (.tail _ (.head _))))))
        have j2 : (L' + 1, oc) ∈ R3 := hR3 ▸ .tail _ (.tail _ (.tail _ (.tail _ (List.mem_append_right _ (.tail _ (.tail _ (List.mem_append_right _ (.head _))))))))
        have e1 := hs1 _ e1
        have e2 := hs1 _ e2
        have e4 := hs1 _ e4
        have e5 := hs1 _ e5
        have e7 := hs1 _ e7
        have e8 := hs1 _ e8
        have e10 := hs1 _ e10
        have f1 := hsR _ f1
        have f2 := hsR _ f2
        have f3 := hsR _ f3
        have f5 := hsR _ f5
        have hNm := hsR _ hNm
        have hxd := hsR _ hxd
        have hlu : ([Value.ref a] : List Value).length + (((z.run b).join t.run).late.map Value.ref).length < 1000000 := by
          simp only [Rn.join, List.length_map, List.length_append, List.length_singleton]
          exact mil_add1 (le_swap hsz2) (late_sz wZ b) (late_sz wT (z.run b).known)
        have hno : (b && decide (0 < Th.openss [t, y, c])) = false := by
          cases hb : b with
          | false => rfl
          | true =>
            have h1 := (hy2 hb).1
            have h2 := (hy2 hb).2
            simp only [List.length_nil] at h2
            rw [← hop, ← hvl, ← h1, ← h2]
            rfl
        have hR4 : R3 = ((Dr, lstO [.ref T2, .ref T1] 0) :: (Dn, lstO [] 0) :: (Dc, lstO [] 0) :: (D3, lstO vs e3) :: (tl3 ++ ([(D2, oD2), (ll, lstO [] 0)] ++ (tl1 ++ [(L' + 1, oc)])))) ++ R := by
          rw [hR3]
          simp only [List.append_assoc, List.cons_append, List.nil_append]
        have hmono : ∀ new : Led, ∀ p ∈ tl5 ++ (tl1 ++ R0), p ∈ (new ++ (tl5 ++ ((Dr, lstO [.ref T2, .ref T1] 0) :: (Dn, lstO [] 0) :: (Dc, lstO [] 0) :: (D3, lstO vs e3) :: (tl3 ++ ([(D2, oD2), (ll, lstO [] 0)] ++ (tl1 ++ [(L' + 1, oc)])))))) ++ R0 := by
          intro new p hp
          rcases List.mem_append.mp hp with hp | hp
          · exact List.mem_append_left _ (List.mem_append_right _ (List.mem_append_left _ hp))
          rcases List.mem_append.mp hp with hp | hp
          · exact List.mem_append_left _ (List.mem_append_right _ (List.mem_append_right _ (.tail _ (.tail _ (.tail _ (.tail _ (List.mem_append_right _ (List.mem_append_right _ (List.mem_append_left _ hp)))))))))
          · exact List.mem_append_right _ hp
        cases hr2 : ((z.run b).join t.run).right
        · rw [hr2] at i2
          k_steps
          (rename News h₀ L _ (_ :: _ :: _ :: (kp, _) :: (tl5 ++ R3)) => kN')
          (rename _ ∧ _ ∧ _ ∧ AllLt _ (tl5 ++ R3) => b1)
          (rename ∀ p : Addr × Obj, p ∈ (kp, _) :: (tl5 ++ R3) → p.1 < _ => b2)
          (rename ∀ p : Addr × Obj, p ∈ _ :: (kp, _) :: (tl5 ++ R3) → p.1 < _ => b3)
          rw [hR4] at kN'
          refine hret _ _ _ _ _ (by assumption) (out5 (new := [_, _, _]) kN') (far_fresh (far_app (far_cons ⟨Nat.ne_of_lt b1.2.2.1, fun q hq => Nat.ne_of_lt (b1.2.2.2.of q (List.mem_append_right _ (hsR q hq)))⟩ (far_cons (nw_of (ne_lt b3) (.tail _ b5) fun q hq => .tail _ (b6 q hq)) (far_cons (nw_of (ne_lt b2) b5 b6) far_nil))) (far_app far5 farD)))
            (OutPost.intro (rn := (t.run b).join z.run) (by simp only [Rn.pick, hr, hr2, hno, Bool.not_false, Bool.and_self]) (hko5.mono ?_) (by rw [hr]; exact .head _) (.tail _ (.tail _ (.head _))) (.tail _ (.head _)))
          exact hmono _
        · rw [hr2] at i2
          k_steps
          (rename News h₀ L _ (_ :: _ :: _ :: _ :: _ :: (kp, _) :: (tl5 ++ R3)) => kN')
          (rename _ ∧ AllLt _ (tl5 ++ R3) => b4)
          (rename _ ∧ _ ∧ AllLt _ (tl5 ++ R3) => b7)
          (rename _ ∧ _ ∧ _ ∧ _ ∧ _ ∧ AllLt _ (tl5 ++ R3) => b1)
          (rename ∀ p : Addr × Obj, p ∈ _ :: _ :: (kp, _) :: (tl5 ++ R3) → p.1 < _ => b2)
          (rename ∀ p : Addr × Obj, p ∈ _ :: _ :: _ :: (kp, _) :: (tl5 ++ R3) → p.1 < _ => b3)
          rw [hR4] at kN'
          refine hret _ _ _ _ _ (by assumption) (out5 (new := [_, _, _, _, _]) kN') (far_fresh (far_app (far_cons ⟨Nat.ne_of_lt b1.2.2.2.2.1, fun q hq => Nat.ne_of_lt (b1.2.2.2.2.2.of q (List.mem_append_right _ (hsR q hq)))⟩ (far_cons (nw_of (ne_lt b3) (.tail _ (.tail _ (.tail _ b5))) fun q hq => .tail _ (.tail _ (.tail _ (b6 q hq)))) (far_cons (nw_of (ne_lt b2) (.tail _ (.tail _ b5)) fun q hq => .tail _ (.tail _ (b6 q hq)))
              (far_cons ⟨Nat.ne_of_lt b7.2.1, fun q hq => Nat.ne_of_lt (b7.2.2.of q (List.mem_append_right _ (hsR q hq)))⟩ (far_cons ⟨Nat.ne_of_lt b4.1, fun q hq => Nat.ne_of_lt (b4.2.of q (List.mem_append_right _ (hsR q hq)))⟩ far_nil))))) (far_app far5 farD)))
            (OutPost.intro (rn := ⟨true, a :: ((z.run b).join t.run).late, ((z.run b).join t.run).known⟩) (by simp only [Rn.pick, hr, hr2, hno, Bool.not_false, Bool.and_self]) (hko5.mono ?_) (.head _) (.tail _ (.tail _ (.head _))) (.tail _ (.head _)))
          exact hmono _
      · k_steps
        · (rename List.isEmpty _ = true => ha)
          cases ha
        · (rename News h₀ L _ (_ :: _ :: _ :: _ :: _ :: (D3, _) :: (tl3 ++ _)) => kN')
          (rename _ ∧ LCg.Off1 _ (tl3 ++ _) => o1)
          (rename _ ∧ _ ∧ AllLt _ (tl3 ++ _) => nA1)
          (rename ∀ p : Addr × Obj, p ∈ _ :: _ :: (D3, _) :: (tl3 ++ _) → p.1 < _ => nA3)
          (rename ∀ p : Addr × Obj, p ∈ _ :: _ :: _ :: (D3, _) :: (tl3 ++ _) → p.1 < _ => nA4)
          (rename _ ∧ _ ∧ _ ∧ _ ∧ _ ∧ AllLt _ (tl3 ++ _) => nA5)
          have hb : b = true := by
            cases b with
            | true => rfl
            | false => exact absurd (hy1 rfl) (by simp)
          have hpos : 0 < Th.openss [t, y, c] := by
            have h1 := (hy2 hb).1
            have h2 := (hy2 hb).2
            rw [← hop, ← hvl]
            exact ar_pos h2 h1
          refine hret _ _ _ _ _ (by assumption) (out6 (new := [_, _, _, _, _]) kN') (far_fresh (far_app (far_cons (nw_of (ne_lt nA5.2.2.2.2.2.of) bk bR) (far_cons (nw_of (ne_lt nA4) (.tail _ (.tail _ (.tail _ (.tail _ bk)))) fun q hq => .tail _ (.tail _ (.tail _ (.tail _ (bR q hq))))) (far_cons (nw_of (ne_lt nA3) (.tail _ (.tail _ (.tail _ bk))) fun q hq => .tail _ (.tail _ (.tail _ (bR q hq)))) (far_cons (nw_of (ne_lt nA1.2.2.of) bk bR) (far_cons (nw_of (off1_mem o1.2) bk bR) far_nil))))) far2))
            (OutPost.intro (rn := (t.run b).join z.run) (by simp [Rn.pick, hr, hb, hpos]) (hko1.mono ?_) (by rw [hr]; exact .head _) (.tail _ (.tail _ (.head _))) (.tail _ (.head _)))
          intro p hp
          rcases List.mem_append.mp hp with hp | hp
          · exact List.mem_append_left _ (List.mem_append_right _ (.tail _ (List.mem_append_right _ (List.mem_append_right _ (List.mem_append_left _ hp)))))
          · exact List.mem_append_right _ hp
    | succ kk ih =>
      intro i ys
      refine eq_and3 ?_
      intro hy1 hy2 hy3
      refine LCt.CompRestT.succ ?_
      intro v I oI Cc oCc Dd mc hh tkk Ec hv
      revert hv
      revert v
      refine str_elim hvs ?_
      intro tv hC hx Fc Nc off ne
      k_steps
      refine knows_ok w _ kn kd S Nm C _ b tt _ n1 n2 n3 ?m1 ?m2 f4' ?m4 ?m5 ?m6 _ _ _ _ _ _ _ _ _ _ _ _ _ _ _ _ _ (by assumption) (by assumption) (by assumption) Nc (by assumption) rfl rfl ?_ ?_ ?_
      case m1 => k_mem
      case m2 => k_mem
      case m4 => k_mem
      case m5 => k_mem
      case m6 => k_mem
      · first | exact room1 hd (by decide) | (show dp + 1 + _ < _; omega)
      · first | exact room2 hu (by decide) | (show un + 3 + _ < _; omega)
      · refine out0 ?_
        intro h4 tk4 F₄ N₄
        dsimp only
        have hsrc : LCg.SrcAt g' D3 vs.toArray ((D3, lstO vs e3) :: (tl3 ++ (D2, oD2) :: (ll, lstO [] 0) :: (kp, keptO w xs1 kl1) :: (tl1 ++ (L' + 1, oc) :: R))) := Or.inr ⟨_, .head _, rfl, _, rfl⟩
        cases b
        · k_steps
          refine LCg.CompEnd.intro (by assumption) N₄ _ (fun p hp => hp) off hsrc (ih (i + 1) ys _ ⟨rfl, hy1, (fun h => nomatch h), hy3⟩)
        · k_steps
          refine LCg.CompEnd.intro (by assumption) N₄ _ (fun p hp => hp) off hsrc (ih (i + 1) (ys ++ [_]) _ ⟨rfl, (fun h => nomatch h), fun _ => ⟨by have := (hy2 rfl).1; omega, by simp [(hy2 rfl).2]⟩, fun y hy => ?_⟩)
          rcases List.mem_append.mp hy with hy | hy
          · exact hy3 y hy
          · exact ⟨tv, List.mem_singleton.mp hy⟩
  · rw [hr] at e2
    k_steps
    (rename News h₀ L _ (_ :: _ :: _ :: _ :: _ :: (kp, _) :: (tl1 ++ _)) => kN')
    (rename _ ∧ AllLt _ (tl1 ++ _) => a1)
    (rename _ ∧ _ ∧ AllLt _ (tl1 ++ _) => a2)
    (rename ∀ p : Addr × Obj, p ∈ _ :: _ :: (kp, _) :: (tl1 ++ _) → p.1 < _ => a3)
    (rename ∀ p : Addr × Obj, p ∈ _ :: _ :: _ :: (kp, _) :: (tl1 ++ _) → p.1 < _ => a4)
    (rename _ ∧ _ ∧ _ ∧ _ ∧ _ ∧ AllLt _ (tl1 ++ _) => a5)
    refine hret _ _ _ _ _ (by assumption) (out_rot (new := [_, _, _, _, _]) kN') (out_fresh ?_ hfr (Ne.symm (cR (L' + 1, oc) (.head _))) fun q hq => Nat.ne_of_lt (Nat.lt_succ_of_lt (kL.2.of q hq))) (OutPost.intro (rn := (t.run b).join z.run) (by simp [Rn.pick, hr]) (hko1.mono ?_) (by rw [hr]; exact .head _) (.tail _ (.tail _ (.head _))) (.tail _ (.head _)))
    · refine List.forall_mem_cons.mpr ⟨all_of a5.2.2.2.2.1 a5.2.2.2.2.2, List.forall_mem_cons.mpr ⟨nw_of (ne_lt a4) (.tail _ (.tail _ (.tail _ (.head _)))) fun q hq => .tail _ (.tail _ (.tail _ (.tail _ (List.mem_append_right _ (.tail _ hq))))), List.forall_mem_cons.mpr ⟨nw_of (ne_lt a3) (.tail _ (.tail _ (.head _))) fun q hq => .tail _ (.tail _ (.tail _ (List.mem_append_right _ (.tail _ hq)))),
        List.forall_mem_cons.mpr ⟨all_of a2.2.1 a2.2.2, List.forall_mem_cons.mpr ⟨all_of a1.1 a1.2, fun _ h => nomatch h⟩⟩⟩⟩⟩
    · intro p hp
      rcases List.mem_append.mp hp with hp | hp
      · exact List.mem_append_left _ (List.mem_append_right _ (List.mem_append_left _ hp))
      · exact List.mem_append_right _ hp

/-- go_test, behind the step of the place -/
noncomputable def TestOk (w : World) (tab : Nat → Option Th) (th : Th) : Prop := GoC w tab 299 th.val th.sz (th.span - 1) th.run (th.ht + 58) fun R p => ThIn w R th ∧ ∃ p0, p = p0 + 1 ∧ Cov tab p0 th

theorem node_test (w : World) (tab : Nat → Option Th) (k : Kd) (a p : Addr) (t0 y c : Th) (hk0 : k = .ifk ∨ k = .whk) (ih : TestOk w tab (.node k a p [t0, y, c])) : NodeOk w tab (.node k a p [t0, y, c]) := by
  intro R R0 x xd kn kd S C Nm lt kp od o n1 n3 n ln kl t st h0 hfix hap hpd hko hok hsz
  have hpd' := hpd
  have hfix' := hfix
  obtain ⟨f1, f2, f3, f4, f5, f6⟩ := hfix
  obtain ⟨q1, q2, q3, q4, q5, q6, rfl⟩ := hpd
  obtain ⟨hin, hcov⟩ := hok
  have hin' := hin
  refine hin.atNodeO ?_
  intro d nn v1 v2 v3 v4 v5 v6 g1 g2 g4 hl his
  have ha1 := hap.a1
  have ha2 := hap.a2
  have ha3 := hap.a3
  have hr1 := hap.r1
  obtain ⟨pl, right, known, late, xs⟩ := st
  show Cn w 266 [.ref x, .ref a] _ _ R _
  unfold MutL
  dsimp only at *
  have he : ∀ ys, (Ps.mk (pl + 1) right known late xs).step ((Th.node k a p [t0, y, c]).span - 1) ((Th.node k a p [t0, y, c]).run known) ys = (Ps.mk pl right known late xs).step (Th.node k a p [t0, y, c]).span ((Th.node k a p [t0, y, c]).run known) ys := fun ys => by
    have h : (Th.node k a p [t0, y, c]).span = 1 + ((Th.node k a p [t0, y, c]).span - 1) := ar_pred (span_test hk0)
    simp only [Ps.step]
    rw [h]
    simp only [Nat.add_sub_cancel_left, Nat.add_assoc]
  have hkno : ∀ ys : List PySem.Str, (ys.any (· == Kd.s .ifk) || ys.any (· == Kd.s .whk)) = false → ys.any (· == Kd.s k) = false := by
    intro ys h
    simp only [Bool.or_eq_false_iff] at h
    rcases hk0 with rfl | rfl
    · exact h.1
    · exact h.2
  have hkyes : ∀ ys : List PySem.Str, (ys.any (· == Kd.s .ifk) && ys.any (· == Kd.s .whk)) = true → ys.any (· == Kd.s k) = true := by
    intro ys h
    simp only [Bool.and_eq_true] at h
    rcases hk0 with rfl | rfl
    · exact h.1
    · exact h.2
  unfold Cn; k_fill; intro dp un gd A₀ base h₀ outer env L m s pp loose mean mg mb Q B F X N T hf hk hd hu hret
  simp only [List.cons_append, List.nil_append] at N
  k_dflt (refine' code_def ?k1 ?k2 ?k3 ?k4 ?k5 ?kA ?kF ?kK ?k6 ?k7 ?k8 ?k9 ?kB ?_ ?c2 ?c3 ?c4 ?c5; (case kA => exact rfl); (case kF => assumption); (case kK => assumption); (case k1 => k_asm); (case k2 => k_asm); (case k3 => k_asm); (case k4 => k_asm); (case k5 => k_asm); (case k6 => k_is); (case k7 => k_is); (case k8 => ktr_room); (case k9 => first | exact BindsTo.of_eq rfl | exact binds_K (by k_in) rfl (by k_is) rfl rfl rfl); (case c5 => decide); (case kB => exact locs rfl); (case c2 => exact rfl); (case c3 => exact rfl); (case c4 => exact rfl); k_whole; intro g' L' h' FG' F' N' B' X' T'; (try dsimp only); (try k_fold); (refine frame_name F' ?_); clear F'; intro mm' F' hfr')
  k_steps
  (rename News _ L' _ (_ :: _ :: _ :: _ :: _ :: _ :: _ :: _ :: _ :: R) => kN)
  (rename _ ∧ _ ∧ _ ∧ _ ∧ AllLt _ R => k1)
  (rename _ ∧ _ ∧ _ ∧ _ ∧ _ ∧ AllLt _ R => k2)
  (rename _ ∧ _ ∧ _ ∧ _ ∧ _ ∧ _ ∧ AllLt _ R => k3)
  (rename _ ∧ _ ∧ _ ∧ _ ∧ _ ∧ _ ∧ _ ∧ AllLt _ R => k4)
  (rename _ ∧ _ ∧ _ ∧ _ ∧ _ ∧ _ ∧ _ ∧ _ ∧ AllLt _ R => k5)
  refine cps (fun cG => ∀ (pre : Led) (o' : Obj), News g' L' _ (pre ++ (xd, o') :: (Nm, lstO (nmL known t) n) :: (lt, lstO (late.map Value.ref) ln) :: (kp, keptO w xs kl) :: R) → (∀ p ∈ pre, Abv xd Nm lt kp R p) → PassD w kn kp ((pl + 1 : Nat) : Int) lt right o' → cG) ?_ (fun ck => ck ([_, _, _, _, _]) _ kN (List.forall_mem_cons.mpr ⟨k5.2.2.2.2, List.forall_mem_cons.mpr ⟨k4.2.2.2, List.forall_mem_cons.mpr ⟨k3.2.2, List.forall_mem_cons.mpr ⟨k2.2, List.forall_mem_cons.mpr ⟨k1, fun _ h => nomatch h⟩⟩⟩⟩⟩) ⟨_, _, _, _, _, _, rfl⟩)
  intro pre o' kN hp ho'
  have key := ih (pre ++ R) R0 x xd kn kd S C Nm lt kp od o' n1 n3 n ln kl t ⟨pl + 1, right, known, late, xs⟩ (fun p hp => List.mem_append_right _ (h0 p hp)) (hfix'.mono fun p hp => List.mem_append_right _ hp) (apart_pre hap hp) ho' hko
    ⟨hin'.mono fun p hp => List.mem_append_right _ hp, pl, rfl, hcov⟩ hsz
  refine key _ _ _ _ _ _ _ _ _ _ _ _ _ _ _ _ _ (by assumption) (by assumption) (by assumption) (rot_pre kN) (by assumption) rfl rfl ?_ ?_ ?_
  · first | exact room1 hd (by decide) | (show dp + 1 + _ < _; omega)
  · first | exact room2 hu (by decide) | (show un + 3 + _ < _; omega)
  · refine GoPost.out ?_
    intro o₂ t₂ n₂ ln₂ kl₂ xs₂ tl' h'' tk' hpd₃ hko₃ F₂ N₂ hfr
    dsimp only
    rw [he] at hpd₃ N₂
    k_steps
    refine hret _ _ (tl' ++ pre) _ _ (by assumption) (News.sub (by assumption) ?_) (fresh_both hfr (fresh_pre hp)) ⟨rfl, o₂, t₂, n₂, ln₂, kl₂, xs₂, rfl, hpd₃, hko₃.mono ?_⟩
    · array_get_dec
    · array_get_dec

theorem allLt_succ {D : Nat} : ∀ {l : Led}, AllLt D l → AllLt (D + 1) l
  | [], _ => trivial
  | _ :: _, h => ⟨Nat.lt_succ_of_lt h.1, allLt_succ h.2⟩

theorem test_bare (w : World) (tab : Nat → Option Th) (k : Kd) (a p : Addr) (t0 y c : Th) (hk0 : k = .ifk ∨ k = .whk) (hwf : ThWf (.node k a p [t0, y, c])) (hsel : bodySel k y c = none) (ih : ∀ nn, GoOk w tab (.seq true p nn [t0, y, c])) : TestOk w tab (.node k a p [t0, y, c]) := by
  intro R R0 x xd kn kd S C Nm lt kp od o n1 n3 n ln kl t st h0 hfix hap hpd hko hok hsz
  have hpd' := hpd
  have hfix' := hfix
  obtain ⟨f1, f2, f3, f4, f5, f6⟩ := hfix
  obtain ⟨q1, q2, q3, q4, q5, q6, rfl⟩ := hpd
  obtain ⟨hin, p0, hp0, hcov⟩ := hok
  have hyr := (wf_test hk0 hwf).1
  have hcc := (wf_test hk0 hwf).2
  refine hin.atNodeO ?_
  intro d nn v1 v2 v3 v4 v5 v6 g1 g2 g4 hl his
  have g3' : NodeD w k p (nodeO w k p v1 v2 v3 v4 v5 v6) := ⟨_, _, _, _, _, _, rfl⟩
  obtain ⟨pl, right, known, late, xs⟩ := st
  have g4' : (p, tupO [t0.val, y.val, c.val] nn) ∈ R := g4
  show Cn w 299 [.ref x, .ref a] _ _ R _
  unfold MutL
  dsimp only at *
  unfold Cn; k_fill; intro dp un gd A₀ base h₀ outer env L m s pp loose mean mg mb Q B F X N T hf hk hd hu hret
  simp only [List.cons_append, List.nil_append] at N
  k_dflt (refine' code_defC ?k1 ?k2 ?k3 ?k4 ?k5 ?kA ?kF ?kK ?k6 ?k7 ?k8 ?k9 ?kB ?kD ?_ ?c2 ?c3 ?c4; (case kA => exact rfl); (case kF => assumption); (case kK => assumption); (case k1 => k_asm); (case k2 => k_asm); (case k3 => k_asm); (case k4 => k_asm); (case k5 => k_asm); (case k6 => k_is); (case k7 => k_is); (case k8 => ktr_room); (case k9 => first | exact BindsTo.of_eq rfl | exact binds_K (by k_in) rfl (by k_is) rfl rfl rfl); (case kB => exact rfl); (case kD => decide +kernel); (case c2 => exact rfl); (case c3 => exact rfl); (case c4 => exact rfl); k_whole; intro g' L' h' tk' cells' FG' F' N' Y' B' X' T' l1; (try k_lt l1); k_cells Y'; (try simp only [List.cons_append, List.nil_append] at N'); (try dsimp only); (try k_fold); (refine frame_name F' ?_); clear F'; intro mm' F' hfr')
  k_steps
  (rename News _ L' _ (_ :: _ :: _ :: _ :: _ :: R) => kN)
  (rename _ ∧ _ ∧ _ ∧ _ ∧ AllLt _ R => kL)
  have key := fun (led : Led) (hs : ∀ q ∈ R, q ∈ led) => body_ok w led k a p d _ nn t0 y c (hs _ g1) (hs _ g2) g3' (hs _ g4) hk0 ((his y (.tail _ (.head _))).mono hs) hyr ((his c (.tail _ (.tail _ (.head _)))).mono hs) hcc
  refine key (_ :: _ :: _ :: _ :: _ :: R) (fun q hq => .tail _ (.tail _ (.tail _ (.tail _ (.tail _ hq))))) _ _ _ _ _ _ _ _ _ _ _ _ _ _ _ _ _ (by assumption) (by assumption) (by assumption) kN (by assumption) rfl rfl ?_ ?_ ?_
  · first | exact room1 hd (by decide) | (show dp + 1 + _ < _; omega)
  · first | exact room2 hu (by decide) | (show un + 3 + _ < _; omega)
  refine out0 ?_
  intro h'' tk' F₂ N₂
  dsimp only
  have hbv : bodyVal k y c = .none := by simp only [bodyVal, hsel]
  rw [hbv]
  k_steps
  (rename News _ L' _ (_ :: _ :: _ :: _ :: _ :: _ :: R) => kN2)
  (rename _ ∧ _ ∧ _ ∧ _ ∧ _ ∧ AllLt _ R => kL2)
  refine cps (fun cG => ∀ (pre : Led) (o' : Obj), News g' L' _ (pre ++ (xd, o') :: (Nm, lstO (nmL known t) n) :: (lt, lstO (late.map Value.ref) ln) :: (kp, keptO w xs kl) :: R) → (∀ p ∈ pre, Abv xd Nm lt kp R p) → PassD w kn kp (pl : Int) lt right o' → cG) ?_ (fun ck => ck ([_, _]) _ kN2 (List.forall_mem_cons.mpr ⟨kL2.2, List.forall_mem_cons.mpr ⟨⟨Nat.lt_succ_of_lt kL.1, Nat.lt_succ_of_lt kL.2.1, Nat.lt_succ_of_lt kL.2.2.1, Nat.lt_succ_of_lt kL.2.2.2.1, allLt_succ kL.2.2.2.2⟩, fun _ h => nomatch h⟩⟩) hpd')
  intro pre o' kN3 hp ho'
  have hcv : Cov tab pl (.seq true p nn [t0, y, c]) := by rw [hp0]; exact cov_bare hk0 hsel hcov
  have he : ∀ ys, (Ps.mk pl right known late xs).step (Th.seq true p nn [t0, y, c]).span ((Th.seq true p nn [t0, y, c]).run known) ys = (Ps.mk pl right known late xs).step ((Th.node k a p [t0, y, c]).span - 1) ((Th.node k a p [t0, y, c]).run known) ys := fun ys => by
    rw [span_test hk0, run_test hk0, hsel]
    exact step_bare
  have key2 := ih nn (pre ++ R) R0 x xd kn kd S C Nm lt kp od o' n1 n3 n ln kl t ⟨pl, right, known, late, xs⟩ (fun p hp => List.mem_append_right _ (h0 p hp)) (hfix'.mono fun p hp => List.mem_append_right _ hp) (apart_pre hap hp) ho' hko
    ⟨(ThIn.seq g4 hl his).mono fun p hp => List.mem_append_right _ hp, hcv⟩ (sz_seq hsz)
  refine key2 _ _ _ _ _ _ _ _ _ _ _ _ _ _ _ _ _ (by assumption) (by assumption) (by assumption) (rot_pre kN3) (by assumption) rfl rfl ?_ ?_ ?_
  · exact room1 hd ht_plain
  · exact room2 hu ht_plain
  · refine GoPost.out ?_
    intro o₂ t₂ n₂ ln₂ kl₂ xs₂ tl' h'' tk' hpd₃ hko₃ F₂ N₂ hfr
    dsimp only
    rw [he] at hpd₃ N₂
    k_steps
    refine hret _ _ (tl' ++ pre) _ _ (by assumption) (News.sub (by assumption) ?_) (fresh_both hfr (fresh_pre hp)) ⟨rfl, o₂, t₂, n₂, ln₂, kl₂, xs₂, rfl, hpd₃, hko₃.mono ?_⟩
    · array_get_dec
    · array_get_dec

theorem cut_if {prog : Program} {w : World} {A : Around} {E : Value → Shared → Prop} {s : Shared} {env : Env} {body orelse : List Stmt} {v : Bool} {G : Flow → Shared → Prop} (J : Shared → Prop)
    (h1 : v = true → wpAny (model prog w) A (execs body env) (fun f s' => f = .next ∧ J s') E s) (h2 : v = false → wpAny (model prog w) A (execs orelse env) (fun f s' => f = .next ∧ J s') E s) (h3 : ∀ s', J s' → G .next s') :
    wpAny (model prog w) A (truthy (.bool v)) (fun b s₂ => if b = true then wpAny (model prog w) A (execs body env) G E s₂ else wpAny (model prog w) A (execs orelse env) G E s₂) E s := by
  refine wpAny_truthy_bool ?_
  cases v with
  | true =>
    rw [if_pos rfl]
    refine wpAny_mono (h1 rfl) (fun f s' h => ?_) fun _ _ e => e
    obtain ⟨rfl, hj⟩ := h
    exact h3 s' hj
  | false =>
    rw [if_neg (by decide)]
    refine wpAny_mono (h2 rfl) (fun f s' h => ?_) fun _ _ e => e
    obtain ⟨rfl, hj⟩ := h
    exact h3 s' hj
theorem body_ref {k : Kd} {y c : Th} {s0 : Bool} (hyr : IsRow y) (hcc : c = .lit .none ∨ (k = .whk ∧ ∃ x, c = .lit (.bool x)) ∨ (k = .ifk ∧ IsRow c)) (hsel : bodySel k y c = some s0) : ∃ za, (match s0 with | false => y | true => c : Th).val = .ref za := by
  cases s0 with
  | false => obtain ⟨a, p, l, n, is, rfl⟩ := hyr; exact ⟨a, rfl⟩
  | true =>
    rcases hcc with rfl | ⟨rfl, x, rfl⟩ | ⟨_, a, p, l, n, is, rfl⟩
    · simp [bodySel, isNone_none, isNone_bool] at hsel
    · simp [bodySel, isNone_none, isNone_bool] at hsel
    · exact ⟨a, rfl⟩
/-- the value alone, some more tokens drawn -/
noncomputable def IsVal (V : Value) (s : Shared) (v : Value) (s' : Shared) : Prop := v = V ∧ ∃ tk, s' = { s with toks := tk }
theorem cut_val {prog : Program} {w : World} {A : Around} {E : Value → Shared → Prop} {s : Shared} {x : Sem Value} {Q : Value → Shared → Prop} (V : Value)
    (h1 : wpAny (model prog w) A x (IsVal V s) E s) (h2 : ∀ tk, Q V { s with toks := tk }) : wpAny (model prog w) A x Q E s := by
  refine wpAny_mono h1 (fun v s' h => ?_) fun _ _ e => e
  obtain ⟨rfl, tk, rfl⟩ := h
  exact h2 tk

inductive PlJ (x Nm : Addr) (known : Bool) (R : Led) (i : Nat) (m : PySem.Str → Option Value) (nx : Led) : Prop
  | ex (t' : _) (n' : _) (h1 : m (Str.ofString "self") = some (.ref x)) (h2 : nx = (Nm, lstO (nmL (known || decide (0 < i)) t') n') :: R)
theorem PlJ.elim {x Nm : Addr} {known : Bool} {R : Led} {i : Nat} {m : PySem.Str → Option Value} {P : Led → Prop} (k : ∀ t' n', m (Str.ofString "self") = some (.ref x) → P ((Nm, lstO (nmL (known || decide (0 < i)) t') n') :: R)) : ∀ nx, PlJ x Nm known R i m nx → P nx := by
  intro nx h
  obtain ⟨t', n', h1, rfl⟩ := h
  exact k t' n' h1
theorem places_ok (w : World) (R : Led) (x xd kn kd S C Nm lt kp nz : Addr) (od o : Obj) (n1 n3 n n2 : Nat) (t tt : Tok) (known nb right : Bool) (pl : Int) (hfix : Fix w R x xd kn kd S C Nm od n1 n3) (hxd : (xd, o) ∈ R) (hpd : PassD w kn kp pl lt right o)
    (hnz : (nz, lstO (nmL nb tt) n2) ∈ R) (hR : ∀ q ∈ R, q.1 ≠ Nm) : Cn w 287 [.ref x, .ref nz] 40 [(Nm, lstO (nmL known t) n)] R (fun r M' tl => r = .none ∧ (∃ t' n', M' = [(Nm, lstO (nmL (known || nb) t') n')]) ∧ tl = []) := by
  obtain ⟨f1, f2, f3, f4, f5, f6⟩ := hfix
  have f4' := f4
  obtain ⟨u1, u2, rfl⟩ := f4
  obtain ⟨q1, q2, q3, q4, q5, q6, rfl⟩ := hpd
  unfold Cn; k_fill; intro dp un gd A₀ base h₀ outer env L m s pp loose mean mg mb Q B F X N T hf hk hd hu hret
  simp only [List.cons_append, List.nil_append] at N
  k_dflt (refine' code_def ?k1 ?k2 ?k3 ?k4 ?k5 ?kA ?kF ?kK ?k6 ?k7 ?k8 ?k9 ?kB ?_ ?c2 ?c3 ?c4 ?c5; (case kA => exact rfl); (case kF => assumption); (case kK => assumption); (case k1 => k_asm); (case k2 => k_asm); (case k3 => k_asm); (case k4 => k_asm); (case k5 => k_asm); (case k6 => k_is); (case k7 => k_is); (case k8 => ktr_room); (case k9 => first | exact BindsTo.of_eq rfl | exact binds_K (by k_in) rfl (by k_is) rfl rfl rfl); (case c5 => decide); (case kB => exact locs rfl); (case c2 => exact rfl); (case c3 => exact rfl); (case c4 => exact rfl); k_whole; intro g' L' h' FG' F' N' B' X' T'; (try dsimp only); (try k_fold); (refine frame_name F' ?_); clear F'; intro mm' F' hfr')
  k_steps
  (rename News _ L' _ ((Nm, _) :: R) => kN)
  (rename Fr _ L' _ _ => kF)
  refine loop_sq (tup := false) (PlJ x Nm known R) rfl (.tail _ hnz) kF kN ⟨t, n, by tb_rel, by simp⟩ ?_ ?_
  · clear kN kF
    intro I i v m₁ news₁ h tk oI hv hI1 hI2 hmem hJ0
    revert hI2 hmem
    revert hJ0
    revert news₁
    refine PlJ.elim ?_
    intro t' n' e1 hI2 hmem F₁ N₁
    cases nb with
    | false => simp [nmL] at hv
    | true =>
      obtain ⟨rfl, rfl⟩ : i = 0 ∧ v = .str sA tt := by
        rcases i with _ | i
        · exact ⟨rfl, by simpa [nmL] using hv.symm⟩
        · simp [nmL] at hv
      have e0 : (known || decide (0 < 0)) = known := by simp
      rw [e0] at N₁
      k_steps
      have key := declare_ok w ((I, oI) :: R) kn kd S Nm C _ known t' tt n1 n' n3 (.tail _ f2) (.tail _ f3) f4' (.tail _ f5) (.tail _ f6) (fun q hq => ?_)
      refine key _ _ _ _ _ _ _ _ _ _ _ _ _ _ _ _ _ (by assumption) (by assumption) (by assumption) ?_ (by assumption) rfl rfl ?_ ?_ ?_
      · exact News.sub (by assumption) (by array_get_dec)
      · first | exact room1 hd (by decide) | (show dp + 1 + _ < _; omega)
      · first | exact room2 hu (by decide) | (show un + 3 + _ < _; omega)
      · refine out1 ?_
        intro t2 n2' h'' tk' F₂ N₂
        dsimp only
        k_steps
        refine SqEnd.intro (nx := (Nm, lstO (nmL true t2) n2') :: R) (by assumption) (News.sub N₂ (by array_get_dec)) ?_ (.tail _ hnz) ⟨t2, n2', by tb_rel, by simp⟩
        intro p hp
        rcases List.mem_cons.mp hp with rfl | hp
        · have h := hI2 _ (.head _)
          exact h
        · exact hI2 p (.tail _ hp)
      · rcases List.mem_cons.mp hq with rfl | hq
        · exact Ne.symm (hI2 (Nm, _) (.head _))
        · exact hR q hq
  · clear kN kF
    intro m₁ nx h tk hmem hJ0
    revert hmem
    revert hJ0
    revert nx
    refine PlJ.elim ?_
    intro t' n' e1 hmem F₁ N₁
    have e2 : (known || decide (0 < (nmL nb tt).length)) = (known || nb) := by cases nb <;> simp [nmL]
    rw [e2] at N₁
    k_steps
    exact hret _ [_] [] _ _ (by assumption) (by assumption) (fun _ _ _ h => nomatch h) ⟨rfl, ⟨t', n', rfl⟩, rfl⟩

theorem nm_of {b : Bool} {vs : List Value} (h1 : b = false → vs = []) (h2 : b = true → ∃ tk, vs = [.str sA tk]) : ∃ tt, vs = nmL b tt := by
  cases b with
  | false => exact ⟨0, h1 rfl⟩
  | true => exact h2 rfl
theorem nm_len (b : Bool) (t : Tok) : (nmL b t).length < 1000000 := by cases b <;> simp [nmL]
theorem KeptOk.add {w : World} {R : Led} {tab : Nat → Option Th} {xs : List MX} {x : MX} (h : KeptOk w R tab xs) (hn : x.1 ∉ xs.map (·.1)) (he : EntryOk w R tab x) : KeptOk w R tab (xs ++ [x]) := by
  refine ⟨?_, fun e h' => ?_⟩
  · rw [List.map_append, List.nodup_append]
    refine ⟨h.1, by simp, ?_⟩
    intro a ha b hb
    simp only [List.map_cons, List.map_nil, List.mem_singleton] at hb
    rintro rfl
    exact hn (hb ▸ ha)
  · rcases List.mem_append.mp h' with h' | h'
    · exact h.2 e h'
    · rw [List.mem_singleton.mp h']; exact he
theorem entry_i {w : World} {R : Led} {tab : Nat → Option Th} {pl : Nat} {k : Kd} {a p : Addr} {t y c z : Th} {s : Bool} {A tx : Addr} {tp tt t1 t2 : Tok} {n : Nat} (h1 : tab pl = some (.node k a p [t, y, c])) (h2 : k = .ifk ∨ k = .whk) 
    (hz : z = match s with | false => y | true => c) (h3 : bodySel k y c = some s) (h4 : (A, tupO [.ref tx, .int (t.sz : Int) t1, .int (z.sz : Int) t2] 0) ∈ R) (h5 : (tx, lstO (nmL (Th.textss [t, y, c]) tt) n) ∈ R) : EntryOk w R tab (.i pl, .int (pl : Int) tp, .ref A) := by
  subst hz
  exact ⟨⟨tp, rfl⟩, k, a, p, t, y, c, s, A, tx, tt, n, t1, t2, h1, h2, h3, rfl, by cases s <;> exact h4, h5⟩
theorem entry_t {w : World} {R : Led} {tab : Nat → Option Th} {q : Nat} {nd : Th} {known : Bool} {K T A l nz : Addr} {t t' tt : Tok} {n1 n2 : Nat} {rn : Rn} (hw : ThWf nd) (h1 : tab q = some nd) (hr : rn = nd.run known) (hK : (K, tupO [.int (q : Int) t, .ref T] 0) ∈ R) (hT : (T, tupO (nmL (known && nd.texts) t') 0) ∈ R)
    (hA : (A, tupO [.bool rn.right, .ref l, .ref nz] 0) ∈ R) (hl : (l, lstO (rn.late.map Value.ref) n1) ∈ R) (hn : (nz, lstO (nmL (rn.known && !known) tt) n2) ∈ R) : EntryOk w R tab (.t q (known && nd.texts), .ref K, .ref A) := by
  subst hr
  refine ⟨⟨K, T, t, t', rfl, hK, hT⟩, nd, A, l, nz, tt, n1, n2, _, _, _, h1, rfl, hA, hl, hn, ?_⟩
  intro kb hkb
  cases hx : nd.texts with
  | true =>
    rw [hx, Bool.and_true, Bool.and_true] at hkb
    subst hkb
    exact ⟨rfl, rfl, rfl⟩
  | false =>
    have h := (run_same hw hx).2
    refine ⟨(h kb).1.trans (h known).1.symm, (h kb).2.1.trans (h known).2.1.symm, ?_⟩
    rw [(h kb).2.2, (h known).2.2]
    cases kb <;> cases known <;> rfl
theorem known_after {nd : Th} (hw : ThWf nd) (known : Bool) : (known || ((nd.run known).known && !known)) = (nd.run known).known := by
  cases known with
  | true => rw [run_true hw]; rfl
  | false => simp
theorem body_node {k : Kd} {y c : Th} {s0 : Bool} (hyr : IsRow y) (hcc : c = .lit .none ∨ (k = .whk ∧ ∃ x, c = .lit (.bool x)) ∨ (k = .ifk ∧ IsRow c)) (hsel : bodySel k y c = some s0) : ∃ k' a' q' is', (match s0 with | false => y | true => c : Th) = .node k' a' q' is' := by
  cases s0 with
  | false => obtain ⟨a, p, l, n, is, rfl⟩ := hyr; exact ⟨_, _, _, _, rfl⟩
  | true =>
    rcases hcc with rfl | ⟨rfl, x, rfl⟩ | ⟨_, a, p, l, n, is, rfl⟩
    · simp [bodySel, isNone_none, isNone_bool] at hsel
    · simp [bodySel, isNone_none, isNone_bool] at hsel
    · exact ⟨_, _, _, _, rfl⟩
theorem far4 {D xd Nm lt kp : Addr} {o1 o2 o3 o4 : Obj} {R : Led} (g : ∀ q ∈ ((xd, o1) :: (Nm, o2) :: (lt, o3) :: (kp, o4) :: R : Led), (@LT.lt Nat _ q.1 D)) : (D ≠ xd ∧ D ≠ Nm ∧ D ≠ lt ∧ D ≠ kp) ∧ ∀ q ∈ R, q.1 ≠ D :=
  ⟨⟨Nat.ne_of_gt (g _ (.head _)), Nat.ne_of_gt (g _ (.tail _ (.head _))), Nat.ne_of_gt (g _ (.tail _ (.tail _ (.head _)))), Nat.ne_of_gt (g _ (.tail _ (.tail _ (.tail _ (.head _)))))⟩, fun q hq => Nat.ne_of_lt (g q (.tail _ (.tail _ (.tail _ (.tail _ hq)))))⟩
section
variable {prog : Program} {w : World} {A : Around} {E : Value → Shared → Prop} {s : Shared} {h₀ : Heap} {L : Addr} {m : PySem.Str → Option Value} {Q : Value → Shared → Prop} {news : Led}
theorem tup_N {l : Addr} {ys : List Value} {n : Nat} (F : Fr h₀ L s.heap m) (N : News h₀ L s.heap news) (hm : (l, lstO ys n) ∈ news) (hz : ys.length ≤ 16384)
    (h : ∀ D h', Fr h₀ L h' m → News h₀ L h' ((D, tupO ys 0) :: news) → (∀ p ∈ news, p.1 < D) → Q (.ref D) { s with heap := h' }) : wpAny (model prog w) A (call (.type "tuple") [.ref l]) Q E s :=
  kde_tupleOf (items := ys.toArray) F N ⟨_, (N _ hm).1, rfl, n, rfl⟩ (by rw [List.size_toArray]; exact hz) (by simp) h
end
theorem nm_len2 (b : Bool) (t : Tok) : (nmL b t).length ≤ 16384 := by cases b <;> simp [nmL]

section
variable {prog : Program} {w : World} {A : Around} {E : Value → Shared → Prop} {s : Shared} {d : Addr} {key : Value} {k : MK} {xs : List MX} {n : Nat} {h₀ : Heap} {L : Addr} {m : PySem.Str → Option Value} {news : Led}
theorem mx_modify {w : World} {xs : List MX} {j : Nat} {k : MK} {p : Value × Value} {v : Value} (hj : xs[j]? = some (k, p)) :
    ((xs.map (mxE w)).toArray.modify j fun e => { e with val := v }) = ((xs.set j (k, p.1, v)).map (mxE w)).toArray := by
  apply Array.ext_getElem?
  intro i
  rw [Array.getElem?_modify]
  by_cases hi : j = i
  · subst hi
    have hlt := (List.getElem?_eq_some_iff.mp hj).1
    have hg := (List.getElem?_eq_some_iff.mp hj).2
    simp [mxE, List.getElem?_set, hlt, hg]
  · simp [hi, List.getElem?_set]
theorem kept_set {v : Value} {Q : Unit → Shared → Prop} (hu : A.units + 4 < cLine) (hk : MkAt s.heap k key) (K : KeptAt w s.heap d xs n) (hin : k ∈ xs.map (·.1))
    (h : ∀ j p tk, xs[j]? = some (k, p) → Q () { s with heap := s.heap.update d (Obj.mapDict (·.modify j fun e => { e with val := v })), toks := tk }) : wpAny (model prog w) A (setItem (.ref d) key v) Q E s := by
  unfold setItem
  try with_reducible refine wpAny_holding ?_
  refine wpAny_bind (wpAny_sequenceKey K.typeIs (by decide) ?_)
  refine wpAny_bind (wpAny_callSpecial?_slot (name := Str.ofString "__setitem__") K.typeIs slot_dict_setitem
    (wpAny_call_entry slot_dict_setitem K.typeIs entry_dict_setitem ?_ (args_dict_setitem _ _ _)))
  show wpAny _ _ (Builtin.Dict.notOrdered "__setitem__" ⟨[.ref d, key, v], []⟩ >>= _) _ _ s
  refine wpAny_bind (wpAny_notOrdered_dict K.typeIs ?_)
  show wpAny _ _ (dictSet d key v >>= _) _ _ s
  refine wpAny_bind ?_
  unfold dictSet
  try with_reducible refine wpAny_holding ?_
  refine wpAny_bind (mk_hash (by show A.units + 1 + 3 < _; omega) hk fun tk => ?_)
  unfold dictSetHashed
  try with_reducible refine wpAny_holding ?_
  refine wpAny_bind (mk_find (s := { s with toks := tk }) (by show A.units + 1 + 3 < _; omega) hk K.get rfl (by simp) K.keys K.nodup ?_ ?_)
  · intro hno
    exact absurd hin (kept_none hno)
  · intro j p hj
    refine wpAny_bind (wpAny_rule (wpAny_bind (wpAny_updateDict (s := { s with toks := tk }) K.get rfl (wpAny_point ?_) ?_)))
    · exact wpAny_pure ⟨.none, rfl, wpAny_pure (h j p tk hj)⟩
    · simp
theorem kept_setN {v : Value} {g : Obj → Led} {Q : Unit → Shared → Prop} (hu : A.units + 4 < cLine) (F : Fr h₀ L s.heap m) (N : News h₀ L s.heap news) (U : UpdF d (keptO w xs n) news g) (hx : ∀ x ∈ xs, MkIn news x.1 x.2.1) (hn : (xs.map (·.1)).Nodup) (hk : MkIn news k key) (hz : xs.length < 1000000)
    (h : ∀ h' tk xs2 n2, Fr h₀ L h' m → News h₀ L h' (g (keptO w xs2 n2)) → (xs2.map (·.1)).Nodup → k ∈ xs2.map (·.1) → (∀ x ∈ xs2, x ∈ xs ∨ (x.1 = k ∧ x.2.2 = v ∧ (x.2.1 = key ∨ ∃ u, (k, x.2.1, u) ∈ xs))) → Q () { s with heap := h', toks := tk }) : wpAny (model prog w) A (setItem (.ref d) key v) Q E s := by
  by_cases hin : k ∈ xs.map (·.1)
  · have U' := U
    obtain ⟨pre, post, rfl, hg, a, b⟩ := U.split
    have hm := N (d, keptO w xs n) (List.mem_append_right _ (.head _))
    refine kept_set hu (hk.at N) (keptAt_of N (List.mem_append_right _ (.head _)) hx hn) hin fun j p tk hj => h _ tk (xs.set j (k, p.1, v)) n (F.change (Heap.SameBut.update ..) hm.2.1 hm.2.2) ?_ ?_ ?_ ?_
    · rw [hg]
      refine N.setIn a b (Heap.SameBut.update ..) ?_
      rw [Heap.get?_update_self _ hm.1 rfl]
      exact congrArg some (keptO_mod (mx_modify (w := w) (v := v) hj))
    · have e : (xs.set j (k, p.1, v)).map (·.1) = xs.map (·.1) := by
        apply List.ext_getElem?
        intro i
        rw [List.getElem?_map, List.getElem?_map, List.getElem?_set]
        split
        · rename_i hi
          subst hi
          rw [hj]
          simp [(List.getElem?_eq_some_iff.mp hj).1]
        · rfl
      rw [e]
      exact hn
    · exact List.mem_map.mpr ⟨_, List.mem_set (List.getElem?_eq_some_iff.mp hj).1 _, rfl⟩
    · intro x hx'
      rcases List.mem_or_eq_of_mem_set hx' with hx' | rfl
      · exact .inl hx'
      · exact .inr ⟨rfl, rfl, .inr ⟨p.2, List.mem_of_getElem? hj⟩⟩
  · refine kept_storeN hu F N U hx hn hk hin hz fun h' tk F' N' => h h' tk _ _ F' N' ?_ ?_ ?_
    · rw [List.map_append, List.nodup_append]
      refine ⟨hn, by simp, ?_⟩
      intro a ha b hb
      simp only [List.map_cons, List.map_nil, List.mem_singleton] at hb
      rintro rfl
      exact hin (hb ▸ ha)
    · simp
    · intro x hx'
      rcases List.mem_append.mp hx' with hx' | hx'
      · exact .inl hx'
      · rw [List.mem_singleton.mp hx']
        exact .inr ⟨rfl, rfl, .inl rfl⟩
end
theorem KeptOk.put {w : World} {R : Led} {tab : Nat → Option Th} {xs xs2 : List MX} {k : MK} {key v : Value} (h : KeptOk w R tab xs) (hn : (xs2.map (·.1)).Nodup) (hx : ∀ x ∈ xs2, x ∈ xs ∨ (x.1 = k ∧ x.2.2 = v ∧ (x.2.1 = key ∨ ∃ u, (k, x.2.1, u) ∈ xs)))
    (he : EntryOk w R tab (k, key, v)) : KeptOk w R tab xs2 := by
  refine ⟨hn, fun x hx' => ?_⟩
  rcases hx x hx' with h1 | ⟨h1, h2, h3⟩
  · exact h.2 x h1
  · obtain ⟨k', kv, v'⟩ := x
    dsimp only at h1 h2 h3
    subst h1 h2
    have hm : MkIn R k' kv := by
      rcases h3 with rfl | ⟨u, hu⟩
      · exact he.1
      · exact (h.2 _ hu).1
    cases k' with
    | i q => exact ⟨hm, he.2⟩
    | t q b => exact ⟨hm, he.2⟩
theorem far7 {K a b c xd Nm lt kp : Addr} {R : Led} (h : a < K ∧ b < K ∧ c < K ∧ xd < K ∧ Nm < K ∧ lt < K ∧ kp < K ∧ AllLt K R) : (K ≠ xd ∧ K ≠ Nm ∧ K ≠ lt ∧ K ≠ kp) ∧ ∀ q ∈ R, q.1 ≠ K :=
  ⟨⟨Nat.ne_of_gt h.2.2.2.1, Nat.ne_of_gt h.2.2.2.2.1, Nat.ne_of_gt h.2.2.2.2.2.1, Nat.ne_of_gt h.2.2.2.2.2.2.1⟩, fun q hq => Nat.ne_of_lt (h.2.2.2.2.2.2.2.of q hq)⟩
theorem far8 {K a b c d xd Nm lt kp : Addr} {R : Led} (h : a < K ∧ b < K ∧ c < K ∧ d < K ∧ xd < K ∧ Nm < K ∧ lt < K ∧ kp < K ∧ AllLt K R) : (K ≠ xd ∧ K ≠ Nm ∧ K ≠ lt ∧ K ≠ kp) ∧ ∀ q ∈ R, q.1 ≠ K := far7 h.2
theorem far6 {K a b xd Nm lt kp : Addr} {R : Led} (h : a < K ∧ b < K ∧ xd < K ∧ Nm < K ∧ lt < K ∧ kp < K ∧ AllLt K R) : (K ≠ xd ∧ K ≠ Nm ∧ K ≠ lt ∧ K ≠ kp) ∧ ∀ q ∈ R, q.1 ≠ K :=
  ⟨⟨Nat.ne_of_gt h.2.2.1, Nat.ne_of_gt h.2.2.2.1, Nat.ne_of_gt h.2.2.2.2.1, Nat.ne_of_gt h.2.2.2.2.2.1⟩, fun q hq => Nat.ne_of_lt (h.2.2.2.2.2.2.of q hq)⟩
section
variable {prog : Program} {w : World} {A : Around} {E : Value → Shared → Prop} {s : Shared} {d : Addr} {key : Value} {k : MK} {xs : List MX} {n : Nat} {h₀ : Heap} {L : Addr} {news : Led}
theorem kept_itemA {value slice : PySem.Expr} {Q : Value → Shared → Prop} (hu : A.units + 4 < cLine) (N : News h₀ L s.heap news) (hm : (d, keptO w xs n) ∈ news) (hx : ∀ x ∈ xs, MkIn news x.1 x.2.1) (hn : (xs.map (·.1)).Nodup) (hk : MkIn news k key) (hin : k ∈ xs.map (·.1))
    (h : ∀ kv v, (k, kv, v) ∈ xs → ∀ tk, Q v { s with toks := tk })
    (hs : subscripted slice false (.ref d) key = operate [.ref d, key] (getItem (.ref d) key)) : wpAny (model prog w) A (subscriptTail value slice (.ref d) key) Q E s :=
  have K := keptAt_of (s := s) N hm hx hn
  tail_any K.typeIs slot_dict_getitem.lookup (kept_item hu (hk.at N) K hin h) hs
end
theorem fresh_out {xd Nm lt kp : Addr} {o1 o2 o3 o4 : Obj} {R tl : Led} (h : ∀ p ∈ tl, (p.1 ≠ xd ∧ p.1 ≠ Nm ∧ p.1 ≠ lt ∧ p.1 ≠ kp) ∧ ∀ q ∈ R, q.1 ≠ p.1) : ∀ q ∈ [(xd, o1), (Nm, o2), (lt, o3), (kp, o4)] ++ R, ∀ p ∈ tl, q.1 ≠ p.1 := by
  intro q hq p hp
  have h1 := h p hp
  simp only [List.cons_append, List.nil_append, List.mem_cons] at hq
  rcases hq with rfl | rfl | rfl | rfl | hq
  · exact Ne.symm h1.1.1
  · exact Ne.symm h1.1.2.1
  · exact Ne.symm h1.1.2.2.1
  · exact Ne.symm h1.1.2.2.2
  · exact h1.2 q hq

local macro_rules | `(tactic| walk_at "compareOp NotIn int ref") => `(tactic| (k_here; refine Stop.intro ?_))
local macro_rules | `(tactic| walk_at "compareOp NotIn ref ref") => `(tactic| (k_here; refine Stop.intro ?_))
local macro_rules | `(tactic| walk_at "eval BoolOp") => `(tactic| (k_here; (with_reducible show wpAny _ _ (eval (PySem.Expr.BoolOp _ [PySem.Expr.Attribute _ _ _, PySem.Expr.Name _ _] _) _) _ _ _); (fail_if_success with_reducible show wpAny _ _ _ (IsVal _ _) _ _); refine Stop.intro ?_))
local macro_rules | `(tactic| walk_at "setItem ref int") => `(tactic| (k_here; (with_reducible show wpAny _ _ (setItem (Value.ref _) (Value.int _ _) (Value.ref _)) _ _ _); refine Stop.intro ?_))
local macro_rules | `(tactic| walk_at "setItem ref ref") => `(tactic| (k_here; (with_reducible show wpAny _ _ (setItem (Value.ref _) (Value.ref _) (Value.ref _)) _ _ _); refine Stop.intro ?_))
local macro_rules | `(tactic| walk_at "call builtin:sorted") => `(tactic| (walk_at "m bi"; k_dflt (refine tx_sorted (by exact rfl) (by k_asm) (by k_asm) (by k_mem) (by assumption) ?_); intro _ _ _ _ _ _ _ _ _ _))
local macro_rules | `(tactic| walk_at "last subscriptTail") => `(tactic| (k_here; (with_reducible show wpAny _ _ (subscriptTail (PySem.Expr.Attribute _ _ _) (PySem.Expr.Name _ _) (Value.ref _) (Value.int _ _)) _ _ _); refine Stop.intro ?_))
local macro_rules | `(tactic| walk_at "last subscriptTail") => `(tactic| (k_here; (with_reducible show wpAny _ _ (subscriptTail (PySem.Expr.Attribute _ _ _) (PySem.Expr.Name _ _) (Value.ref _) (Value.ref _)) _ _ _); refine Stop.intro ?_))
local macro_rules | `(tactic| walk_at "call type:tuple") => `(tactic| (walk_at "m ty"; k_dflt (refine tup_N (by k_asm) (by k_asm) (by k_mem) (by assumption) ?_); intro _ _ _ _; walk_at "m lt"))
/-- what stands behind each `if` of go_test: the kept dict has the key -/
inductive TestJ (w : World) (tab : Nat → Option Th) (s : Shared) (g' : Heap) (L' : Addr) (mm : PySem.Str → Option Value) (ahead : Led) (xd Nm lt kp : Addr) (R R0 : Led) (key : MK) (s' : Shared) : Prop
  | ex (hh : _) (tk : _) (xs' : _) (kl' : _) (tl : _) (h1 : s' = { s with heap := hh, toks := tk }) (h2 : Fr g' L' hh mm) (h3 : News g' L' hh (ahead ++ (kp, keptO w xs' kl') :: (tl ++ R))) (h4 : KeptOk w (tl ++ R0) tab xs') (h5 : key ∈ xs'.map (·.1)) (h6 : ∀ p ∈ tl, (p.1 ≠ xd ∧ p.1 ≠ Nm ∧ p.1 ≠ lt ∧ p.1 ≠ kp) ∧ ∀ q ∈ R, q.1 ≠ p.1)

theorem TestJ.elim {w : World} {tab : Nat → Option Th} {s : Shared} {g' : Heap} {L' : Addr} {mm : PySem.Str → Option Value} {ahead : Led} {xd Nm lt kp : Addr} {R R0 : Led} {key : MK} {P : Shared → Prop}
    (g : ∀ hh tk xs' kl' tl, Fr g' L' hh mm → News g' L' hh (ahead ++ (kp, keptO w xs' kl') :: (tl ++ R)) → KeptOk w (tl ++ R0) tab xs' → key ∈ xs'.map (·.1) → (∀ p ∈ tl, (p.1 ≠ xd ∧ p.1 ≠ Nm ∧ p.1 ≠ lt ∧ p.1 ≠ kp) ∧ ∀ q ∈ R, q.1 ≠ p.1) → P { s with heap := hh, toks := tk }) : ∀ s', TestJ w tab s g' L' mm ahead xd Nm lt kp R R0 key s' → P s' := by
  rintro s' ⟨hh, tk, xs', kl', tl, rfl, h1, h2, h3, h4, h5⟩
  exact g hh tk xs' kl' tl h1 h2 h3 h4 h5
/-- what stands under a place -/
theorem kept_get_i {w : World} {R : Led} {tab : Nat → Option Th} {xs : List MX} {q : Nat} {k : Kd} {a p : Addr} {t0 y c z : Th} {s0 : Bool} {kv : Value} {P : Value → Prop} (hko : KeptOk w R tab xs) (hzs : z = match s0 with | false => y | true => c) (ht : tab q = some (.node k a p [t0, y, c])) (hsel : bodySel k y c = some s0)
    (g : ∀ A tx tt nt ta tb, (A, tupO [.ref tx, .int (t0.sz : Int) ta, .int (z.sz : Int) tb] 0) ∈ R → (tx, lstO (nmL (Th.textss [t0, y, c]) tt) nt) ∈ R → P (.ref A)) : ∀ v, (MK.i q, kv, v) ∈ xs → P v := by
  intro v hv
  obtain ⟨_, e1⟩ := hko.2 _ hv
  obtain ⟨k1, a1, p1, t1, y1, c1, s1, A, tx, tt, nt, ta, tb, e2, e3, e4, rfl, e5, e6⟩ := e1
  rw [ht] at e2
  cases e2
  rw [hsel] at e4
  cases e4
  exact g A tx tt nt ta tb (by rw [hzs]; cases s0 <;> exact e5) e6
theorem kept_get_t {w : World} {R : Led} {tab : Nat → Option Th} {xs : List MX} {q : Nat} {nd : Th} {known : Bool} {kv : Value} {P : Value → Prop} (hko : KeptOk w R tab xs) (ht : tab q = some nd)
    (g : ∀ A l nz tt n1 n2, (A, tupO [.bool (nd.run known).right, .ref l, .ref nz] 0) ∈ R → (l, lstO ((nd.run known).late.map Value.ref) n1) ∈ R → (nz, lstO (nmL ((nd.run known).known && !known) tt) n2) ∈ R → P (.ref A)) : ∀ v, (MK.t q (known && nd.texts), kv, v) ∈ xs → P v := by
  intro v hv
  obtain ⟨_, nd', A2, l2, nz, tt2, n21, n22, rt, lts, nb, e7, rfl, e8, e9, e10, e11⟩ := hko.2 _ hv
  rw [ht] at e7
  cases e7
  obtain ⟨rfl, rfl, rfl⟩ := e11 known rfl
  exact g A2 l2 nz tt2 n21 n22 e8 e9 e10
theorem comp_z0 {X : List Value} {nw0 nw1 : Led} {B : List Value → Prop} {P : List Value → Led → Prop} (hn : nw0 = nw1) (g : P X nw1) : ∀ ys nw, (nw = nw0 ∧ (0 = 0 → ys = X) ∧ B ys) → P ys nw := by
  rintro ys nw ⟨rfl, h, -⟩
  rw [h rfl, hn]
  exact g
theorem comp_z1 {T : Bool} {nw0 nw1 : Led} {kk : Nat} {A : List Value → Prop} {P : Nat → List Value → Led → Prop} (hn : nw0 = nw1) (g : kk = 0 → T = true → P 0 [] nw1) :
    ∀ i ys nw, (nw = nw0 ∧ (kk + 1 = 0 → A ys) ∧ (kk + 1 ≠ 0 → kk + 1 = 1 ∧ i = 0 ∧ T = true ∧ ys = [])) → P i ys nw := by
  rintro i ys nw ⟨rfl, -, h⟩
  obtain ⟨h1, rfl, h2, rfl⟩ := h (Nat.succ_ne_zero _)
  rw [hn]
  exact g (Nat.succ.inj h1) h2
theorem nm_elim {T : Bool} {tt : Tok} {P : Value → Prop} (hT : T = true) (g : P (.str sA tt)) : ∀ v, (nmL T tt).toArray[0]? = some v → P v := by
  intro v hv
  rw [hT] at hv
  obtain rfl : v = .str sA tt := by simpa [nmL] using hv.symm
  exact g
theorem nmL_le {b : Bool} {t : Tok} : (nmL b t).length ≤ 16777216 := by cases b <;> simp [nmL]
theorem test_body (w : World) (tab : Nat → Option Th) (htab : TabOk tab) (k : Kd) (a p : Addr) (t0 y c : Th) (s0 : Bool) (z : Th) (hzs : z = match s0 with | false => y | true => c) (hk0 : k = .ifk ∨ k = .whk) (hwf : ThWf (.node k a p [t0, y, c])) (hsel : bodySel k y c = some s0)
    (iht : GoOk w tab t0) (ihz : GoOk w tab z) : TestOk w tab (.node k a p [t0, y, c]) := by
  intro R R0 x xd kn kd S C Nm lt kp od o n1 n3 n ln kl t st h0 hfix hap hpd hko hok hsz
  have hpd' := hpd
  have hfix' := hfix
  obtain ⟨f1, f2, f3, f4, f5, f6⟩ := hfix
  have f4' := f4
  obtain ⟨u1, u2, rfl⟩ := f4
  obtain ⟨q1, q2, q3, q4, q5, q6, rfl⟩ := hpd
  obtain ⟨hin, p0, hp0, hcov⟩ := hok
  have hin' := hin
  have hyr := (wf_test hk0 hwf).1
  have hcc := (wf_test hk0 hwf).2
  refine hin.atNodeO ?_
  intro d nn v1 v2 v3 v4 v5 v6 g1 g2 g4 hl his
  have g3' : NodeD w k p (nodeO w k p v1 v2 v3 v4 v5 v6) := ⟨_, _, _, _, _, _, rfl⟩
  obtain ⟨pl, right, known, late, xs⟩ := st
  have g4' : (p, tupO [t0.val, y.val, c.val] nn) ∈ R := g4
  have hzv : ∃ za, z.val = .ref za := by
    rw [hzs]
    exact body_ref hyr hcc hsel
  obtain ⟨za, hza⟩ := hzv
  have hT : ThIn w R t0 := his t0 (.head _)
  have hZ : ThIn w R z := by
    rw [hzs]
    cases s0
    · exact his y (.tail _ (.head _))
    · exact his c (.tail _ (.tail _ (.head _)))
  have hcv : tab pl = some (.node k a p [t0, y, c]) ∧ Cov tab pl t0 ∧ Cov tab (pl + t0.sz) z ∧ ∃ k' a' q' is', t0 = .node k' a' q' is' := by
    have hp0' : pl = p0 + 1 := hp0
    rw [hp0']
    exact cov_body hk0 hzs hsel hcov
  obtain ⟨ht1, ht2, ht3, hnode⟩ := hcv
  have hnodez : ∃ k' a' q' is', z = .node k' a' q' is' := by
    rw [hzs]
    exact body_node hyr hcc hsel
  have hsz0 : (Th.node k a p [t0, y, c]).sz = 1 + (t0.sz + (y.sz + (c.sz + 0))) := rfl
  have hht : t0.ht + 6 ≤ (Th.node k a p [t0, y, c]).ht ∧ z.ht + 6 ≤ (Th.node k a p [t0, y, c]).ht := by
    have h0 : (Th.node k a p [t0, y, c]).ht = 6 + Th.hts [t0, y, c] := rfl
    have h1 := Th.ht_mem (i := t0) (is := [t0, y, c]) (.head _)
    have h2 := Th.ht_mem (i := y) (is := [t0, y, c]) (.tail _ (.head _))
    have h3 := Th.ht_mem (i := c) (is := [t0, y, c]) (.tail _ (.tail _ (.head _)))
    rw [hzs]
    cases s0
    · exact ⟨ar_ht6 h1, ar_ht6 h2⟩
    · exact ⟨ar_ht6 h1, ar_ht6 h3⟩
  have hzsz : z.sz ≤ y.sz + c.sz := by
    rw [hzs]
    cases s0
    · exact Nat.le_add_right _ _
    · exact Nat.le_add_left _ _
  show Cn w 299 [.ref x, .ref a] _ _ R _
  unfold MutL
  dsimp only at *
  have hzyc : z = y ∨ z = c := by
    rw [hzs]
    cases s0
    · exact .inl rfl
    · exact .inr rfl
  have hrn : Rn.pick a (Th.openss [t0, y, c]) known ((t0.run known).join z.run) ((z.run known).join t0.run) = (Th.node k a p [t0, y, c]).run known := by
    rw [run_test hk0, hsel, hzs]
    cases s0 <;> rfl
  have hspan : (Th.node k a p [t0, y, c]).span - 1 = t0.sz + z.sz := by
    rw [span_test hk0, hsel, hzs]
    cases s0 <;> simp
  have hz1 : t0.sz < 1000 := sz_t hsz
  have hz2 : z.sz < 1000 := sz_z hzsz hsz
  have hht1 := hht.1
  have hht2 := hht.2
  unfold Cn; k_fill; intro dp un gd A₀ base h₀ outer env L m s pp loose mean mg mb Q B F X N T hf hk hd hu hret
  simp only [List.cons_append, List.nil_append] at N
  k_dflt (refine' code_defC ?k1 ?k2 ?k3 ?k4 ?k5 ?kA ?kF ?kK ?k6 ?k7 ?k8 ?k9 ?kB ?kD ?_ ?c2 ?c3 ?c4; (case kA => exact rfl); (case kF => assumption); (case kK => assumption); (case k1 => k_asm); (case k2 => k_asm); (case k3 => k_asm); (case k4 => k_asm); (case k5 => k_asm); (case k6 => k_is); (case k7 => k_is); (case k8 => ktr_room); (case k9 => first | exact BindsTo.of_eq rfl | exact binds_K (by k_in) rfl (by k_is) rfl rfl rfl); (case kB => exact rfl); (case kD => decide +kernel); (case c2 => exact rfl); (case c3 => exact rfl); (case c4 => exact rfl); k_whole; intro g' L' h' tk' cells' FG' F' N' Y' B' X' T' l1; (try k_lt l1); k_cells Y'; (try simp only [List.cons_append, List.nil_append] at N'); (try dsimp only); (try k_fold); (refine frame_name F' ?_); clear F'; intro mm' F' hfr')
  k_steps
  (rename News _ L' _ (_ :: _ :: _ :: _ :: _ :: R) => kN)
  (rename _ ∧ _ ∧ _ ∧ _ ∧ AllLt _ R => kL)
  have key := fun (led : Led) (hs : ∀ q ∈ R, q ∈ led) => body_ok w led k a p d _ nn t0 y c (hs _ g1) (hs _ g2) g3' (hs _ g4) hk0 ((his y (.tail _ (.head _))).mono hs) hyr ((his c (.tail _ (.tail _ (.head _)))).mono hs) hcc
  refine key (_ :: _ :: _ :: _ :: _ :: R) (fun q hq => .tail _ (.tail _ (.tail _ (.tail _ (.tail _ hq))))) _ _ _ _ _ _ _ _ _ _ _ _ _ _ _ _ _ (by assumption) (by assumption) (by assumption) kN (by assumption) rfl rfl ?_ ?_ ?_
  · first | exact room1 hd (by decide) | (show dp + 1 + _ < _; omega)
  · first | exact room2 hu (by decide) | (show un + 3 + _ < _; omega)
  refine out0 ?_
  intro h'' tk' F₂ N₂
  dsimp only
  have hbv : bodyVal k y c = .ref za := by
    rw [← hza, hzs]; simp only [bodyVal, hsel]
    cases s0 <;> rfl
  rw [hbv]
  clear key
  k_steps
  (rename News _ L' _ (_ :: _ :: _ :: _ :: _ :: _ :: R) => kN2)
  (rename _ ∧ _ ∧ _ ∧ _ ∧ _ ∧ AllLt _ R => kL2)
  unfold Stop
  refine kept_notinN (k := .i pl) (xs := xs) (n := kl) ?u kN2 (by k_mem) (fun e he => (hko.keys e he).mono ?hs) hko.1 hap.lo ⟨_, rfl⟩ ?_
  case u => k_units
  case hs => exact fun q hq => .tail _ (.tail _ (.tail _ (.tail _ (.tail _ (.tail _ (h0 q hq))))))
  intro tk9
  (rename Fr _ L' _ _ => kF2)
  rename_i oc _ _ _ _ _ D1 _ _ _ _ _ _ _
  refine cps (fun cG => ∀ oD1 o', News g' L' _ ((D1, oD1) :: (L' + 1, oc) :: (xd, o') :: (Nm, lstO (nmL known t) n) :: (lt, lstO (late.map Value.ref) ln) :: (kp, keptO w xs kl) :: R) → (L' + 1 < D1 ∧ xd < D1 ∧ Nm < D1 ∧ lt < D1 ∧ kp < D1 ∧ AllLt D1 R) → PassD w kn kp (pl : Int) lt right o' → cG) ?_ (fun ck => ck _ _ kN2 kL2 hpd')
  intro oD1 o' nN2 nL2 ho'
  refine cps (fun cG => ∀ mm tp, Fr g' L' _ mm → mm (Str.ofString "node") = some (.ref a) → mm (Str.ofString "test") = some t0.val → mm (Str.ofString "body") = some (.ref za) → mm (Str.ofString "place") = some (.int (pl : Int) tp) → cG) ?_ (fun ck => ck _ _ kF2 ((if_neg (by decide)).trans ((if_neg (by decide)).trans ((if_neg (by decide)).trans (hfr' _ _ rfl)))) (by tb_rel) (by tb_rel) (by tb_rel))
  intro mm tp nF2 m1 m2 m3 m4
  refine cut_if (TestJ w tab s g' L' mm [(D1, oD1), (L' + 1, oc), (xd, o'), (Nm, lstO (nmL known t) n), (lt, lstO (late.map Value.ref) ln)] xd Nm lt kp R R0 (.i pl)) ?_ ?_ ?_
  · intro hv
    clear kN2 kL2 kF2
    obtain ⟨w1, w2, w3, w4, w5, w6, rfl⟩ := ho'
    k_steps
    have key := fun (led : Led) (hs : ∀ q ∈ R, q ∈ led) => texts_ok w _ (.node k a p [t0, y, c]) (Nat.le_refl _) led (hin'.mono hs)
    refine key (_ :: _ :: _ :: _ :: _ :: _ :: R) (fun q hq => .tail _ (.tail _ (.tail _ (.tail _ (.tail _ (.tail _ hq)))))) _ _ _ _ _ _ _ _ _ _ _ _ _ _ _ _ _ (by assumption) (by assumption) (by assumption) nN2 (by assumption) rfl rfl ?_ ?_ ?_
    · first | exact room1 hd (by decide) | (show dp + 1 + _ < _; omega)
    · first | exact room2 hu (by decide) | (show un + 3 + _ < _; omega)
    refine TxPost.out ?_
    intro aT oT tlT h3 tk3 hTx hT2 F₃ N₃ hfr3
    dsimp only
    clear key
    k_steps
    (rename News g' L' _ (_ :: (aT, oT) :: (tlT ++ _)) => kN3)
    (rename ∀ q : Addr × Obj, q ∈ (aT, oT) :: (tlT ++ _) → q.1 < _ => kl3)
    (rename Th.texts _ = false → _ => kv1)
    (rename Th.texts _ = true → _ => kv2)
    obtain ⟨tt, hvs⟩ := nm_of kv1 kv2
    subst hvs
    have hnl : (nmL (Th.textss [t0, y, c]) tt).length ≤ 16777216 := nmL_le
    clear kv1 kv2 N₃ F₃ hfr3 hTx hT2
    have key1 := fun (led : Led) (hs : ∀ q ∈ R, q ∈ led) => walk_ok w led t0 t0.ht ⟨hT.mono hs, Nat.le_refl _, hnode⟩ hz1
    refine key1 (_ :: _ :: (tlT ++ (_ :: _ :: _ :: _ :: _ :: _ :: R))) (fun q hq => .tail _ (.tail _ (List.mem_append_right _ (.tail _ (.tail _ (.tail _ (.tail _ (.tail _ (.tail _ hq))))))))) _ _ _ _ _ _ _ _ _ _ _ _ _ _ _ _ _ (by assumption) (by assumption) (by assumption) kN3 (by assumption) rfl rfl ?_ ?_ ?_
    · first | exact room1 hd (by decide) | (show dp + 1 + _ < _; omega)
    · first | exact room2 hu (by decide) | (show un + 3 + _ < _; omega)
    refine WkPost.out ?_
    intro aW vsW eW tlW h4 tk4 hlW hW2 F₄ N₄ hfr4
    dsimp only
    clear key1 kN3 hfr4
    have hzW : vsW.length < 1000000 := mil_eq hlW hz1
    k_steps
    have key2 := fun (led : Led) (hs : ∀ q ∈ R, q ∈ led) => walk_ok w led z z.ht ⟨hZ.mono hs, Nat.le_refl _, hnodez⟩ hz2
    rw [hza] at key2
    refine key2 (_ :: (tlW ++ (_ :: _ :: (tlT ++ (_ :: _ :: _ :: _ :: _ :: _ :: R))))) (fun q hq => .tail _ (List.mem_append_right _ (.tail _ (.tail _ (List.mem_append_right _ (.tail _ (.tail _ (.tail _ (.tail _ (.tail _ (.tail _ hq))))))))))) _ _ _ _ _ _ _ _ _ _ _ _ _ _ _ _ _ (by assumption) (by assumption) (by assumption) (by assumption) (by assumption) rfl rfl ?_ ?_ ?_
    · first | exact room1 hd (by decide) | (show dp + 1 + _ < _; omega)
    · first | exact room2 hu (by decide) | (show un + 3 + _ < _; omega)
    refine WkPost.out ?_
    intro aV vsV eV tlV h5 tk5 hlV hV2 F₅ N₅ hfr5
    dsimp only
    clear key2 hfr5 N₄ F₄
    have hzV : vsV.length < 1000000 := mil_eq hlV hz2
    k_steps
    (rename News g' L' _ (_ :: (aV, _) :: (tlV ++ _)) => kN5)
    (rename _ ∧ AllLt _ (tlV ++ _) => kl5)
    rw [hlW, hlV] at kN5
    have g3 : ∀ q ∈ ((xd, _) :: (Nm, _) :: (lt, _) :: (kp, _) :: R : Led), (@LT.lt Nat _ q.1 _) := fun q hq => kl3 q (.tail _ (List.mem_append_right _ (.tail _ (.tail _ hq))))
    have g5 : ∀ q ∈ ((xd, _) :: (Nm, _) :: (lt, _) :: (kp, _) :: R : Led), (@LT.lt Nat _ q.1 _) := fun q hq => kl5.2.of q (List.mem_append_right _ (.tail _ (List.mem_append_right _ (.tail _ (.tail _ (List.mem_append_right _ (.tail _ (.tail _ hq))))))))
    clear kl3 kl5
    have g3 := far4 g3
    have g5 := far4 g5
    rename_i Dl _ _ el _ _ ta tb DT _ _ _ _
    have nN5 : News g' L' _ ((DT, tupO [.ref Dl, .int (t0.sz : Int) ta, .int (z.sz : Int) tb] 0) :: (aV, lstO vsV eV) :: (tlV ++ (aW, lstO vsW eW) :: (tlW ++ (Dl, lstO (nmL (Th.textss [t0, y, c]) tt) el) :: (aT, oT) :: (tlT ++ (D1, oD1) :: (L' + 1, oc) :: (xd, passO w kn kp (pl : Int) lt right w1 w2 w3 w4 w5 w6) :: (Nm, lstO (nmL known t) n) :: (lt, lstO (late.map Value.ref) ln) :: (kp, keptO w xs kl) :: R)))) := kN5
    have g5 : ((DT ≠ xd ∧ DT ≠ Nm ∧ DT ≠ lt ∧ DT ≠ kp) ∧ ∀ q ∈ R, q.1 ≠ DT) := g5
    have g3 : ((Dl ≠ xd ∧ Dl ≠ Nm ∧ Dl ≠ lt ∧ Dl ≠ kp) ∧ ∀ q ∈ R, q.1 ≠ Dl) := g3
    clear kN5
    unfold Stop
    (rename Fr _ L' _ _ => kF5)
    have hne : ∀ q ∈ ((DT, tupO [.ref Dl, .int (t0.sz : Int) ta, .int (z.sz : Int) tb] 0) :: (Dl, lstO (nmL (Th.textss [t0, y, c]) tt) el) :: (D1, oD1) :: (L' + 1, oc) :: (xd, passO w kn kp (pl : Int) lt right w1 w2 w3 w4 w5 w6) :: (Nm, lstO (nmL known t) n) :: (lt, lstO (late.map Value.ref) ln) :: R : Led), q.1 ≠ kp :=
      List.forall_mem_cons.mpr ⟨g5.1.2.2.2, List.forall_mem_cons.mpr ⟨g3.1.2.2.2, List.forall_mem_cons.mpr ⟨Nat.ne_of_gt nL2.2.2.2.2.1, List.forall_mem_cons.mpr ⟨Nat.ne_of_gt (Nat.lt_succ_of_lt kL.2.2.2.1), List.forall_mem_cons.mpr ⟨hap.a3, List.forall_mem_cons.mpr ⟨hap.a5, List.forall_mem_cons.mpr ⟨hap.a6, hap.r4⟩⟩⟩⟩⟩⟩⟩
    refine' kept_storeN (k := .i pl) (xs := xs) (n := kl) ?s1u kF5 (News.sub nN5 ?s1N) (.head hne) (fun e he => (hko.keys e he).mono ?s1h) hko.1 ⟨_, rfl⟩ (by simpa using hv) (hko.size htab) ?_
    case s1u => k_units
    case s1N => array_get_dec
    case s1h => exact fun q hq => .tail _ (.tail _ (.tail _ (.tail _ (.tail _ (.tail _ (.tail _ (.tail _ (h0 q hq))))))))
    intro h6 tk6 F₆ N₆
    try dsimp only at N₆
    clear nN5 kF5
    k_steps
    refine ⟨_, _, xs ++ [(.i pl, .int pl tp, .ref DT)], kl + 1, [(DT, tupO [.ref Dl, .int (t0.sz : Int) ta, .int (z.sz : Int) tb] 0), (Dl, lstO (nmL (Th.textss [t0, y, c]) tt) el)], rfl, by assumption, News.sub N₆ (by array_get_dec), KeptOk.add (hko.mono fun p hp => .tail _ (.tail _ hp)) (by simpa using hv) (entry_i ht1 hk0 hzs hsel (.head _) (.tail _ (.head _))), by simp, ?_⟩
    exact all_cons g5 (all_cons g3 all_nil)
  · intro hv
    clear kN2 kL2 kF2
    k_steps
    refine ⟨_, _, xs, kl, [], rfl, nF2, nN2, hko, ?_, fun _ h => nomatch h⟩
    simpa using hv
  · refine TestJ.elim ?_
    intro hh tk xs' kl' tl F₃ N₃ hko3 hin3 hf3
    clear kN2 kL2 kF2 nN2 nF2
    simp only [List.cons_append, List.nil_append] at N₃
    obtain ⟨w1, w2, w3, w4, w5, w6, rfl⟩ := ho'
    refine cps (fun cG => ∀ R2, R2 = tl ++ R → cG) ?_ (fun ck => ck _ rfl)
    intro R2 hR2
    have hs2 : ∀ q ∈ R, q ∈ R2 := fun q hq => hR2 ▸ List.mem_append_right _ hq
    have hs3 : ∀ q ∈ tl ++ R0, q ∈ R2 := fun q hq => hR2 ▸ (List.mem_append.mp hq).elim (List.mem_append_left _) fun h => List.mem_append_right _ (h0 q h)
    have hf4 : ∀ q ∈ R2, q.1 ≠ xd ∧ q.1 ≠ Nm ∧ q.1 ≠ lt ∧ q.1 ≠ kp := by
      exact all_eq hR2 (all_led (fun q hq => (hf3 q hq).1) fun q hq => ⟨hap.r1 q hq, hap.r2 q hq, hap.r3 q hq, hap.r4 q hq⟩)
    rw [← hR2] at N₃
    have hfix3 := hfix'.mono hs2
    obtain ⟨f1, f2, f3, f4, f5, f6⟩ := hfix3
    k_steps
    unfold Stop
    refine kept_itemA (k := .i pl) (xs := xs') (n := kl') ?i1u N₃ (by k_mem) (fun e he => (hko3.keys e he).mono ?i1h) hko3.1 ⟨_, rfl⟩ hin3 ?_ ?_
    case i1u => k_units
    case i1h => exact fun q hq => .tail _ (.tail _ (.tail _ (.tail _ (.tail _ (.tail _ (hs3 q hq))))))
    · intro kv
      refine kept_get_i hko3 hzs ht1 hsel ?_
      intro A tx tt nt ta tb e5 e6 tk5
      have hnl : (nmL (Th.textss [t0, y, c]) tt).length ≤ 16777216 := nmL_le
      have e5 := hs3 _ e5
      have e6 := hs3 _ e6
      k_steps
      (rename News _ L' _ _ => kN3)
      (rename Fr _ L' _ _ => kF3)
      have hzt := nm_len2 (known && Th.textss [t0, y, c]) tt
      refine cps (fun cG => ∀ nw0, News g' L' _ nw0 → nw0 = _ → cG) ?_ (fun ck => ck _ kN3 rfl)
      intro nw0 kN3 hnw
      refine LCt.CompSrcT.ledger (its := (nmL (Th.textss [t0, y, c]) tt).toArray) (k := nt) rfl kF3 kN3 (by rw [hnw]; k_mem) (by rw [List.size_toArray, sizeLine_eq]; have := nm_len (Th.textss [t0, y, c]) tt; omega) ?_
      intro gg
      refine (?go : ∀ kk i ys nw, (nw = nw0 ∧ (kk = 0 → ys = nmL (known && Th.textss [t0, y, c]) tt) ∧ (kk ≠ 0 → kk = 1 ∧ i = 0 ∧ Th.textss [t0, y, c] = true ∧ ys = [])) → LCt.CompRestT _ _ _ _ _ _ _ _ _ _ _ _ _ _ _ _ kk i ys nw) _ _ _ _ ⟨rfl, ?z1, ?z2⟩
      case z1 => intro h; cases hb : Th.textss [t0, y, c] with
        | false => rw [Bool.and_false]; rfl
        | true => rw [hb] at h; simp [nmL] at h
      case z2 => intro h; cases hb : Th.textss [t0, y, c] with
        | false => rw [hb] at h; simp [nmL] at h
        | true => exact ⟨rfl, rfl, rfl, rfl⟩
      intro kk
      induction kk with
      | zero =>
        intro i
        refine comp_z0 hnw ?_
        refine LCt.CompRestT.zero ?_
        rw [hnw] at kN3
        clear hnw
        k_steps
        clear hzt
        (rename News _ L' _ (_ :: _ :: _ :: (D1, _) :: _) => kN4)
        (rename Fr _ L' _ _ => kF4)
        (rename _ ∧ _ ∧ _ ∧ _ ∧ _ ∧ _ ∧ _ ∧ AllLt _ R2 => kT)
        (rename _ ∧ _ ∧ _ ∧ _ ∧ _ ∧ _ ∧ _ ∧ _ ∧ AllLt _ R2 => kK)
        rename_i T _ K _ _
        have nN4 : News g' L' _ ((K, tupO [.int (pl : Int) tp, .ref T] 0) :: (T, tupO (nmL (known && Th.textss [t0, y, c]) tt) 0) :: _ :: (D1, oD1) :: (L' + 1, oc) :: (xd, passO w kn kp (pl : Int) lt right w1 w2 w3 w4 w5 w6) :: (Nm, lstO (nmL known t) n) :: (lt, lstO (late.map Value.ref) ln) :: (kp, keptO w xs' kl') :: R2) := kN4
        have hK : ((K ≠ xd ∧ K ≠ Nm ∧ K ≠ lt ∧ K ≠ kp) ∧ ∀ q ∈ R2, q.1 ≠ K) := far8 kK
        have hT3 : ((T ≠ xd ∧ T ≠ Nm ∧ T ≠ lt ∧ T ≠ kp) ∧ ∀ q ∈ R2, q.1 ≠ T) := far7 kT
        clear kN4 kT kK e5 e6
        refine cps (fun cG => ∀ mm3 tp' ta' tb', Fr g' L' _ mm3 → mm3 (Str.ofString "node") = some (.ref a) → mm3 (Str.ofString "test") = some t0.val → mm3 (Str.ofString "body") = some (.ref za) → mm3 (Str.ofString "place") = some (.int (pl : Int) tp') → mm3 (Str.ofString "key") = some (.ref K) → mm3 (Str.ofString "many") = some (.int (t0.sz : Int) ta') → mm3 (Str.ofString "more") = some (.int (z.sz : Int) tb') → cG) ?_
          (fun ck => ck _ _ _ _ kF4 (by tb_rel) (by tb_rel) (by tb_rel) (by tb_rel) (by tb_rel) (by tb_rel) (by tb_rel))
        intro mm3 tp' ta' tb' nF4 m5 m6 m7 m9 m12 m10 m11
        clear kF4
        refine cps (fun cG => ∀ (R3 : Led), R3 = (K, tupO [.int (pl : Int) tp, .ref T] 0) :: (T, tupO (nmL (known && Th.textss [t0, y, c]) tt) 0) :: R2 → cG) ?_ (fun ck => ck _ rfl)
        intro R3 hR3
        refine cps (fun cG => ∀ (R4 : Led), R4 = (K, tupO [.int (pl : Int) tp, .ref T] 0) :: (T, tupO (nmL (known && Th.textss [t0, y, c]) tt) 0) :: (tl ++ R0) → cG) ?_ (fun ck => ck _ rfl)
        intro R4 hR4
        have hs4 : ∀ q ∈ R2, q ∈ R3 := fun q hq => hR3 ▸ .tail _ (.tail _ hq)
        have hs5 : ∀ q ∈ R4, q ∈ R3 := by
          exact all_eq hR4 (all_cons (hR3 ▸ .head _) (all_cons (hR3 ▸ .tail _ (.head _)) fun q hq => hR3 ▸ .tail _ (.tail _ (hs3 q hq))))
        have hK4 : (K, tupO [.int (pl : Int) tp, .ref T] 0) ∈ R4 := hR4 ▸ .head _
        have hT4 : (T, tupO (nmL (known && Th.textss [t0, y, c]) tt) 0) ∈ R4 := hR4 ▸ .tail _ (.head _)
        have hs6 : ∀ q ∈ tl ++ R0, q ∈ R4 := fun q hq => hR4 ▸ .tail _ (.tail _ hq)
        have hf5 : ∀ q ∈ R3, q.1 ≠ xd ∧ q.1 ≠ Nm ∧ q.1 ≠ lt ∧ q.1 ≠ kp := by
          exact all_eq hR3 (all_cons hK.1 (all_cons hT3.1 hf4))
        have nN5 := News.sub (l' := (D1, oD1) :: (L' + 1, oc) :: (xd, passO w kn kp (pl : Int) lt right w1 w2 w3 w4 w5 w6) :: (Nm, lstO (nmL known t) n) :: (lt, lstO (late.map Value.ref) ln) :: (kp, keptO w xs' kl') :: R3) nN4 (by rw [hR3]; array_get_dec)
        clear nN4 f1 f2 f3 f4 f5 f6
        have hfix3 := (hfix'.mono hs2).mono hs4
        have hfix4 := hfix3
        obtain ⟨f1, f2, f3, f4, f5, f6⟩ := hfix3
        have hko4 := hko3.mono hs6
        unfold Stop
        refine kept_notinN (k := .t pl (known && Th.textss [t0, y, c])) (xs := xs') (n := kl') ?j1u nN5 (by k_mem) (fun e he => (hko4.keys e he).mono ?j1h) hko4.1 hap.lo ⟨K, T, tp, tt, rfl, .tail _ (.tail _ (.tail _ (.tail _ (.tail _ (.tail _ (hs5 _ hK4)))))), .tail _ (.tail _ (.tail _ (.tail _ (.tail _ (.tail _ (hs5 _ hT4))))))⟩ ?_
        case j1u => k_units
        case j1h => exact fun q hq => .tail _ (.tail _ (.tail _ (.tail _ (.tail _ (.tail _ (hs5 q hq))))))
        intro tk9
        refine cut_if (TestJ w tab s g' L' mm3 [(D1, oD1), (L' + 1, oc), (xd, passO w kn kp (pl : Int) lt right w1 w2 w3 w4 w5 w6), (Nm, lstO (nmL known t) n), (lt, lstO (late.map Value.ref) ln)] xd Nm lt kp R3 R4 (.t pl (known && Th.textss [t0, y, c]))) ?_ ?_ ?_
        · intro hv
          k_steps
          (rename News g' L' _ (_ :: _ :: _ :: (D1, _) :: _) => kN6)
          (rename _ ∧ _ ∧ _ ∧ _ ∧ _ ∧ _ ∧ AllLt _ R3 => ka')
          (rename _ ∧ _ ∧ _ ∧ _ ∧ _ ∧ _ ∧ _ ∧ AllLt _ R3 => kb')
          (rename _ ∧ _ ∧ _ ∧ _ ∧ _ ∧ _ ∧ _ ∧ _ ∧ AllLt _ R3 => kc')
          rw [← hza] at kN6
          rename_i T1 _ T2 _ P _ _
          refine cps (fun cG => ∀ (a1 : Tok) (a2 : Tok), News g' L' _ ((P, lstO [.ref T1, .ref T2] 0) :: (T2, tupO [z.val, .int ((pl + t0.sz : Nat) : Int) a2] 0) :: (T1, tupO [t0.val, .int (pl : Int) a1] 0) :: (D1, oD1) :: (L' + 1, oc) :: (xd, passO w kn kp (pl : Int) lt right w1 w2 w3 w4 w5 w6) :: (Nm, lstO (nmL known t) n) :: (lt, lstO (late.map Value.ref) ln) :: (kp, keptO w xs' kl') :: R3) → ((T1 ≠ xd ∧ T1 ≠ Nm ∧ T1 ≠ lt ∧ T1 ≠ kp) ∧ ∀ q ∈ R3, q.1 ≠ T1) → ((T2 ≠ xd ∧ T2 ≠ Nm ∧ T2 ≠ lt ∧ T2 ≠ kp) ∧ ∀ q ∈ R3, q.1 ≠ T2) → ((P ≠ xd ∧ P ≠ Nm ∧ P ≠ lt ∧ P ≠ kp) ∧ ∀ q ∈ R3, q.1 ≠ P) → cG) ?_ (fun ck => ck _ _ kN6 (far6 ka') (far7 kb') (far8 kc'))
          intro a1 a2 nN6 kd1 kd2 kd3
          clear kN6
          refine cps (fun cG => ∀ (R5 : Led), R5 = (P, lstO [.ref T1, .ref T2] 0) :: (T2, tupO [z.val, .int ((pl + t0.sz : Nat) : Int) a2] 0) :: (T1, tupO [t0.val, .int (pl : Int) a1] 0) :: (D1, oD1) :: (L' + 1, oc) :: (xd, passO w kn kp (pl : Int) lt right w1 w2 w3 w4 w5 w6) :: (Nm, lstO (nmL known t) n) :: (lt, lstO (late.map Value.ref) ln) :: R3 → cG) ?_ (fun ck => ck _ rfl)
          intro R5 hR5
          have hs7 : ∀ q ∈ R3, q ∈ R5 := fun q hq => hR5 ▸ .tail _ (.tail _ (.tail _ (.tail _ (.tail _ (.tail _ (.tail _ (.tail _ hq)))))))
          have cR5 : ∀ q ∈ R5, q.1 ≠ kp := by
            rw [hR5]
            exact List.forall_mem_cons.mpr ⟨kd3.1.2.2.2, List.forall_mem_cons.mpr ⟨kd2.1.2.2.2, List.forall_mem_cons.mpr ⟨kd1.1.2.2.2, List.forall_mem_cons.mpr ⟨Nat.ne_of_gt nL2.2.2.2.2.1, List.forall_mem_cons.mpr ⟨Nat.ne_of_gt (Nat.lt_succ_of_lt kL.2.2.2.1), List.forall_mem_cons.mpr ⟨hap.a3, List.forall_mem_cons.mpr ⟨hap.a5, List.forall_mem_cons.mpr ⟨hap.a6, fun q hq => (hf5 q hq).2.2.2⟩⟩⟩⟩⟩⟩⟩⟩
          have r1 : (P, lstO [.ref T1, .ref T2] 0) ∈ R5 := hR5 ▸ .head _
          have r2 : (T2, tupO [z.val, .int ((pl + t0.sz : Nat) : Int) a2] 0) ∈ R5 := hR5 ▸ .tail _ (.head _)
          have r3 : (T1, tupO [t0.val, .int (pl : Int) a1] 0) ∈ R5 := hR5 ▸ .tail _ (.tail _ (.head _))
          have r4 : (xd, passO w kn kp (pl : Int) lt right w1 w2 w3 w4 w5 w6) ∈ R5 := hR5 ▸ .tail _ (.tail _ (.tail _ (.tail _ (.tail _ (.head _)))))
          have r5 : (Nm, lstO (nmL known t) n) ∈ R5 := hR5 ▸ .tail _ (.tail _ (.tail _ (.tail _ (.tail _ (.tail _ (.head _))))))
          have r6 : (lt, lstO (late.map Value.ref) ln) ∈ R5 := hR5 ▸ .tail _ (.tail _ (.tail _ (.tail _ (.tail _ (.tail _ (.tail _ (.head _)))))))
          have r7 : (L' + 1, oc) ∈ R5 := hR5 ▸ .tail _ (.tail _ (.tail _ (.tail _ (.head _))))
          have r8 : (x, instObj 314 xd) ∈ R5 := hs7 _ f1
          have key := outcome_ok w tab k a p t0 y c z s0 pl (pl + t0.sz) ((Th.node k a p [t0, y, c]).ht + 57) iht ihz (by omega) (by omega) R5 R4 x xd kn kd S C Nm lt kp P T1 T2 _ _ n1 n n3 kl' 0 t a1 a2 pl right known xs' (fun p hp => hs7 p (hs5 p hp)) (hfix4.mono hs7) r4 ⟨_, _, _, _, _, _, rfl⟩ r5 hko4 hap.lo cR5
            r1 r3 r2 (hin'.mono fun q hq => hs7 q (hs4 q (hs2 q hq))) hwf hk0 hzyc ht2 ht3 (Nat.le_trans (Nat.le_add_left _ _) hsz) (Nat.le_refl _)
          refine key _ _ _ _ _ _ _ _ _ _ _ _ _ _ _ _ _ (by assumption) (by assumption) (by assumption) (News.sub nN6 (by rw [hR5]; array_get_dec)) (by assumption) rfl rfl ?_ ?_ ?_
          · first | exact room1 hd (by decide) | (show dp + 1 + _ < _; omega)
          · first | exact room2 hu (by decide) | (show un + 3 + _ < _; omega)
          refine OutPost.out ?_
          intro A2 l2 nz tt2 n21 n22 kl6 xs6 tlO h6 tk6 hko6 e7 e8 e9 F₆ N₆ hfr6
          dsimp only
          clear key nN6
          k_steps
          unfold Stop
          (rename Fr g' L' _ _ => kF7)
          (rename News g' L' _ ((kp, _) :: (tlO ++ R5)) => kN7)
          refine' kept_setN (k := .t pl (known && Th.textss [t0, y, c])) (xs := xs6) (n := kl6) ?p1u kF7 kN7 (.head ?p1n) (fun e he => (hko6.keys e he).mono ?p1h) hko6.1 ⟨K, T, tp, tt, rfl, .tail _ (List.mem_append_right _ (hs7 _ (hs5 _ hK4))), .tail _ (List.mem_append_right _ (hs7 _ (hs5 _ hT4)))⟩ (hko6.size htab) ?_
          case p1u => k_units
          case p1n =>
            exact all_led (fun q hq => Ne.symm (hfr6 (kp, _) (.head _) q hq)) cR5
          case p1h =>
            exact all_led (fun q hq => .tail _ (List.mem_append_left _ hq)) fun q hq => .tail _ (List.mem_append_right _ (hs7 _ (hs5 _ hq)))
          intro h7 tk7 xs7 n7 F₇ N₇ hn7 hin7 hx7
          clear kF7 kN7
          k_steps
          refine ⟨_, _, xs7, n7, tlO, rfl, by assumption, News.sub N₇ (by rw [hR5]; array_get_dec), hko6.put hn7 hx7 (entry_t (tt := tt2) hwf ht1 hrn (List.mem_append_right _ hK4) (List.mem_append_right _ hT4) (List.mem_append_left _ e7) (List.mem_append_left _ e8) (List.mem_append_left _ e9)), hin7, ?_⟩
          intro q hq
          exact ⟨⟨Ne.symm (hfr6 _ (List.mem_append_right _ r4) q hq), Ne.symm (hfr6 _ (List.mem_append_right _ r5) q hq), Ne.symm (hfr6 _ (List.mem_append_right _ r6) q hq), Ne.symm (hfr6 (kp, _) (.head _) q hq)⟩, fun q2 hq2 => hfr6 q2 (List.mem_append_right _ (hs7 q2 hq2)) q hq⟩
        · intro hv
          k_steps
          refine ⟨_, _, xs', kl', [], rfl, nF4, nN5, hko4, ?_, fun _ h => nomatch h⟩
          simpa using hv
        · refine TestJ.elim ?_
          intro hh tk xs5 kl5 tl5 F₅ N₅ hko5 hin5 hf6
          clear nN5 nF4
          simp only [List.cons_append, List.nil_append] at N₅
          refine cps (fun cG => ∀ (R6 : Led), R6 = tl5 ++ R3 → cG) ?_ (fun ck => ck _ rfl)
          intro R6 hR6
          have hs8 : ∀ q ∈ R3, q ∈ R6 := fun q hq => hR6 ▸ List.mem_append_right _ hq
          have hs9 : ∀ q ∈ tl5 ++ R4, q ∈ R6 := fun q hq => hR6 ▸ (List.mem_append.mp hq).elim (List.mem_append_left _) fun h => List.mem_append_right _ (hs5 q h)
          have hf7 : ∀ q ∈ R6, q.1 ≠ xd ∧ q.1 ≠ Nm ∧ q.1 ≠ lt ∧ q.1 ≠ kp := by
            exact all_eq hR6 (all_led (fun q hq => (hf6 q hq).1) hf5)
          rw [← hR6] at N₅
          clear f1 f2 f3 f4 f5 f6
          have hfix5 := hfix4.mono hs8
          have hfix6 := hfix5
          obtain ⟨f1, f2, f3, f4, f5, f6⟩ := hfix5
          k_steps
          unfold Stop
          refine kept_itemA (k := .t pl (known && Th.textss [t0, y, c])) (xs := xs5) (n := kl5) ?q1u N₅ (by k_mem) (fun e he => (hko5.keys e he).mono ?q1h) hko5.1 ⟨K, T, tp, tt, rfl, .tail _ (.tail _ (.tail _ (.tail _ (.tail _ (.tail _ (hs9 _ (List.mem_append_right _ hK4))))))), .tail _ (.tail _ (.tail _ (.tail _ (.tail _ (.tail _ (hs9 _ (List.mem_append_right _ hT4)))))))⟩ hin5 ?_ ?_
          case q1u => k_units
          case q1h => exact fun q hq => .tail _ (.tail _ (.tail _ (.tail _ (.tail _ (.tail _ (hs9 q hq))))))
          · intro kv2
            refine kept_get_t hko5 ht1 ?_
            intro A2 l2 nz tt2 n21 n22 e8 e9 e10 tk6
            have e8 := hs9 _ e8
            have e9 := hs9 _ e9
            have e10 := hs9 _ e10
            have hzl : (late.map Value.ref).length + (((Th.node k a p [t0, y, c]).run known).late.map Value.ref).length < 1000000 := by
              simp only [List.length_map]
              exact mil_add hsz (Nat.le_refl _) (late_sz hwf known)
            have n1' : ∀ q ∈ R6, q.1 ≠ xd := fun q hq => (hf7 q hq).1
            have n2' : ∀ q ∈ R6, q.1 ≠ Nm := fun q hq => (hf7 q hq).2.1
            have n3' : ∀ q ∈ R6, q.1 ≠ lt := fun q hq => (hf7 q hq).2.2.1
            have n4' : ∀ q ∈ R6, q.1 ≠ kp := fun q hq => (hf7 q hq).2.2.2
            have ca1 := hap.a1
            have ca2 := hap.a2
            have ca3 := hap.a3
            have ca4 := hap.a4
            have ca5 := hap.a5
            have ca6 := hap.a6
            have cb1 : L' + 1 ≠ xd := Nat.ne_of_gt (Nat.lt_succ_of_lt kL.1)
            have cb2 : L' + 1 ≠ Nm := Nat.ne_of_gt (Nat.lt_succ_of_lt kL.2.1)
            have cb3 : L' + 1 ≠ lt := Nat.ne_of_gt (Nat.lt_succ_of_lt kL.2.2.1)
            have cb4 : L' + 1 ≠ kp := Nat.ne_of_gt (Nat.lt_succ_of_lt kL.2.2.2.1)
            have N₆ := News.sub (l' := (L' + 1, oc) :: (xd, passO w kn kp (pl : Int) lt right w1 w2 w3 w4 w5 w6) :: (Nm, lstO (nmL known t) n) :: (lt, lstO (late.map Value.ref) ln) :: (kp, keptO w xs5 kl5) :: R6) N₅ (fun q hq => .tail _ hq)
            clear N₅
            have hkn := known_after hwf known
            generalize hrun : (Th.node k a p [t0, y, c]).run known = rn at *
            obtain ⟨rr, rl, rk⟩ := rn
            dsimp only at *
            k_steps
            unfold Stop
            refine cut_val (.bool (right && rr)) ?_ ?_
            · cases right <;> (k_steps; exact ⟨rfl, _, rfl⟩)
            · intro tkr
              k_steps
              (rename News g' L' _ ((L' + 1, oc) :: _) => kN8)
              rename_i ln8 _ _ _
              refine cps (fun cG => ∀ (o8 : Obj), News g' L' _ ((L' + 1, oc) :: (xd, o8) :: (Nm, lstO (nmL known t) n) :: (lt, lstO (late.map Value.ref ++ rl.map Value.ref) ln8) :: (kp, keptO w xs5 kl5) :: R6) → PassD w kn kp (pl : Int) lt _ o8 → cG) ?_ (fun ck => ck _ kN8 ⟨_, _, _, _, _, _, rfl⟩)
              intro o8 kN8 ho8
              have key := fun (led : Led) (hs : ∀ q ∈ R6, q ∈ led) (hx8 : (xd, o8) ∈ led) (hR8 : ∀ q ∈ led, q.1 ≠ Nm) => places_ok w led x xd kn kd S C Nm lt kp nz _ o8 n1 n3 n n22 t tt2 known _ _ _ (hfix6.mono hs) hx8 ho8 (hs _ e10) hR8
              refine key ((L' + 1, oc) :: (xd, o8) :: (lt, lstO (late.map Value.ref ++ rl.map Value.ref) ln8) :: (kp, keptO w xs5 kl5) :: R6) (fun q hq => .tail _ (.tail _ (.tail _ (.tail _ hq)))) (.tail _ (.head _)) (List.forall_mem_cons.mpr ⟨cb2, List.forall_mem_cons.mpr ⟨ca1, List.forall_mem_cons.mpr ⟨Ne.symm ca4, List.forall_mem_cons.mpr ⟨Ne.symm ca5, n2'⟩⟩⟩⟩) _ _ _ _ _ _ _ _ _ _ _ _ _ _ _ _ _ (by assumption) (by assumption) (by assumption) (News.sub kN8 (by array_get_dec)) (by assumption) rfl rfl ?_ ?_ ?_
              · first | exact room1 hd (by decide) | (show dp + 1 + _ < _; omega)
              · first | exact room2 hu (by decide) | (show un + 3 + _ < _; omega)
              refine out1 ?_
              intro t8 n8 h8 tk8 F₈ N₈
              dsimp only
              clear key kN8
              rw [hkn] at N₈
              obtain ⟨x1, x2, x3, x4, x5, x6, rfl⟩ := ho8
              k_steps
              (rename News h₀ L _ ((Nm, _) :: _) => kN9)
              have e9 : (pl : Int) + (t0.sz : Int) + (z.sz : Int) = ((pl + ((Th.node k a p [t0, y, c]).span - 1) : Nat) : Int) := by rw [hspan]; exact Int.add_assoc _ _ _
              rw [e9] at kN9
              refine cps (fun cG => ∀ (o9 : Obj), News h₀ L _ ((Nm, lstO (nmL rk t8) n8) :: (L' + 1, oc) :: (xd, o9) :: (lt, lstO (late.map Value.ref ++ rl.map Value.ref) ln8) :: (kp, keptO w xs5 kl5) :: R6) → PassD w kn kp ((pl + ((Th.node k a p [t0, y, c]).span - 1) : Nat) : Int) lt _ o9 → cG) ?_ (fun ck => ck _ kN9 ⟨_, _, _, _, _, _, rfl⟩)
              intro o9 kN9 ho9
              rw [← List.map_append] at kN9
              refine hret _ [(xd, o9), (Nm, lstO (nmL rk t8) n8), (lt, lstO ((late ++ rl).map Value.ref) ln8), (kp, keptO w xs5 kl5)] (tl5 ++ (K, tupO [.int (pl : Int) tp, .ref T] 0) :: (T, tupO (nmL (known && Th.textss [t0, y, c]) tt) 0) :: tl) _ _ (by assumption) (News.sub kN9 ?_) (fresh_out ?_) ⟨rfl, o9, t8, n8, ln8, kl5, xs5, rfl, ho9, ?_⟩
              · rw [hR6, hR3, hR2]
                array_get_dec
              · exact all_led (fun q hq => ⟨(hf6 q hq).1, fun q2 hq2 => (hf6 q hq).2 q2 (hs4 _ (hs2 _ hq2))⟩) (all_cons ⟨hK.1, fun q2 hq2 => hK.2 q2 (hs2 _ hq2)⟩ (all_cons ⟨hT3.1, fun q2 hq2 => hT3.2 q2 (hs2 _ hq2)⟩ hf3))
              · rw [List.append_assoc]
                rw [hR4] at hko5
                exact hko5
          · with_unfolding_all rfl
      | succ kk ih =>
        refine comp_z1 hnw ?_
        intro hk0 htb
        refine LCt.CompRestT.succ ?_
        intro v I oI Cc oCc Dd mc hh tkk Ec hv
        revert hv
        revert v
        refine nm_elim htb ?_
        intro hC hx Fc Nc off ne
        have hsrc : LCg.SrcAt g' tx (nmL (Th.textss [t0, y, c]) tt).toArray nw0 := Or.inr ⟨lstO (nmL (Th.textss [t0, y, c]) tt) nt, (by rw [hnw]; k_mem), rfl, _, rfl⟩
        rw [hnw] at hsrc
        k_steps
        refine knows_ok w _ kn kd S Nm C _ known t _ n1 n n3 ?m1 ?m2 f4 ?m4 ?m5 ?m6 _ _ _ _ _ _ _ _ _ _ _ _ _ _ _ _ _ (by assumption) (by assumption) (by assumption) Nc (by assumption) rfl rfl ?_ ?_ ?_
        case m1 => k_mem
        case m2 => k_mem
        case m4 => k_mem
        case m5 => k_mem
        case m6 => k_mem
        · first | exact room1 hd (by decide) | (show dp + 1 + _ < _; omega)
        · first | exact room2 hu (by decide) | (show un + 3 + _ < _; omega)
        refine out0 ?_
        intro h4 tk4 F₄ N₄
        dsimp only
        cases known
        · k_steps
          refine LCg.CompEnd.intro (by assumption) N₄ _ (fun p hp => hp) off hsrc (ih 1 [] _ ⟨hnw.symm, fun _ => rfl, (fun h => absurd hk0 h)⟩)
        · k_steps
          refine LCg.CompEnd.intro (by assumption) N₄ _ (fun p hp => hp) off hsrc (ih 1 [_] _ ⟨hnw.symm, fun _ => by rw [htb]; rfl, (fun h => absurd hk0 h)⟩)
    · with_unfolding_all rfl

theorem go_lit (w : World) (tab : Nat → Option Th) (v : Value) : GoOk w tab (.lit v) := by
  intro R R0 x xd kn kd S C Nm lt kp od o n1 n3 n ln kl t st h0 hfix hap hpd hko hok hsz
  have hv : IsLit v := by cases hok.1 with | lit h => exact h
  exact go_flat w tab (.lit v) (.inl ⟨v, rfl, hv⟩) R R0 x xd kn kd S C Nm lt kp od o n1 n3 n ln kl t st h0 hfix hap hpd hko hok hsz
theorem go_all (w : World) (tab : Nat → Option Th) (htab : TabOk tab) {th : Th} (h : ThWf th) : GoOk w tab th := by
  induction h with
  | lit => exact go_lit w tab _
  | str => exact go_flat w tab _ (.inr ⟨_, rfl⟩)
  | seq hwf ih => exact go_seq w tab _ _ _ _ hwf ih
  | name hk =>
    rcases hk with rfl | rfl | rfl
    · exact go_of_node w tab _ _ _ _ (node_name w tab _ _ _ _ (.inl rfl))
    · exact go_of_node w tab _ _ _ _ (node_name w tab _ _ _ _ (.inr rfl))
    · exact go_of_node w tab _ _ _ _ (node_tloc w tab _ _ _)
  | plain hk hwf ih => exact go_of_node w tab _ _ _ _ (node_plain w tab _ _ _ _ hk fun nn => go_seq w tab _ _ _ _ hwf ih)
  | @test k a p t y c hk ht hy hyr hc hcc iht ihy ihc =>
    have hwf : ThWf (.node k a p [t, y, c]) := .test hk ht hy hyr hc hcc
    refine go_of_node w tab _ _ _ _ (node_test w tab _ _ _ _ _ _ hk ?_)
    cases hs : bodySel k y c with
    | none =>
      refine test_bare w tab _ _ _ _ _ _ hk hwf hs fun nn => go_seq w tab _ _ _ _ ?_ ?_
      · intro i hi
        simp only [List.mem_cons, List.not_mem_nil, or_false] at hi
        rcases hi with rfl | rfl | rfl <;> assumption
      · intro i hi
        simp only [List.mem_cons, List.not_mem_nil, or_false] at hi
        rcases hi with rfl | rfl | rfl <;> assumption
    | some s0 =>
      cases s0 with
      | false => exact test_body w tab htab _ _ _ _ _ _ false y rfl hk hwf hs iht ihy
      | true => exact test_body w tab htab _ _ _ _ _ _ true c rfl hk hwf hs iht ihc

theorem empty_dict {prog : Program} {w : World} {o : Obj} (h : Obj.IsDictOf (PySem.strKind prog w) o []) : ∃ ep, o = keptO w [] ep := by
  obtain ⟨es, ep, ⟨h1, h2, h3⟩, hd, _, hp, _⟩ := h
  obtain ⟨c, d, dt, sl⟩ := o
  dsimp only at h1 h2 h3 hd
  subst h1 h2 h3 hd
  obtain ⟨es⟩ := es
  cases hp
  exact ⟨ep, rfl⟩
theorem start_apart {lt kp x xd C S Nm kn kd l3 : Addr} {ox oC oS okn okd : Obj} {R : Led} {X2 X3 : Prop} (h1 : kn < Nm ∧ kd < Nm ∧ l3 < Nm ∧ AllLt Nm R) (h2 : Nm < S ∧ X2) (h3 : S < C ∧ Nm < C ∧ X3) (h4 : C < xd ∧ S < xd ∧ Nm < xd ∧ kn < xd ∧ kd < xd ∧ l3 < xd ∧ AllLt xd R) (h5 : xd < x)
    (h6 : x < kp ∧ xd < kp ∧ C < kp ∧ S < kp ∧ Nm < kp ∧ kn < kp ∧ kd < kp ∧ l3 < kp ∧ AllLt kp R) (h7 : kp < lt ∧ x < lt ∧ xd < lt ∧ C < lt ∧ S < lt ∧ Nm < lt ∧ kn < lt ∧ kd < lt ∧ l3 < lt ∧ AllLt lt R) (hlo : (kp == sysModules) = false) :
    Apart ((x, ox) :: (C, oC) :: (S, oS) :: (kn, okn) :: (kd, okd) :: R) xd Nm lt kp := by
  obtain ⟨a1, a2, a3, a4⟩ := h1
  obtain ⟨b1, b2⟩ := h2
  obtain ⟨c1, c2, c3⟩ := h3
  obtain ⟨d1, d2, d3, d4, d5, d6, d7⟩ := h4
  obtain ⟨e1, e2, e3, e4, e5, e6, e7, e8, e9⟩ := h6
  obtain ⟨f1, f2, f3, f4, f5, f6, f7, f8, f9, f10⟩ := h7
  refine ⟨Nat.ne_of_gt d3, Nat.ne_of_lt f3, Nat.ne_of_lt e2, Nat.ne_of_lt f6, Nat.ne_of_lt e5, Nat.ne_of_gt f1, ?_, ?_, ?_, ?_, hlo⟩
  · exact List.forall_mem_cons.mpr ⟨Nat.ne_of_gt h5, List.forall_mem_cons.mpr ⟨Nat.ne_of_lt d1, List.forall_mem_cons.mpr ⟨Nat.ne_of_lt d2, List.forall_mem_cons.mpr ⟨Nat.ne_of_lt d4, List.forall_mem_cons.mpr ⟨Nat.ne_of_lt d5, fun q hq => Nat.ne_of_lt (d7.of q hq)⟩⟩⟩⟩⟩
  · exact List.forall_mem_cons.mpr ⟨Nat.ne_of_gt (Nat.lt_trans d3 h5), List.forall_mem_cons.mpr ⟨Nat.ne_of_gt c2, List.forall_mem_cons.mpr ⟨Nat.ne_of_gt b1, List.forall_mem_cons.mpr ⟨Nat.ne_of_lt a1, List.forall_mem_cons.mpr ⟨Nat.ne_of_lt a2, fun q hq => Nat.ne_of_lt (a4.of q hq)⟩⟩⟩⟩⟩
  · exact List.forall_mem_cons.mpr ⟨Nat.ne_of_lt f2, List.forall_mem_cons.mpr ⟨Nat.ne_of_lt f4, List.forall_mem_cons.mpr ⟨Nat.ne_of_lt f5, List.forall_mem_cons.mpr ⟨Nat.ne_of_lt f7, List.forall_mem_cons.mpr ⟨Nat.ne_of_lt f8, fun q hq => Nat.ne_of_lt (f10.of q hq)⟩⟩⟩⟩⟩
  · exact List.forall_mem_cons.mpr ⟨Nat.ne_of_lt e1, List.forall_mem_cons.mpr ⟨Nat.ne_of_lt e3, List.forall_mem_cons.mpr ⟨Nat.ne_of_lt e4, List.forall_mem_cons.mpr ⟨Nat.ne_of_lt e6, List.forall_mem_cons.mpr ⟨Nat.ne_of_lt e7, fun q hq => Nat.ne_of_lt (e9.of q hq)⟩⟩⟩⟩⟩
inductive LatePost (th : Th) (r : Value) (M' tl : Led) : Prop
  | ex (h1 : M' = []) (l : _) (n : _) (h2 : r = .ref l) (h3 : (l, lstO ((th.run false).late.map Value.ref) n) ∈ tl)
theorem LatePost.out {h₀ : Heap} {L : Addr} {m : PySem.Str → Option Value} {R : Led} {W : Led → Prop} {G : Value → Heap → Nat → Prop} {th : Th}
    (k : ∀ l n tl h' tk', (l, lstO ((th.run false).late.map Value.ref) n) ∈ tl → Fr h₀ L h' m → News h₀ L h' (tl ++ R) → W tl → G (.ref l) h' tk') :
    ∀ r M' tl h' tk', Fr h₀ L h' m → News h₀ L h' (M' ++ (tl ++ R)) → W tl → LatePost th r M' tl → G r h' tk' := by
  rintro _ _ tl h' tk' F N hw ⟨rfl, l, n, rfl, h1⟩
  exact k l n tl h' tk' h1 F N hw
theorem late_ok (w : World) (tab : Nat → Option Th) (htab : TabOk tab) (R : Led) (a p : Addr) (is : List Th) (hin : ThIn w R (.node .seq a p is)) (hwf : ThWf (.node .seq a p is)) (hcov : Cov tab 0 (.node .seq a p is)) (hsz : (Th.node .seq a p is).sz ≤ 1000) :
    Cn w 351 [.ref a] ((Th.node .seq a p is).ht + 80) [] R (LatePost (.node .seq a p is)) := by
  have hin' := hin
  refine hin.atNodeO ?_
  intro d nn v1 v2 v3 v4 v5 v6 g1 g2 g4 hl his
  unfold Cn; k_fill; intro dp un gd A₀ base h₀ outer env L m s pp loose mean mg mb Q B F X N T hf hk hd hu hret
  simp only [List.nil_append] at N
  k_dflt (refine' code_def ?k1 ?k2 ?k3 ?k4 ?k5 ?kA ?kF ?kK ?k6 ?k7 ?k8 ?k9 ?kB ?_ ?c2 ?c3 ?c4 ?c5; (case kA => exact rfl); (case kF => assumption); (case kK => assumption); (case k1 => k_asm); (case k2 => k_asm); (case k3 => k_asm); (case k4 => k_asm); (case k5 => k_asm); (case k6 => k_is); (case k7 => k_is); (case k8 => ktr_room); (case k9 => first | exact BindsTo.of_eq rfl | exact binds_K (by k_in) rfl (by k_is) rfl rfl rfl); (case c5 => decide); (case kB => exact locs rfl); (case c2 => exact rfl); (case c3 => exact rfl); (case c4 => exact rfl); k_whole; intro g' L' h' FG' F' N' B' X' T'; (try dsimp only); (try k_fold); (refine frame_name F' ?_); clear F'; intro mm' F' hfr')
  k_steps
  (rename Obj.IsDictOf (PySem.strKind _ _) _ [] => hdict)
  obtain ⟨ep, hkep⟩ := empty_dict hdict
  subst hkep
  (rename (_ == sysModules) = false => hlo)
  (rename News g' L' _ (_ :: _ :: _ :: _ :: _ :: _ :: _ :: _ :: _ :: _ :: R) => kN)
  (rename _ ∧ _ ∧ _ ∧ AllLt _ R => h1)
  (rename _ ∧ _ ∧ _ ∧ _ ∧ AllLt _ R => h2)
  (rename _ ∧ _ ∧ _ ∧ _ ∧ _ ∧ AllLt _ R => h3)
  (rename _ ∧ _ ∧ _ ∧ _ ∧ _ ∧ _ ∧ AllLt _ R => h4)
  (rename _ ∧ _ ∧ _ ∧ _ ∧ _ ∧ _ ∧ _ ∧ _ ∧ AllLt _ R => h6)
  (rename _ ∧ _ ∧ _ ∧ _ ∧ _ ∧ _ ∧ _ ∧ _ ∧ _ ∧ AllLt _ R => h7)
  (rename (@LT.lt Nat _ _ _) => h5)
  rename_i kn kd _ _ _ _ _ _ _ _ _ _ _ _ _ Nm cn _ S _ _ _ _ C _ _ _ _ _ _ _ x xd _ _ _ _ _ _ _ _ _ _ _ _ _ _ kp _ _ _ _ _ _ _ _ _ lt _ _ _ _ _ _ _ _ _ _ _ _ _ _
  refine cps (fun cG => ∀ (okd : Obj) (oxd : Obj) (e0 : Addr × Obj), News g' L' _ ((lt, lstO [] 0) :: (kp, keptO w [] ep) :: (x, instObj 314 xd) :: (xd, oxd) :: (C, lstO [.bool true] 0) :: (S, lstO [.ref Nm] 0) :: (Nm, lstO (nmL false 0) cn) :: (kn, instObj 233 kd) :: (kd, okd) :: e0 :: R) → KnD w S C okd → PassD w kn kp ((0 : Nat) : Int) lt true oxd → Apart ((x, instObj 314 xd) :: (C, lstO [.bool true] 0) :: (S, lstO [.ref Nm] 0) :: (kn, instObj 233 kd) :: (kd, okd) :: R) xd Nm lt kp → AllLt lt R → cG) ?_ (fun ck => ck _ _ _ kN ⟨_, _, rfl⟩ ⟨_, _, _, _, _, _, rfl⟩ (start_apart h1 h2 h3 h4 h5 h6 h7 hlo) h7.2.2.2.2.2.2.2.2.2)
  intro okd oxd e0 nN hokd hoxd hap hltR
  clear h1 h2 h3 h4 h6 h7 kN
  have key := go_all w tab htab hwf ((x, instObj 314 xd) :: (C, lstO [.bool true] 0) :: (S, lstO [.ref Nm] 0) :: (kn, instObj 233 kd) :: (kd, okd) :: R) [] x xd kn kd S C Nm lt kp okd oxd 0 0 cn 0 ep 0 ⟨0, true, false, [], []⟩ (fun _ h => nomatch h)
    ⟨.head _, .tail _ (.tail _ (.tail _ (.head _))), .tail _ (.tail _ (.tail _ (.tail _ (.head _)))), hokd, .tail _ (.tail _ (.head _)), .tail _ (.head _)⟩ hap hoxd ⟨List.nodup_nil, fun _ h => nomatch h⟩ ⟨hin'.mono fun q hq => .tail _ (.tail _ (.tail _ (.tail _ (.tail _ hq)))), hcov⟩ (by simpa using hsz)
  refine key _ _ _ _ _ _ _ _ _ _ _ _ _ _ _ _ _ (by assumption) (by assumption) (by assumption) (News.sub nN ?_) (by assumption) rfl rfl ?_ ?_ ?_
  · unfold MutL
    exact all_led (P := fun p => p ∈ _) (all_cons (.tail _ (.tail _ (.tail _ (.head _)))) (all_cons (.tail _ (.tail _ (.tail _ (.tail _ (.tail _ (.tail _ (.head _))))))) (all_cons (.head _) (all_cons (.tail _ (.head _)) all_nil)))) (all_cons (.tail _ (.tail _ (.head _))) (all_cons (.tail _ (.tail _ (.tail _ (.tail _ (.head _))))) (all_cons (.tail _ (.tail _ (.tail _ (.tail _ (.tail _ (.head _)))))) (all_cons (.tail _ (.tail _ (.tail _ (.tail _ (.tail _ (.tail _ (.tail _ (.head _)))))))) (all_cons (.tail _ (.tail _ (.tail _ (.tail _ (.tail _ (.tail _ (.tail _ (.tail _ (.head _))))))))) (fun p h => .tail _ (.tail _ (.tail _ (.tail _ (.tail _ (.tail _ (.tail _ (.tail _ (.tail _ (.tail _ h)))))))))))))))
  · first | exact room1 hd (by decide) | (show dp + 1 + _ < _; omega)
  · first | exact room2 hu (by decide) | (show un + 3 + _ < _; omega)
  refine GoPost.out ?_
  intro o₂ t₂ n₂ ln₂ kl₂ xs₂ tl' h'' tk' hpd₃ hko₃ F₂ N₂ hfr
  dsimp only
  unfold MutL at N₂
  obtain ⟨x1, x2, x3, x4, x5, x6, rfl⟩ := hpd₃
  clear key nN
  k_steps
  (rename News h₀ L _ _ => kN9)
  refine hret _ [] [(lt, lstO (((Th.node .seq a p is).run false).late.map Value.ref) ln₂)] _ _ (by assumption) (News.sub kN9 ?_) ?_ ⟨rfl, lt, ln₂, rfl, .head _⟩
  · simp only [Ps.step, List.nil_append]
    array_get_dec
  · intro q hq p hp
    rw [List.mem_singleton.mp hp]
    exact Nat.ne_of_lt (hltR.of q hq)

theorem ar_ne0 {m : Nat} (h : 0 < m) : (m : Int) ≠ 0 := fun e => absurd (Int.ofNat.inj e) (Nat.ne_of_gt h)
theorem ar_many {m : Nat} (h : m < 100) : (m : Int).natAbs < 1073741824 := Nat.lt_trans h (by decide)
theorem ar_seed {b c : Int} (hB : 0 ≤ b ∧ b < 1000003) (hC : 0 ≤ c ∧ c < 100000) : (b + 40087 * (c + 1)).natAbs < 18446744073709551616 := by
  obtain ⟨b, rfl⟩ := Int.eq_ofNat_of_zero_le hB.1
  obtain ⟨c, rfl⟩ := Int.eq_ofNat_of_zero_le hC.1
  exact Nat.lt_trans (Nat.add_lt_add_of_lt_of_le (Int.ofNat_lt.mp hB.2) (Nat.mul_le_mul_left 40087 (Int.ofNat_lt.mp hC.2))) (by decide)
local macro_rules | `(tactic| walk_at "binaryOp FloorDiv int int") => `(tactic| (k_here; (with_reducible refine floordiv_int ?b ?_ (Or.inl (PyProof.noPylong_small ?s))); (case b => exact ar_ne0 (by assumption)); (case s => first | exact ar_many (by assumption) | exact ar_seed (by assumption) (by assumption))))
local macro_rules | `(tactic| walk_at "binaryOp Pow int int") => `(tactic| (k_here; (with_reducible refine pow_int_small ?a ?b ?c ?_); (case a => decide); (case b => decide); (case c => (simp [Int.toNat]; omega))))
theorem fmod_digit {a : Int} {m : Nat} (hm : 0 < m) : 0 ≤ a.fmod m ∧ a.fmod m < m := by
  have h0 : (0 : Int) < m := Int.ofNat_lt.mpr hm
  exact ⟨Int.fmod_nonneg_of_pos a h0, Int.fmod_lt_of_pos a h0⟩
/-- what a take leaves -/
inductive TakePost (bx : Addr) (bB bC : Int) (many : Nat) (r : Value) (M' tl : Led) : Prop
  | ex (d : Int) (t5 : Tok) (A' : Int) (C' : Int) (t1' : Tok) (t2' : Tok) (t3' : Tok) (n' : Nat) (h1 : r = .int d t5) (h2 : (0 ≤ d ∧ d < many)) (h3 : tl = []) (h4 : (0 ≤ C' ∧ C' ≤ bC + 1)) (h5 : M' = [(bx, lstO [.int A' t1', .int bB t2', .int C' t3'] n')])
theorem TakePost.out {h₀ : Heap} {L : Addr} {m : PySem.Str → Option Value} {R : Led} {W : Led → Prop} {G : Value → Heap → Nat → Prop} {bx : Addr} {bB bC : Int} {many : Nat}
    (k : ∀ (d : Int) t5 A' C' t1' t2' t3' n' h' tk', (0 ≤ d ∧ d < many) → (0 ≤ C' ∧ C' ≤ bC + 1) → Fr h₀ L h' m → News h₀ L h' ((bx, lstO [.int A' t1', .int bB t2', .int C' t3'] n') :: R) → G (.int d t5) h' tk') :
    ∀ r M' tl h' tk', Fr h₀ L h' m → News h₀ L h' (M' ++ (tl ++ R)) → W tl → TakePost bx bB bC many r M' tl → G r h' tk' := by
  rintro _ _ _ h' tk' F N _ ⟨d, t5, A', C', t1', t2', t3', n', rfl, h1, rfl, h2, rfl⟩
  exact k d t5 A' C' t1' t2' t3' n' h' tk' h1 h2 F N
theorem TakePost.outN {h₀ : Heap} {L : Addr} {m : PySem.Str → Option Value} {R : Led} {W : Led → Prop} {G : Value → Heap → Nat → Prop} {bx : Addr} {bB bC : Int} {many : Nat}
    (k : ∀ (d : Nat) t5 A' C' t1' t2' t3' n' h' tk', d < many → (0 ≤ C' ∧ C' ≤ bC + 1) → Fr h₀ L h' m → News h₀ L h' ((bx, lstO [.int A' t1', .int bB t2', .int C' t3'] n') :: R) → G (.int (d : Int) t5) h' tk') :
    ∀ r M' tl h' tk', Fr h₀ L h' m → News h₀ L h' (M' ++ (tl ++ R)) → W tl → TakePost bx bB bC many r M' tl → G r h' tk' := by
  refine TakePost.out ?_
  intro d t5 A' C' t1' t2' t3' n' h' tk' h1 h2 F N
  obtain ⟨d, rfl⟩ := Int.eq_ofNat_of_zero_le h1.1
  exact k d t5 A' C' t1' t2' t3' n' h' tk' (Int.ofNat_lt.mp h1.2) h2 F N
theorem take_ok (w : World) (R : Led) (bx : Addr) (bA bB bC : Int) (many : Nat) (t1 t2 t3 t4 : Tok) (n : Nat) (hm : 0 < many) (hm2 : many < 100) (hB : 0 ≤ bB ∧ bB < 1000003) (hC : 0 ≤ bC ∧ bC < 100000) (hR : ∀ q ∈ R, q.1 ≠ bx) :
    Ct w 365 [.ref bx, .int (many : Int) t4] 20 [(bx, lstO [.int bA t1, .int bB t2, .int bC t3] n)] R (TakePost bx bB bC many) := by
  unfold Ct; k_fill; intro dp un gd A₀ base h₀ outer env L m s pp loose mean mg mb Q B F X N T hf hk hd hu hret
  simp only [List.cons_append, List.nil_append] at N
  k_dflt (refine' code_def ?k1 ?k2 ?k3 ?k4 ?k5 ?kA ?kF ?kK ?k6 ?k7 ?k8 ?k9 ?kB ?_ ?c2 ?c3 ?c4 ?c5; (case kA => exact rfl); (case kF => assumption); (case kK => assumption); (case k1 => k_asm); (case k2 => k_asm); (case k3 => k_asm); (case k4 => k_asm); (case k5 => k_asm); (case k6 => k_is); (case k7 => k_is); (case k8 => ktr_room); (case k9 => first | exact BindsTo.of_eq rfl | exact binds_K (by k_in) rfl (by k_is) rfl rfl rfl); (case c5 => decide); (case kB => exact locs rfl); (case c2 => exact rfl); (case c3 => exact rfl); (case c4 => exact rfl); k_whole; intro g' L' h' FG' F' N' B' X' T'; (try dsimp only); (try k_fold); (refine frame_name F' ?_); clear F'; intro mm' F' hfr')
  k_steps
  · exact hret _ [_] [] _ _ (by assumption) (by assumption) (fun _ _ _ h => nomatch h) ⟨_, _, _, bC, _, _, _, _, rfl, fmod_digit hm, rfl, ⟨hC.1, Int.le_add_one (Int.le_refl _)⟩, rfl⟩
  · exact hret _ [_] [] _ _ (by assumption) (by assumption) (fun _ _ _ h => nomatch h) ⟨_, _, _, bC + 1, _, _, _, _, rfl, fmod_digit hm, rfl, ⟨Int.le_add_one hC.1, Int.le_refl _⟩, rfl⟩

theorem ks_int : Kd.s .int = Str.ofString "int" := rfl
theorem ks_lvar : Kd.s .lvar = Str.ofString "lvar" := rfl
theorem ks_tloc : Kd.s .tloc = Str.ofString "t_local" := rfl
theorem ks_asg : Kd.s .asg = Str.ofString "assign" := rfl
theorem ks_vcall : Kd.s .vcall = Str.ofString "vcall" := rfl
theorem ks_seq : Kd.s .seq = Str.ofString "seq" := rfl
theorem ks_ifk : Kd.s .ifk = Str.ofString "if" := rfl
theorem ks_whk : Kd.s .whk = Str.ofString "while" := rfl
theorem node_room {dp un q : Nat} {gd : Option (List Code)} {env : Env} {outer : List Env} (h : dp + q < recursionLimit) (hq : 26 ≤ q) : (Ar dp un gd env outer).depth + 1 + 25 < recursionLimit := by
  exact Nat.lt_of_le_of_lt (Nat.le_trans (Nat.le_of_eq (Nat.add_assoc dp 1 25)) (Nat.add_le_add_left hq dp)) h
theorem node_units {dp un q : Nat} {gd : Option (List Code)} {env : Env} {outer : List Env} (h : un + 8 * q < cLine) (hq : 40 ≤ q) : (Ar dp un gd env outer).units + 3 + 300 < cLine := by
  exact Nat.lt_of_le_of_lt (Nat.le_trans (Nat.le_of_eq (Nat.add_assoc un 3 300)) (Nat.add_le_add_left (Nat.le_trans (by decide) (Nat.mul_le_mul_left 8 hq)) un)) h
theorem node_newS {w : World} {dp un : Nat} {gd : Option (List Code)} {A₀ : Around} {base h₀ : Heap} {outer : List Env} {env : Env} {L : Addr} {m : PySem.Str → Option Value} {s : Shared} {pp : Program} {loose : List PySem.Str} {mean : ExcName → Option Value} {mg mb : PySem.Str → Option Value}
    {E : Value → Shared → Prop} {Q : Value → Shared → Prop} {news : Led} {x : PySem.Str} (k : Kd) {p : Addr} {tk : Tok} {vs : List Value} {n : Nat} (e : k.s = x)
    (B : Below A₀ base outer h₀) (F : Fr h₀ L s.heap m) (X : (hd.heap_39 w.params).In h₀) (N : News h₀ L s.heap news) (T : Top pp loose mean mg mb h₀)
    (hf : env.frame = some L) (hk : env.scope.kind = .function) (hd : dp + 25 < recursionLimit) (hu : un + 300 < cLine) (hp : (p, tupO vs n) ∈ news) (hn : vs.length = k.n)
    (h : ∀ x d o h' tk', NodeD w k p o → Fr h₀ L h' m → News h₀ L h' ((x, instObj 147 d) :: (d, o) :: news) → (∀ q ∈ news, q.1 < d) → d < x → Q (.ref x) { s with heap := h', toks := tk' }) :
    wpAny (model PySem.Challenge.rw_pq0485_01.row.prog w) (Ar dp un gd env outer) (call (.ref 147) [.str x tk, .ref p]) Q E s := by
  subst e
  exact node_new k B F X N T hf hk hd hu hp hn h

set_option hygiene true in
local macro_rules | `(tactic| walk_at "call ref") => `(tactic| (k_here; (with_reducible show wpAny _ _ (call (Value.ref 147) [Value.str _ _, Value.ref _]) _ _ _); k_dflt (refine node_newS _ (by with_reducible first | exact ks_int | exact ks_lvar | exact ks_tloc | exact ks_asg | exact ks_vcall | exact ks_seq | exact ks_ifk | exact ks_whk) (by assumption) (by k_asm) (by assumption) (by k_asm) (by assumption) (by rfl) (by rfl) (by first | decide | exact node_room (by assumption) (by decide)) (by first | decide | exact node_units (by assumption) (by decide)) (by k_mem) (by rfl) ?_); intro x' d' o' h' tk' hD' F' N' l1 l2; (try k_lt l1)))
inductive PcIn (w : World) (R : Led) (r : Value) (th : Th) (r0 r1 mk : Bool) : Prop
  | ex (l : _) (q : _) (n1 : _) (n2 : _) (h1 : r = .ref l) (h2 : (l, lstO [th.val, .ref q, .bool mk] n1) ∈ R) (h3 : (q, lstO [.bool r0, .bool r1] n2) ∈ R) (h4 : ThIn w R th)
theorem PcIn.at {w : World} {R : Led} {l : Addr} {th : Th} {r0 r1 mk : Bool} {G : Prop} (h : PcIn w R (.ref l) th r0 r1 mk) (k : ∀ q n1 n2, (l, lstO [th.val, .ref q, .bool mk] n1) ∈ R → (q, lstO [.bool r0, .bool r1] n2) ∈ R → ThIn w R th → G) : G := by
  obtain ⟨_, q, n1, n2, e, h1, h2, h3⟩ := h
  cases e
  exact k q n1 n2 h1 h2 h3
theorem PcIn.mono {w : World} {R R' : Led} {r : Value} {th : Th} {r0 r1 mk : Bool} (hs : ∀ p ∈ R, p ∈ R') (h : PcIn w R r th r0 r1 mk) : PcIn w R' r th r0 r1 mk := by
  obtain ⟨l, q, n1, n2, e, h1, h2, h3⟩ := h
  exact ⟨l, q, n1, n2, e, hs _ h1, hs _ h2, h3.mono hs⟩
/-- what a piece says of its node: right and known behind it, for the name unknown and known -/
structure PcSem (th : Th) (r0 r1 mk : Bool) : Prop where
  wf : ThWf th
  node : ∃ k a p is, th = .node k a p is
  right : ∀ b, (th.run b).right = match b with | true => r1 | false => r0
  known : ∀ b, (th.run b).known = (b || mk)
structure SmSem (th : Th) : Prop where
  late : ∀ b, (th.run b).late = []
  sz : th.sz ≤ 3
  ht : th.ht ≤ 13
  cov : ∀ T p, Cov T p th
inductive SmallPost (w : World) (R : Led) (r : Value) (M' tl : Led) : Prop
  | ex (h1 : M' = []) (th : _) (r0 : _) (r1 : _) (mk : _) (h2 : PcIn w tl r th r0 r1 mk) (h3 : PcSem th r0 r1 mk ∧ SmSem th)
theorem SmallPost.out {h₀ : Heap} {L : Addr} {m : PySem.Str → Option Value} {R : Led} {W : Led → Prop} {G : Value → Heap → Nat → Prop} {w : World} {R0 : Led}
    (k : ∀ sl sq sn1 sn2 th r0 r1 mk tl h' tk', (sl, lstO [th.val, .ref sq, .bool mk] sn1) ∈ tl → (sq, lstO [.bool r0, .bool r1] sn2) ∈ tl → ThIn w tl th → PcSem th r0 r1 mk → SmSem th → Fr h₀ L h' m → News h₀ L h' (tl ++ R) → W tl → G (.ref sl) h' tk') :
    ∀ r M' tl h' tk', Fr h₀ L h' m → News h₀ L h' (M' ++ (tl ++ R)) → W tl → SmallPost w R0 r M' tl → G r h' tk' := by
  rintro _ _ tl h' tk' F N hw ⟨rfl, th, r0, r1, mk, ⟨sl, sq, sn1, sn2, rfl, h1, h2, h3⟩, h4, h5⟩
  exact k sl sq sn1 sn2 th r0 r1 mk tl h' tk' h1 h2 h3 h4 h5 F N hw
theorem fresh_one {D : Addr} {o : Obj} {tl R : Led} (h : ∀ q ∈ R, (@LT.lt Nat _ q.1 D)) (h2 : ∀ q ∈ R, ∀ p ∈ tl, (@LT.lt Nat _ q.1 p.1)) : ∀ q ∈ R, ∀ p ∈ (D, o) :: tl, (@LT.lt Nat _ q.1 p.1) := by
  intro q hq p hp
  rcases List.mem_cons.mp hp with rfl | hp
  · exact h q hq
  · exact h2 q hq p hp
theorem fresh_nil {R : Led} : ∀ q ∈ R, ∀ p ∈ ([] : Led), (@LT.lt Nat _ q.1 p.1) := fun _ _ _ h => nomatch h
theorem sm_int {a p t} : PcSem (.node .int a p [.lit (.int 7 t)]) true true false ∧ SmSem (.node .int a p [.lit (.int 7 t)]) :=
  ⟨⟨.plain (.inl rfl) fun i hi => by rw [List.mem_singleton.mp hi]; exact .lit, ⟨_, _, _, _, rfl⟩, fun b => by cases b <;> rfl, fun b => by cases b <;> rfl⟩,
   ⟨fun b => rfl, Nat.le_of_ble_eq_true rfl, Nat.le_of_ble_eq_true rfl, fun T p => .plain (.inl rfl) fun i th h => by
      rcases i with _ | i
      · cases h; exact .lit
      · simp at h⟩⟩
theorem sm_lvar {a p t} : PcSem (.node .lvar a p [.str t]) false true false ∧ SmSem (.node .lvar a p [.str t]) :=
  ⟨⟨.name (.inl rfl), ⟨_, _, _, _, rfl⟩, fun b => by cases b <;> rfl, fun b => by cases b <;> rfl⟩, ⟨fun b => rfl, Nat.le_of_ble_eq_true rfl, Nat.le_of_ble_eq_true rfl, fun T p => .name (.inl rfl)⟩⟩
theorem sm_vcall {a p t} : PcSem (.node .vcall a p [.str t]) true false false ∧ SmSem (.node .vcall a p [.str t]) :=
  ⟨⟨.name (.inr (.inl rfl)), ⟨_, _, _, _, rfl⟩, fun b => by cases b <;> rfl, fun b => by cases b <;> rfl⟩, ⟨fun b => rfl, Nat.le_of_ble_eq_true rfl, Nat.le_of_ble_eq_true rfl, fun T p => .name (.inr (.inl rfl))⟩⟩
theorem sm_asg {a p a1 p1 a2 p2 t t2} : PcSem (.node .asg a p [.node .tloc a1 p1 [.str t], .node .int a2 p2 [.lit (.int 7 t2)]]) true true true ∧ SmSem (.node .asg a p [.node .tloc a1 p1 [.str t], .node .int a2 p2 [.lit (.int 7 t2)]]) :=
  ⟨⟨.plain (.inr (.inl rfl)) fun i hi => by
      simp only [List.mem_cons, List.not_mem_nil, or_false] at hi
      rcases hi with rfl | rfl
      · exact .name (.inr (.inr rfl))
      · exact sm_int.1.wf, ⟨_, _, _, _, rfl⟩, fun b => by cases b <;> rfl, fun b => by cases b <;> rfl⟩,
   ⟨fun b => rfl, Nat.le_of_ble_eq_true rfl, Nat.le_of_ble_eq_true rfl, fun T p => .plain (.inr (.inl rfl)) fun i th h => by
      rcases i with _ | _ | i
      · cases h; exact .name (.inr (.inr rfl))
      · cases h; exact sm_int.2.cov _ _
      · simp at h⟩⟩
theorem lt_of_all {D : Addr} {R : Led} (h : AllLt D R) : ∀ q ∈ R, (@LT.lt Nat _ q.1 D) := h.of
theorem lt_of_all2 {D x : Addr} {R : Led} (h : AllLt D R) (h2 : (@LT.lt Nat _ D x)) : ∀ q ∈ R, (@LT.lt Nat _ q.1 x) := fun q hq => Nat.lt_trans (h.of q hq) h2
theorem lt_of_all3 {D x : Addr} {R : Led} (h : ∀ q ∈ R, (@LT.lt Nat _ q.1 D)) (h2 : (@LT.lt Nat _ D x)) : ∀ q ∈ R, (@LT.lt Nat _ q.1 x) := fun q hq => Nat.lt_trans (h q hq) h2
theorem small_0 (w : World) (R : Led) (t0 : Tok) : Ct w 372 [.int ((0 : Nat) : Int) t0] 60 [] R (SmallPost w R) := by
  unfold Ct; k_fill; intro dp un gd A₀ base h₀ outer env L m s pp loose mean mg mb Q B F X N T hf hk hd hu hret
  simp only [List.cons_append, List.nil_append] at N
  k_dflt (refine' code_def ?k1 ?k2 ?k3 ?k4 ?k5 ?kA ?kF ?kK ?k6 ?k7 ?k8 ?k9 ?kB ?_ ?c2 ?c3 ?c4 ?c5; (case kA => exact rfl); (case kF => assumption); (case kK => assumption); (case k1 => k_asm); (case k2 => k_asm); (case k3 => k_asm); (case k4 => k_asm); (case k5 => k_asm); (case k6 => k_is); (case k7 => k_is); (case k8 => ktr_room); (case k9 => first | exact BindsTo.of_eq rfl | exact binds_K (by k_in) rfl (by k_is) rfl rfl rfl); (case c5 => decide); (case kB => exact locs rfl); (case c2 => exact rfl); (case c3 => exact rfl); (case c4 => exact rfl); k_whole; intro g' L' h' FG' F' N' B' X' T'; (try dsimp only); (try k_fold); (refine frame_name F' ?_); clear F'; intro mm' F' hfr')
  k_steps
  repeat (rename _ ∧ _ => hq; obtain ⟨_, _⟩ := hq)
  refine hret _ [] (_ :: _ :: _ :: _ :: _ :: []) _ _ (by assumption) (by assumption) ?_ ⟨rfl, .node .int _ _ [.lit (.int 7 _)], _, _, _, ⟨_, _, _, _, rfl, .head _, .tail _ (.head _), .node (.tail _ (.tail _ (.head _))) (.tail _ (.tail _ (.tail _ (.head _)))) (by assumption) (.tail _ (.tail _ (.tail _ (.tail _ (.head _))))) (Nat.le_of_ble_eq_true rfl) ?_⟩, sm_int⟩
  · repeat (refine fresh_one ?_ ?_; first | assumption | exact lt_of_all (by assumption) | exact lt_of_all (by assumption) | (refine lt_of_all2 ?_ (by assumption); assumption) | (refine lt_of_all3 ?_ (by assumption); assumption))
    exact fresh_nil
  · intro i hi
    rw [List.mem_singleton.mp hi]
    exact .lit trivial
theorem small_1 (w : World) (R : Led) (t0 : Tok) : Ct w 372 [.int ((1 : Nat) : Int) t0] 60 [] R (SmallPost w R) := by
  unfold Ct; k_fill; intro dp un gd A₀ base h₀ outer env L m s pp loose mean mg mb Q B F X N T hf hk hd hu hret
  simp only [List.cons_append, List.nil_append] at N
  k_dflt (refine' code_def ?k1 ?k2 ?k3 ?k4 ?k5 ?kA ?kF ?kK ?k6 ?k7 ?k8 ?k9 ?kB ?_ ?c2 ?c3 ?c4 ?c5; (case kA => exact rfl); (case kF => assumption); (case kK => assumption); (case k1 => k_asm); (case k2 => k_asm); (case k3 => k_asm); (case k4 => k_asm); (case k5 => k_asm); (case k6 => k_is); (case k7 => k_is); (case k8 => ktr_room); (case k9 => first | exact BindsTo.of_eq rfl | exact binds_K (by k_in) rfl (by k_is) rfl rfl rfl); (case c5 => decide); (case kB => exact locs rfl); (case c2 => exact rfl); (case c3 => exact rfl); (case c4 => exact rfl); k_whole; intro g' L' h' FG' F' N' B' X' T'; (try dsimp only); (try k_fold); (refine frame_name F' ?_); clear F'; intro mm' F' hfr')
  k_steps
  repeat (rename _ ∧ _ => hq; obtain ⟨_, _⟩ := hq)
  refine hret _ [] (_ :: _ :: _ :: _ :: _ :: []) _ _ (by assumption) (by assumption) ?_ ⟨rfl, .node .lvar _ _ [.str _], _, _, _, ⟨_, _, _, _, rfl, .head _, .tail _ (.head _), .node (.tail _ (.tail _ (.head _))) (.tail _ (.tail _ (.tail _ (.head _)))) (by assumption) (.tail _ (.tail _ (.tail _ (.tail _ (.head _))))) (Nat.le_of_ble_eq_true rfl) ?_⟩, sm_lvar⟩
  · repeat (refine fresh_one ?_ ?_; first | assumption | exact lt_of_all (by assumption) | exact lt_of_all (by assumption) | (refine lt_of_all2 ?_ (by assumption); assumption) | (refine lt_of_all3 ?_ (by assumption); assumption))
    exact fresh_nil
  · intro i hi
    rw [List.mem_singleton.mp hi]
    exact .str
theorem small_3 (w : World) (R : Led) (t0 : Tok) : Ct w 372 [.int ((3 : Nat) : Int) t0] 60 [] R (SmallPost w R) := by
  unfold Ct; k_fill; intro dp un gd A₀ base h₀ outer env L m s pp loose mean mg mb Q B F X N T hf hk hd hu hret
  simp only [List.cons_append, List.nil_append] at N
  k_dflt (refine' code_def ?k1 ?k2 ?k3 ?k4 ?k5 ?kA ?kF ?kK ?k6 ?k7 ?k8 ?k9 ?kB ?_ ?c2 ?c3 ?c4 ?c5; (case kA => exact rfl); (case kF => assumption); (case kK => assumption); (case k1 => k_asm); (case k2 => k_asm); (case k3 => k_asm); (case k4 => k_asm); (case k5 => k_asm); (case k6 => k_is); (case k7 => k_is); (case k8 => ktr_room); (case k9 => first | exact BindsTo.of_eq rfl | exact binds_K (by k_in) rfl (by k_is) rfl rfl rfl); (case c5 => decide); (case kB => exact locs rfl); (case c2 => exact rfl); (case c3 => exact rfl); (case c4 => exact rfl); k_whole; intro g' L' h' FG' F' N' B' X' T'; (try dsimp only); (try k_fold); (refine frame_name F' ?_); clear F'; intro mm' F' hfr')
  k_steps
  repeat (rename _ ∧ _ => hq; obtain ⟨_, _⟩ := hq)
  refine hret _ [] (_ :: _ :: _ :: _ :: _ :: []) _ _ (by assumption) (by assumption) ?_ ⟨rfl, .node .vcall _ _ [.str _], _, _, _, ⟨_, _, _, _, rfl, .head _, .tail _ (.head _), .node (.tail _ (.tail _ (.head _))) (.tail _ (.tail _ (.tail _ (.head _)))) (by assumption) (.tail _ (.tail _ (.tail _ (.tail _ (.head _))))) (Nat.le_of_ble_eq_true rfl) ?_⟩, sm_vcall⟩
  · repeat (refine fresh_one ?_ ?_; first | assumption | exact lt_of_all (by assumption) | exact lt_of_all (by assumption) | (refine lt_of_all2 ?_ (by assumption); assumption) | (refine lt_of_all3 ?_ (by assumption); assumption))
    exact fresh_nil
  · intro i hi
    rw [List.mem_singleton.mp hi]
    exact .str
theorem small2_post {w : World} {R : Led} {l q x d D x1 d1 D1 x2 d2 D2 : Addr} {o o1 o2 : Obj} {t t2 : Tok} (h : NodeD w .asg D o) (h1 : NodeD w .tloc D2 o2) (h2 : NodeD w .int D1 o1) :
    SmallPost w R (.ref l) [] [(l, lstO [.ref x, .ref q, .bool true] 0), (q, lstO [.bool true, .bool true] 0), (x, instObj 147 d), (d, o), (D, tupO [.ref x2, .ref x1] 0), (x1, instObj 147 d1), (d1, o1), (D1, tupO [.int 7 t2] 0), (x2, instObj 147 d2), (d2, o2), (D2, tupO [.str sA t] 0)] := by
  refine ⟨rfl, .node .asg x D [.node .tloc x2 D2 [.str t], .node .int x1 D1 [.lit (.int 7 t2)]], _, _, _, ⟨_, _, _, _, rfl, .head _, .tail _ (.head _), .node (.tail _ (.tail _ (.head _))) (.tail _ (.tail _ (.tail _ (.head _)))) h (.tail _ (.tail _ (.tail _ (.tail _ (.head _))))) (Nat.le_of_ble_eq_true rfl) ?_⟩, sm_asg⟩
  intro i hi
  simp only [List.mem_cons, List.not_mem_nil, or_false] at hi
  rcases hi with rfl | rfl
  · refine .node (d := d2) (o := o2) (n := 0) ?_ ?_ h1 ?_ (Nat.le_of_ble_eq_true rfl) ?_
    · exact .tail _ (.tail _ (.tail _ (.tail _ (.tail _ (.tail _ (.tail _ (.tail _ (.head _))))))))
    · exact .tail _ (.tail _ (.tail _ (.tail _ (.tail _ (.tail _ (.tail _ (.tail _ (.tail _ (.head _)))))))))
    · exact .tail _ (.tail _ (.tail _ (.tail _ (.tail _ (.tail _ (.tail _ (.tail _ (.tail _ (.tail _ (.head _))))))))))
    · intro i hi
      rw [List.mem_singleton.mp hi]
      exact .str
  · refine .node (d := d1) (o := o1) (n := 0) ?_ ?_ h2 ?_ (Nat.le_of_ble_eq_true rfl) ?_
    · exact .tail _ (.tail _ (.tail _ (.tail _ (.tail _ (.head _)))))
    · exact .tail _ (.tail _ (.tail _ (.tail _ (.tail _ (.tail _ (.head _))))))
    · exact .tail _ (.tail _ (.tail _ (.tail _ (.tail _ (.tail _ (.tail _ (.head _)))))))
    · intro i hi
      rw [List.mem_singleton.mp hi]
      exact .lit trivial
theorem small_2 (w : World) (R : Led) (t0 : Tok) : Ct w 372 [.int ((2 : Nat) : Int) t0] 60 [] R (SmallPost w R) := by
  unfold Ct; k_fill; intro dp un gd A₀ base h₀ outer env L m s pp loose mean mg mb Q B F X N T hf hk hd hu hret
  simp only [List.cons_append, List.nil_append] at N
  k_dflt (refine' code_def ?k1 ?k2 ?k3 ?k4 ?k5 ?kA ?kF ?kK ?k6 ?k7 ?k8 ?k9 ?kB ?_ ?c2 ?c3 ?c4 ?c5; (case kA => exact rfl); (case kF => assumption); (case kK => assumption); (case k1 => k_asm); (case k2 => k_asm); (case k3 => k_asm); (case k4 => k_asm); (case k5 => k_asm); (case k6 => k_is); (case k7 => k_is); (case k8 => ktr_room); (case k9 => first | exact BindsTo.of_eq rfl | exact binds_K (by k_in) rfl (by k_is) rfl rfl rfl); (case c5 => decide); (case kB => exact locs rfl); (case c2 => exact rfl); (case c3 => exact rfl); (case c4 => exact rfl); k_whole; intro g' L' h' FG' F' N' B' X' T'; (try dsimp only); (try k_fold); (refine frame_name F' ?_); clear F'; intro mm' F' hfr')
  k_steps
  repeat (rename _ ∧ _ => hq; obtain ⟨_, _⟩ := hq)
  refine hret _ [] (_ :: _ :: _ :: _ :: _ :: _ :: _ :: _ :: _ :: _ :: _ :: []) _ _ (by assumption) (by assumption) ?_ (small2_post (by assumption) (by assumption) (by assumption))
  repeat (refine fresh_one ?_ ?_; first | assumption | exact lt_of_all (by assumption) | exact lt_of_all (by assumption) | (refine lt_of_all2 ?_ (by assumption); assumption) | (refine lt_of_all3 ?_ (by assumption); assumption))
  exact fresh_nil
/-- a piece of one statement: the node, what it says for the name unknown and known, whether it makes the name -/
theorem small_ok (w : World) (R : Led) (kind : Nat) (t0 : Tok) (hk : kind < 4) : Ct w 372 [.int (kind : Int) t0] 60 [] R (SmallPost w R) := by
  match kind, hk with
  | 0, _ => exact small_0 w R t0
  | 1, _ => exact small_1 w R t0
  | 2, _ => exact small_2 w R t0
  | 3, _ => exact small_3 w R t0

local macro_rules | `(tactic| walk_at "subscriptTail Name Name ref int") => `(tactic| (k_here; (with_reducible show wpAny _ _ (subscriptTail _ _ (Value.ref _) (Value.int _ _)) _ _ _); k_dflt (refine item_N (by k_asm) (by k_mem) (by omega) (by omega) (by first | assumption | exact rfl) ?_ (by with_unfolding_all rfl) (by intro _; with_unfolding_all rfl))))
/-- right of the first, and of the second behind it -/
noncomputable def rightOf (kb a0 a1 mk b0 b1 : Bool) : Bool := (match kb with | true => a1 | false => a0) && (match kb || mk with | true => b1 | false => b0)
theorem right_ok (w : World) (R : Led) (l1 l2 q1 q2 : Addr) (v1 v2 : Value) (kb a0 a1 mk b0 b1 mk2 : Bool) (n1 n2 n3 n4 : Nat) (tk : Tok) (h1 : (l1, lstO [v1, .ref q1, .bool mk] n1) ∈ R) (h2 : (q1, lstO [.bool a0, .bool a1] n2) ∈ R)
    (h3 : (l2, lstO [v2, .ref q2, .bool mk2] n3) ∈ R) (h4 : (q2, lstO [.bool b0, .bool b1] n4) ∈ R) :
    Ct w 386 [.ref l1, .ref l2, .int (match kb with | true => 1 | false => 0) tk] 20 [] R (fun r M' tl => r = .bool (rightOf kb a0 a1 mk b0 b1) ∧ M' = [] ∧ tl = []) := by
  cases kb
  · cases a0
    · unfold Ct; k_fill; intro dp un gd A₀ base h₀ outer env L m s pp loose mean mg mb Q B F X N T hf hk hd hu hret
      simp only [List.nil_append] at N
      k_dflt (refine' code_def ?k1 ?k2 ?k3 ?k4 ?k5 ?kA ?kF ?kK ?k6 ?k7 ?k8 ?k9 ?kB ?_ ?c2 ?c3 ?c4 ?c5; (case kA => exact rfl); (case kF => assumption); (case kK => assumption); (case k1 => k_asm); (case k2 => k_asm); (case k3 => k_asm); (case k4 => k_asm); (case k5 => k_asm); (case k6 => k_is); (case k7 => k_is); (case k8 => ktr_room); (case k9 => first | exact BindsTo.of_eq rfl | exact binds_K (by k_in) rfl (by k_is) rfl rfl rfl); (case c5 => decide); (case kB => exact locs rfl); (case c2 => exact rfl); (case c3 => exact rfl); (case c4 => exact rfl); k_whole; intro g' L' h' FG' F' N' B' X' T'; (try dsimp only); (try k_fold); (refine frame_name F' ?_); clear F'; intro mm' F' hfr')
      k_steps
      exact hret _ [] [] _ _ (by assumption) (by assumption) (fun _ _ _ h => nomatch h) ⟨rfl, rfl, rfl⟩
    · cases mk
      · unfold Ct; k_fill; intro dp un gd A₀ base h₀ outer env L m s pp loose mean mg mb Q B F X N T hf hk hd hu hret
        simp only [List.nil_append] at N
        k_dflt (refine' code_def ?k1 ?k2 ?k3 ?k4 ?k5 ?kA ?kF ?kK ?k6 ?k7 ?k8 ?k9 ?kB ?_ ?c2 ?c3 ?c4 ?c5; (case kA => exact rfl); (case kF => assumption); (case kK => assumption); (case k1 => k_asm); (case k2 => k_asm); (case k3 => k_asm); (case k4 => k_asm); (case k5 => k_asm); (case k6 => k_is); (case k7 => k_is); (case k8 => ktr_room); (case k9 => first | exact BindsTo.of_eq rfl | exact binds_K (by k_in) rfl (by k_is) rfl rfl rfl); (case c5 => decide); (case kB => exact locs rfl); (case c2 => exact rfl); (case c3 => exact rfl); (case c4 => exact rfl); k_whole; intro g' L' h' FG' F' N' B' X' T'; (try dsimp only); (try k_fold); (refine frame_name F' ?_); clear F'; intro mm' F' hfr')
        k_steps
        exact hret _ [] [] _ _ (by assumption) (by assumption) (fun _ _ _ h => nomatch h) ⟨rfl, rfl, rfl⟩
      · unfold Ct; k_fill; intro dp un gd A₀ base h₀ outer env L m s pp loose mean mg mb Q B F X N T hf hk hd hu hret
        simp only [List.nil_append] at N
        k_dflt (refine' code_def ?k1 ?k2 ?k3 ?k4 ?k5 ?kA ?kF ?kK ?k6 ?k7 ?k8 ?k9 ?kB ?_ ?c2 ?c3 ?c4 ?c5; (case kA => exact rfl); (case kF => assumption); (case kK => assumption); (case k1 => k_asm); (case k2 => k_asm); (case k3 => k_asm); (case k4 => k_asm); (case k5 => k_asm); (case k6 => k_is); (case k7 => k_is); (case k8 => ktr_room); (case k9 => first | exact BindsTo.of_eq rfl | exact binds_K (by k_in) rfl (by k_is) rfl rfl rfl); (case c5 => decide); (case kB => exact locs rfl); (case c2 => exact rfl); (case c3 => exact rfl); (case c4 => exact rfl); k_whole; intro g' L' h' FG' F' N' B' X' T'; (try dsimp only); (try k_fold); (refine frame_name F' ?_); clear F'; intro mm' F' hfr')
        k_steps
        exact hret _ [] [] _ _ (by assumption) (by assumption) (fun _ _ _ h => nomatch h) ⟨rfl, rfl, rfl⟩
  · cases a1
    · unfold Ct; k_fill; intro dp un gd A₀ base h₀ outer env L m s pp loose mean mg mb Q B F X N T hf hk hd hu hret
      simp only [List.nil_append] at N
      k_dflt (refine' code_def ?k1 ?k2 ?k3 ?k4 ?k5 ?kA ?kF ?kK ?k6 ?k7 ?k8 ?k9 ?kB ?_ ?c2 ?c3 ?c4 ?c5; (case kA => exact rfl); (case kF => assumption); (case kK => assumption); (case k1 => k_asm); (case k2 => k_asm); (case k3 => k_asm); (case k4 => k_asm); (case k5 => k_asm); (case k6 => k_is); (case k7 => k_is); (case k8 => ktr_room); (case k9 => first | exact BindsTo.of_eq rfl | exact binds_K (by k_in) rfl (by k_is) rfl rfl rfl); (case c5 => decide); (case kB => exact locs rfl); (case c2 => exact rfl); (case c3 => exact rfl); (case c4 => exact rfl); k_whole; intro g' L' h' FG' F' N' B' X' T'; (try dsimp only); (try k_fold); (refine frame_name F' ?_); clear F'; intro mm' F' hfr')
      k_steps
      exact hret _ [] [] _ _ (by assumption) (by assumption) (fun _ _ _ h => nomatch h) ⟨rfl, rfl, rfl⟩
    · unfold Ct; k_fill; intro dp un gd A₀ base h₀ outer env L m s pp loose mean mg mb Q B F X N T hf hk hd hu hret
      simp only [List.nil_append] at N
      k_dflt (refine' code_def ?k1 ?k2 ?k3 ?k4 ?k5 ?kA ?kF ?kK ?k6 ?k7 ?k8 ?k9 ?kB ?_ ?c2 ?c3 ?c4 ?c5; (case kA => exact rfl); (case kF => assumption); (case kK => assumption); (case k1 => k_asm); (case k2 => k_asm); (case k3 => k_asm); (case k4 => k_asm); (case k5 => k_asm); (case k6 => k_is); (case k7 => k_is); (case k8 => ktr_room); (case k9 => first | exact BindsTo.of_eq rfl | exact binds_K (by k_in) rfl (by k_is) rfl rfl rfl); (case c5 => decide); (case kB => exact locs rfl); (case c2 => exact rfl); (case c3 => exact rfl); (case c4 => exact rfl); k_whole; intro g' L' h' FG' F' N' B' X' T'; (try dsimp only); (try k_fold); (refine frame_name F' ?_); clear F'; intro mm' F' hfr')
      k_steps
      exact hret _ [] [] _ _ (by assumption) (by assumption) (fun _ _ _ h => nomatch h) ⟨rfl, rfl, rfl⟩

noncomputable abbrev rowT (a p l : Addr) (n : Nat) (x : Th) : Th := .node .seq a p [.seq false l n [x]]
/-- the four forms of a choice or a loop -/
noncomputable def Wrap : Nat → Th → Th → Th → Prop
  | 0, t, b, th => ∃ a p r1 r2 r3 n, th = .node .ifk a p [t, rowT r1 r2 r3 n b, .lit .none]
  | 1, t, b, th => ∃ a p r1 r2 r3 n, th = .node .whk a p [t, rowT r1 r2 r3 n b, .lit (.bool false)]
  | 2, t, b, th => ∃ a p r1 r2 r3 n s1 s2 s3 n2, th = .node .ifk a p [t, .node .seq s1 s2 [.seq false s3 n2 []], rowT r1 r2 r3 n b]
  | _, t, b, th => ∃ a p r1 r2 r3 n s1 s2 s3 n2 i1 i2 tk, th = .node .ifk a p [t, rowT r1 r2 r3 n b, rowT s1 s2 s3 n2 (.node .int i1 i2 [.lit (.int 7 tk)])]
inductive NodePost (w : World) (R : Led) (form : Nat) (t b : Th) (r : Value) (M' tl : Led) : Prop
  | ex (h1 : M' = []) (th : _) (h2 : r = th.val) (h3 : ThIn w (tl ++ R) th) (h4 : Wrap form t b th)
theorem NodePost.out {h₀ : Heap} {L : Addr} {m : PySem.Str → Option Value} {R : Led} {W : Led → Prop} {G : Value → Heap → Nat → Prop} {w : World} {R0 : Led} {form : Nat} {t b : Th}
    (k : ∀ th tl h' tk', ThIn w (tl ++ R0) th → Wrap form t b th → Fr h₀ L h' m → News h₀ L h' (tl ++ R) → W tl → G th.val h' tk') :
    ∀ r M' tl h' tk', Fr h₀ L h' m → News h₀ L h' (M' ++ (tl ++ R)) → W tl → NodePost w R0 form t b r M' tl → G r h' tk' := by
  rintro _ _ tl h' tk' F N hw ⟨rfl, th, rfl, h1, h2⟩
  exact k th tl h' tk' h1 h2 F N hw
theorem thin_row {w : World} {R : Led} {a p l d : Addr} {o : Obj} {n n2 : Nat} {x : Th} (h1 : (a, instObj 147 d) ∈ R) (h2 : (d, o) ∈ R) (h3 : NodeD w .seq p o) (h4 : (p, tupO [.ref l] n2) ∈ R) (h5 : (l, lstO [x.val] n) ∈ R) (hx : ThIn w R x) : ThIn w R (rowT a p l n x) :=
  .node h1 h2 h3 h4 (Nat.le_of_ble_eq_true rfl) fun i hi => by
    rw [List.mem_singleton.mp hi]
    exact .seq h5 (Nat.le_of_ble_eq_true rfl) fun i hi => by rw [List.mem_singleton.mp hi]; exact hx
theorem thin_none {w : World} {R : Led} {a p l d : Addr} {o : Obj} {n n2 : Nat} (h1 : (a, instObj 147 d) ∈ R) (h2 : (d, o) ∈ R) (h3 : NodeD w .seq p o) (h4 : (p, tupO [.ref l] n2) ∈ R) (h5 : (l, lstO [] n) ∈ R) : ThIn w R (.node .seq a p [.seq false l n []]) :=
  .node h1 h2 h3 h4 (Nat.le_of_ble_eq_true rfl) fun i hi => by
    rw [List.mem_singleton.mp hi]
    exact .seq h5 (Nat.le_of_ble_eq_true rfl) fun i hi => nomatch hi
theorem thin_three {w : World} {R : Led} {k : Kd} {a p d : Addr} {o : Obj} {n2 : Nat} {x y z : Th} (h1 : (a, instObj 147 d) ∈ R) (h2 : (d, o) ∈ R) (h3 : NodeD w k p o) (h4 : (p, tupO [x.val, y.val, z.val] n2) ∈ R) (hx : ThIn w R x) (hy : ThIn w R y) (hz : ThIn w R z) : ThIn w R (.node k a p [x, y, z]) :=
  .node h1 h2 h3 h4 (Nat.le_of_ble_eq_true rfl) fun i hi => by
    simp only [List.mem_cons, List.not_mem_nil, or_false] at hi
    rcases hi with rfl | rfl | rfl <;> assumption
theorem node0_post {w : World} {R : Led} {t b : Th} {x d D rx rd rD rl : Addr} {o ro : Obj} (h : NodeD w .ifk D o) (h1 : NodeD w .seq rD ro) (ht : ThIn w R t) (hb : ThIn w R b) :
    NodePost w R 0 t b (.ref x) [] [(x, instObj 147 d), (d, o), (D, tupO [t.val, .ref rx, .none] 0), (rx, instObj 147 rd), (rd, ro), (rD, tupO [.ref rl] 0), (rl, lstO [b.val] 0)] := by
  have ht' := ht.mono (R' := [(x, instObj 147 d), (d, o), (D, tupO [t.val, .ref rx, .none] 0), (rx, instObj 147 rd), (rd, ro), (rD, tupO [.ref rl] 0), (rl, lstO [b.val] 0)] ++ R) fun q hq => List.mem_append_right _ hq
  have hb' := hb.mono (R' := [(x, instObj 147 d), (d, o), (D, tupO [t.val, .ref rx, .none] 0), (rx, instObj 147 rd), (rd, ro), (rD, tupO [.ref rl] 0), (rl, lstO [b.val] 0)] ++ R) fun q hq => List.mem_append_right _ hq
  exact ⟨rfl, _, rfl, thin_three (.head _) (.tail _ (.head _)) h (.tail _ (.tail _ (.head _))) ht' (thin_row (.tail _ (.tail _ (.tail _ (.head _)))) (.tail _ (.tail _ (.tail _ (.tail _ (.head _))))) h1 (.tail _ (.tail _ (.tail _ (.tail _ (.tail _ (.head _)))))) (.tail _ (.tail _ (.tail _ (.tail _ (.tail _ (.tail _ (.head _))))))) hb') (.lit (v := .none) trivial), ⟨x, D, rx, rD, rl, 0, rfl⟩⟩
theorem node_0 (w : World) (R R0 : Led) (t b : Th) (tk : Tok) (ht : ThIn w R0 t) (hb : ThIn w R0 b) : Ct w 379 [.int ((0 : Nat) : Int) tk, t.val, b.val] 60 [] R (NodePost w R0 0 t b) := by
  unfold Ct; k_fill; intro dp un gd A₀ base h₀ outer env L m s pp loose mean mg mb Q B F X N T hf hk hd hu hret
  simp only [List.nil_append] at N
  k_dflt (refine' code_def ?k1 ?k2 ?k3 ?k4 ?k5 ?kA ?kF ?kK ?k6 ?k7 ?k8 ?k9 ?kB ?_ ?c2 ?c3 ?c4 ?c5; (case kA => exact rfl); (case kF => assumption); (case kK => assumption); (case k1 => k_asm); (case k2 => k_asm); (case k3 => k_asm); (case k4 => k_asm); (case k5 => k_asm); (case k6 => k_is); (case k7 => k_is); (case k8 => ktr_room); (case k9 => first | exact BindsTo.of_eq rfl | exact binds_K (by k_in) rfl (by k_is) rfl rfl rfl); (case c5 => decide); (case kB => exact locs rfl); (case c2 => exact rfl); (case c3 => exact rfl); (case c4 => exact rfl); k_whole; intro g' L' h' FG' F' N' B' X' T'; (try dsimp only); (try k_fold); (refine frame_name F' ?_); clear F'; intro mm' F' hfr')
  k_steps
  repeat (rename _ ∧ _ => hq; obtain ⟨_, _⟩ := hq)
  refine hret _ [] (_ :: _ :: _ :: _ :: _ :: _ :: _ :: []) _ _ (by assumption) (by assumption) ?_ (node0_post (by assumption) (by assumption) ht hb)
  repeat (refine fresh_one ?_ ?_; first | assumption | exact lt_of_all (by assumption) | (refine lt_of_all2 ?_ (by assumption); assumption) | (refine lt_of_all3 ?_ (by assumption); assumption))
  exact fresh_nil
theorem node1_post {w : World} {R : Led} {t b : Th} {x d D rx rd rD rl : Addr} {o ro : Obj} (h : NodeD w .whk D o) (h1 : NodeD w .seq rD ro) (ht : ThIn w R t) (hb : ThIn w R b) :
    NodePost w R 1 t b (.ref x) [] [(x, instObj 147 d), (d, o), (D, tupO [t.val, .ref rx, .bool false] 0), (rx, instObj 147 rd), (rd, ro), (rD, tupO [.ref rl] 0), (rl, lstO [b.val] 0)] := by
  have ht' := ht.mono (R' := [(x, instObj 147 d), (d, o), (D, tupO [t.val, .ref rx, .bool false] 0), (rx, instObj 147 rd), (rd, ro), (rD, tupO [.ref rl] 0), (rl, lstO [b.val] 0)] ++ R) fun q hq => List.mem_append_right _ hq
  have hb' := hb.mono (R' := [(x, instObj 147 d), (d, o), (D, tupO [t.val, .ref rx, .bool false] 0), (rx, instObj 147 rd), (rd, ro), (rD, tupO [.ref rl] 0), (rl, lstO [b.val] 0)] ++ R) fun q hq => List.mem_append_right _ hq
  exact ⟨rfl, _, rfl, thin_three (.head _) (.tail _ (.head _)) h (.tail _ (.tail _ (.head _))) ht' (thin_row (.tail _ (.tail _ (.tail _ (.head _)))) (.tail _ (.tail _ (.tail _ (.tail _ (.head _))))) h1 (.tail _ (.tail _ (.tail _ (.tail _ (.tail _ (.head _)))))) (.tail _ (.tail _ (.tail _ (.tail _ (.tail _ (.tail _ (.head _))))))) hb') (.lit (v := .bool false) trivial), ⟨x, D, rx, rD, rl, 0, rfl⟩⟩
theorem node_1 (w : World) (R R0 : Led) (t b : Th) (tk : Tok) (ht : ThIn w R0 t) (hb : ThIn w R0 b) : Ct w 379 [.int ((1 : Nat) : Int) tk, t.val, b.val] 60 [] R (NodePost w R0 1 t b) := by
  unfold Ct; k_fill; intro dp un gd A₀ base h₀ outer env L m s pp loose mean mg mb Q B F X N T hf hk hd hu hret
  simp only [List.nil_append] at N
  k_dflt (refine' code_def ?k1 ?k2 ?k3 ?k4 ?k5 ?kA ?kF ?kK ?k6 ?k7 ?k8 ?k9 ?kB ?_ ?c2 ?c3 ?c4 ?c5; (case kA => exact rfl); (case kF => assumption); (case kK => assumption); (case k1 => k_asm); (case k2 => k_asm); (case k3 => k_asm); (case k4 => k_asm); (case k5 => k_asm); (case k6 => k_is); (case k7 => k_is); (case k8 => ktr_room); (case k9 => first | exact BindsTo.of_eq rfl | exact binds_K (by k_in) rfl (by k_is) rfl rfl rfl); (case c5 => decide); (case kB => exact locs rfl); (case c2 => exact rfl); (case c3 => exact rfl); (case c4 => exact rfl); k_whole; intro g' L' h' FG' F' N' B' X' T'; (try dsimp only); (try k_fold); (refine frame_name F' ?_); clear F'; intro mm' F' hfr')
  k_steps
  repeat (rename _ ∧ _ => hq; obtain ⟨_, _⟩ := hq)
  refine hret _ [] (_ :: _ :: _ :: _ :: _ :: _ :: _ :: []) _ _ (by assumption) (by assumption) ?_ (node1_post (by assumption) (by assumption) ht hb)
  repeat (refine fresh_one ?_ ?_; first | assumption | exact lt_of_all (by assumption) | (refine lt_of_all2 ?_ (by assumption); assumption) | (refine lt_of_all3 ?_ (by assumption); assumption))
  exact fresh_nil
theorem node2_post {w : World} {R : Led} {t b : Th} {x d D sx sd sD sl rx rd rD rl : Addr} {o ro so : Obj} (h : NodeD w .ifk D o) (h1 : NodeD w .seq rD ro) (h2 : NodeD w .seq sD so) (ht : ThIn w R t) (hb : ThIn w R b) :
    NodePost w R 2 t b (.ref x) [] [(x, instObj 147 d), (d, o), (D, tupO [t.val, .ref sx, .ref rx] 0), (sx, instObj 147 sd), (sd, so), (sD, tupO [.ref sl] 0), (sl, lstO [] 0), (rx, instObj 147 rd), (rd, ro), (rD, tupO [.ref rl] 0), (rl, lstO [b.val] 0)] := by
  have ht' := ht.mono (R' := [(x, instObj 147 d), (d, o), (D, tupO [t.val, .ref sx, .ref rx] 0), (sx, instObj 147 sd), (sd, so), (sD, tupO [.ref sl] 0), (sl, lstO [] 0), (rx, instObj 147 rd), (rd, ro), (rD, tupO [.ref rl] 0), (rl, lstO [b.val] 0)] ++ R) fun q hq => List.mem_append_right _ hq
  have hb' := hb.mono (R' := [(x, instObj 147 d), (d, o), (D, tupO [t.val, .ref sx, .ref rx] 0), (sx, instObj 147 sd), (sd, so), (sD, tupO [.ref sl] 0), (sl, lstO [] 0), (rx, instObj 147 rd), (rd, ro), (rD, tupO [.ref rl] 0), (rl, lstO [b.val] 0)] ++ R) fun q hq => List.mem_append_right _ hq
  exact ⟨rfl, _, rfl, thin_three (.head _) (.tail _ (.head _)) h (.tail _ (.tail _ (.head _))) ht' (thin_none (.tail _ (.tail _ (.tail _ (.head _)))) (.tail _ (.tail _ (.tail _ (.tail _ (.head _))))) h2 (.tail _ (.tail _ (.tail _ (.tail _ (.tail _ (.head _)))))) (.tail _ (.tail _ (.tail _ (.tail _ (.tail _ (.tail _ (.head _)))))))) (thin_row (.tail _ (.tail _ (.tail _ (.tail _ (.tail _ (.tail _ (.tail _ (.head _)))))))) (.tail _ (.tail _ (.tail _ (.tail _ (.tail _ (.tail _ (.tail _ (.tail _ (.head _))))))))) h1 (.tail _ (.tail _ (.tail _ (.tail _ (.tail _ (.tail _ (.tail _ (.tail _ (.tail _ (.head _)))))))))) (.tail _ (.tail _ (.tail _ (.tail _ (.tail _ (.tail _ (.tail _ (.tail _ (.tail _ (.tail _ (.head _))))))))))) hb'), ⟨x, D, rx, rD, rl, 0, sx, sD, sl, 0, rfl⟩⟩
theorem node_2 (w : World) (R R0 : Led) (t b : Th) (tk : Tok) (ht : ThIn w R0 t) (hb : ThIn w R0 b) : Ct w 379 [.int ((2 : Nat) : Int) tk, t.val, b.val] 60 [] R (NodePost w R0 2 t b) := by
  unfold Ct; k_fill; intro dp un gd A₀ base h₀ outer env L m s pp loose mean mg mb Q B F X N T hf hk hd hu hret
  simp only [List.nil_append] at N
  k_dflt (refine' code_def ?k1 ?k2 ?k3 ?k4 ?k5 ?kA ?kF ?kK ?k6 ?k7 ?k8 ?k9 ?kB ?_ ?c2 ?c3 ?c4 ?c5; (case kA => exact rfl); (case kF => assumption); (case kK => assumption); (case k1 => k_asm); (case k2 => k_asm); (case k3 => k_asm); (case k4 => k_asm); (case k5 => k_asm); (case k6 => k_is); (case k7 => k_is); (case k8 => ktr_room); (case k9 => first | exact BindsTo.of_eq rfl | exact binds_K (by k_in) rfl (by k_is) rfl rfl rfl); (case c5 => decide); (case kB => exact locs rfl); (case c2 => exact rfl); (case c3 => exact rfl); (case c4 => exact rfl); k_whole; intro g' L' h' FG' F' N' B' X' T'; (try dsimp only); (try k_fold); (refine frame_name F' ?_); clear F'; intro mm' F' hfr')
  k_steps
  repeat (rename _ ∧ _ => hq; obtain ⟨_, _⟩ := hq)
  refine hret _ [] (_ :: _ :: _ :: _ :: _ :: _ :: _ :: _ :: _ :: _ :: _ :: []) _ _ (by assumption) (by assumption) ?_ (node2_post (by assumption) (by assumption) (by assumption) ht hb)
  repeat (refine fresh_one ?_ ?_; first | assumption | exact lt_of_all (by assumption) | (refine lt_of_all2 ?_ (by assumption); assumption) | (refine lt_of_all3 ?_ (by assumption); assumption))
  exact fresh_nil
theorem thin_int {w : World} {R : Led} {a p d : Addr} {o : Obj} {n2 : Nat} {t : Tok} (h1 : (a, instObj 147 d) ∈ R) (h2 : (d, o) ∈ R) (h3 : NodeD w .int p o) (h4 : (p, tupO [.int 7 t] n2) ∈ R) : ThIn w R (.node .int a p [.lit (.int 7 t)]) :=
  .node h1 h2 h3 h4 (Nat.le_of_ble_eq_true rfl) fun i hi => by rw [List.mem_singleton.mp hi]; exact .lit trivial
theorem node3_post {w : World} {R : Led} {t b : Th} {x d D sx sd sD sl ix id' iD rx rd rD rl : Addr} {o ro so io : Obj} {it : Tok} (h : NodeD w .ifk D o) (h1 : NodeD w .seq rD ro) (h2 : NodeD w .seq sD so) (h3 : NodeD w .int iD io) (ht : ThIn w R t) (hb : ThIn w R b) :
    NodePost w R 3 t b (.ref x) [] [(x, instObj 147 d), (d, o), (D, tupO [t.val, .ref rx, .ref sx] 0), (sx, instObj 147 sd), (sd, so), (sD, tupO [.ref sl] 0), (sl, lstO [.ref ix] 0), (ix, instObj 147 id'), (id', io), (iD, tupO [.int 7 it] 0), (rx, instObj 147 rd), (rd, ro), (rD, tupO [.ref rl] 0), (rl, lstO [b.val] 0)] := by
  have ht' := ht.mono (R' := [(x, instObj 147 d), (d, o), (D, tupO [t.val, .ref rx, .ref sx] 0), (sx, instObj 147 sd), (sd, so), (sD, tupO [.ref sl] 0), (sl, lstO [.ref ix] 0), (ix, instObj 147 id'), (id', io), (iD, tupO [.int 7 it] 0), (rx, instObj 147 rd), (rd, ro), (rD, tupO [.ref rl] 0), (rl, lstO [b.val] 0)] ++ R) fun q hq => List.mem_append_right _ hq
  have hb' := hb.mono (R' := [(x, instObj 147 d), (d, o), (D, tupO [t.val, .ref rx, .ref sx] 0), (sx, instObj 147 sd), (sd, so), (sD, tupO [.ref sl] 0), (sl, lstO [.ref ix] 0), (ix, instObj 147 id'), (id', io), (iD, tupO [.int 7 it] 0), (rx, instObj 147 rd), (rd, ro), (rD, tupO [.ref rl] 0), (rl, lstO [b.val] 0)] ++ R) fun q hq => List.mem_append_right _ hq
  exact ⟨rfl, _, rfl, thin_three (.head _) (.tail _ (.head _)) h (.tail _ (.tail _ (.head _))) ht' (thin_row (.tail _ (.tail _ (.tail _ (.tail _ (.tail _ (.tail _ (.tail _ (.tail _ (.tail _ (.tail _ (.head _))))))))))) (.tail _ (.tail _ (.tail _ (.tail _ (.tail _ (.tail _ (.tail _ (.tail _ (.tail _ (.tail _ (.tail _ (.head _)))))))))))) h1 (.tail _ (.tail _ (.tail _ (.tail _ (.tail _ (.tail _ (.tail _ (.tail _ (.tail _ (.tail _ (.tail _ (.tail _ (.head _))))))))))))) (.tail _ (.tail _ (.tail _ (.tail _ (.tail _ (.tail _ (.tail _ (.tail _ (.tail _ (.tail _ (.tail _ (.tail _ (.tail _ (.head _)))))))))))))) hb') (thin_row (.tail _ (.tail _ (.tail _ (.head _)))) (.tail _ (.tail _ (.tail _ (.tail _ (.head _))))) h2 (.tail _ (.tail _ (.tail _ (.tail _ (.tail _ (.head _)))))) (.tail _ (.tail _ (.tail _ (.tail _ (.tail _ (.tail _ (.head _))))))) (thin_int (.tail _ (.tail _ (.tail _ (.tail _ (.tail _ (.tail _ (.tail _ (.head _)))))))) (.tail _ (.tail _ (.tail _ (.tail _ (.tail _ (.tail _ (.tail _ (.tail _ (.head _))))))))) h3 (.tail _ (.tail _ (.tail _ (.tail _ (.tail _ (.tail _ (.tail _ (.tail _ (.tail _ (.head _)))))))))))), ⟨x, D, rx, rD, rl, 0, sx, sD, sl, 0, ix, iD, it, rfl⟩⟩
theorem node_3 (w : World) (R R0 : Led) (t b : Th) (tk : Tok) (ht : ThIn w R0 t) (hb : ThIn w R0 b) : Ct w 379 [.int ((3 : Nat) : Int) tk, t.val, b.val] 60 [] R (NodePost w R0 3 t b) := by
  unfold Ct; k_fill; intro dp un gd A₀ base h₀ outer env L m s pp loose mean mg mb Q B F X N T hf hk hd hu hret
  simp only [List.nil_append] at N
  k_dflt (refine' code_def ?k1 ?k2 ?k3 ?k4 ?k5 ?kA ?kF ?kK ?k6 ?k7 ?k8 ?k9 ?kB ?_ ?c2 ?c3 ?c4 ?c5; (case kA => exact rfl); (case kF => assumption); (case kK => assumption); (case k1 => k_asm); (case k2 => k_asm); (case k3 => k_asm); (case k4 => k_asm); (case k5 => k_asm); (case k6 => k_is); (case k7 => k_is); (case k8 => ktr_room); (case k9 => first | exact BindsTo.of_eq rfl | exact binds_K (by k_in) rfl (by k_is) rfl rfl rfl); (case c5 => decide); (case kB => exact locs rfl); (case c2 => exact rfl); (case c3 => exact rfl); (case c4 => exact rfl); k_whole; intro g' L' h' FG' F' N' B' X' T'; (try dsimp only); (try k_fold); (refine frame_name F' ?_); clear F'; intro mm' F' hfr')
  k_steps
  repeat (rename _ ∧ _ => hq; obtain ⟨_, _⟩ := hq)
  refine hret _ [] (_ :: _ :: _ :: _ :: _ :: _ :: _ :: _ :: _ :: _ :: _ :: _ :: _ :: _ :: []) _ _ (by assumption) (by assumption) ?_ (node3_post (by assumption) (by assumption) (by assumption) (by assumption) ht hb)
  repeat (refine fresh_one ?_ ?_; first | assumption | exact lt_of_all (by assumption) | (refine lt_of_all2 ?_ (by assumption); assumption) | (refine lt_of_all3 ?_ (by assumption); assumption))
  exact fresh_nil
theorem node_ok (w : World) (R R0 : Led) (form : Nat) (t b : Th) (tk : Tok) (hf : form < 4) (ht : ThIn w R0 t) (hb : ThIn w R0 b) : Ct w 379 [.int (form : Int) tk, t.val, b.val] 60 [] R (NodePost w R0 form t b) := by
  match form, hf with
  | 0, _ => exact node_0 w R R0 t b tk ht hb
  | 1, _ => exact node_1 w R R0 t b tk ht hb
  | 2, _ => exact node_2 w R R0 t b tk ht hb
  | 3, _ => exact node_3 w R R0 t b tk ht hb

theorem spans_le {is : List Th} (h : ∀ i ∈ is, i.span ≤ i.sz) : Th.spans is ≤ Th.szs is := by
  induction is with
  | nil => exact Nat.le_refl _
  | cons i is ih =>
    have h1 := h i (.head _)
    have h2 := ih fun j hj => h j (.tail _ hj)
    exact Nat.add_le_add h1 h2
theorem span_le {th : Th} (h : ThWf th) : th.span ≤ th.sz := by
  induction h with
  | lit => exact Nat.le_refl _
  | str => exact Nat.le_refl _
  | seq _ ih => exact spans_le ih
  | name hk => rcases hk with rfl | rfl | rfl <;> exact Nat.le_add_right 1 _
  | plain hk _ ih =>
    have := spans_le ih
    rw [span_plain hk]
    exact Nat.add_le_add_left this 1
  | @test k a p t y c hk _ _ _ _ _ iht ihy ihc =>
    have hsz : (Th.node k a p [t, y, c]).sz = 1 + (t.sz + (y.sz + (c.sz + 0))) := rfl
    have hb : (match bodySel k y c with | none => Th.spans [t, y, c] | some false => t.sz + y.sz | some true => t.sz + c.sz) ≤ t.sz + (y.sz + c.sz) := by
      cases bodySel k y c with
      | none => exact Nat.add_le_add iht (Nat.add_le_add ihy ihc)
      | some s =>
        cases s with
        | false => exact Nat.add_le_add_left (Nat.le_add_right _ _) _
        | true => exact Nat.add_le_add_left (Nat.le_add_left _ _) _
    rw [span_test hk]
    exact Nat.add_le_add_left hb 1
theorem Cov.mono {T T' : Nat → Option Th} (hT : ∀ q nd, T q = some nd → T' q = some nd) {p : Nat} {th : Th} (h : Cov T p th) : Cov T' p th := by
  induction h with
  | lit => exact .lit
  | str => exact .str
  | seq _ ih => exact .seq ih
  | name h => exact .name h
  | plain h _ ih => exact .plain h ih
  | bare h h2 _ ih => exact .bare h h2 ih
  | body h h2 h3 _ _ h4 ih1 ih2 => exact .body h h2 (hT _ _ h3) ih1 ih2 h4
noncomputable def CovAll (th : Th) : Prop := ∀ p, ∃ T : Nat → Option Th, Cov T p th ∧ ∀ q nd, T q = some nd → p < q ∧ q ≤ p + th.sz ∧ ThWf nd
theorem cov_row {T : Nat → Option Th} {p : Nat} {a q l : Addr} {n : Nat} {b : Th} (h : Cov T (p + 1) b) : Cov T p (rowT a q l n b) :=
  .plain (.inr (.inr rfl)) fun i th hi => by
    rcases i with _ | i
    · cases hi
      refine .seq fun i th hi => ?_
      rcases i with _ | i
      · cases hi; exact h
      · simp at hi
    · simp at hi
theorem row_run {a q l : Addr} {n : Nat} {b : Th} : (rowT a q l n b).run = b.run := by
  funext kb
  show ((Th.runs [b] kb).join (Th.runs [])) = _
  show (((b.run kb).join (Th.runs [])).join (Th.runs [])) = _
  simp [Rn.join, runs_nil]
theorem row_sz {a q l : Addr} {n : Nat} {b : Th} : (rowT a q l n b).sz = 1 + b.sz := by
  rfl
theorem row_ht {a q l : Addr} {n : Nat} {b : Th} : (rowT a q l n b).ht = 7 + b.ht := by
  show 6 + max (1 + max b.ht 0) 0 = _
  rw [Nat.max_zero, Nat.max_zero]
  exact (Nat.add_assoc 6 1 b.ht).symm
theorem row_isrow {a q l : Addr} {n : Nat} {b : Th} : IsRow (rowT a q l n b) := ⟨a, q, l, n, [b], rfl⟩
theorem row_wf {a q l : Addr} {n : Nat} {b : Th} (h : ThWf b) : ThWf (rowT a q l n b) :=
  .plain (.inr (.inr rfl)) fun i hi => by
    rw [List.mem_singleton.mp hi]
    exact .seq fun i hi => by rw [List.mem_singleton.mp hi]; exact h

structure Fn (f : Bool → Rn) (r0 r1 mk : Bool) : Prop where
  right : ∀ b, (f b).right = match b with | true => r1 | false => r0
  known : ∀ b, (f b).known = (b || mk)
theorem join_right {f g : Bool → Rn} {t0 t1 tmk b0 b1 bmk : Bool} (hf : Fn f t0 t1 tmk) (hg : Fn g b0 b1 bmk) (kb : Bool) : ((f kb).join g).right = rightOf kb t0 t1 tmk b0 b1 := by
  simp only [Rn.join, rightOf, hf.right, hf.known, hg.right] <;> rfl
theorem join_known {f g : Bool → Rn} {t0 t1 tmk b0 b1 bmk : Bool} (hf : Fn f t0 t1 tmk) (hg : Fn g b0 b1 bmk) (kb : Bool) : ((f kb).join g).known = (kb || (tmk || bmk)) := by
  simp only [Rn.join, hf.known, hg.known, Bool.or_assoc]
/-- whether the turned order is taken -/
noncomputable def lateB (kb t0 t1 tmk b0 b1 bmk : Bool) : Bool := !(rightOf kb t0 t1 tmk b0 b1) && rightOf kb b0 b1 bmk t0 t1
theorem pick_sem {f g : Bool → Rn} {t0 t1 tmk b0 b1 bmk : Bool} (a : Addr) (n : Nat) (hf : Fn f t0 t1 tmk) (hg : Fn g b0 b1 bmk) (kb : Bool) :
    Rn.pick a n kb ((f kb).join g) ((g kb).join f) = match lateB kb t0 t1 tmk b0 b1 bmk with | true => ⟨true, a :: ((g kb).join f).late, ((g kb).join f).known⟩ | false => (f kb).join g := by
  have he := join_right hf hg kb
  have hu := join_right hg hf kb
  unfold Rn.pick lateB
  rw [he, hu]
  cases kb with
  | false =>
    simp only [Bool.false_and, Bool.not_false, Bool.and_true]
    cases rightOf false t0 t1 tmk b0 b1 <;> cases rightOf false b0 b1 bmk t0 t1 <;> rfl
  | true =>
    have h : rightOf true t0 t1 tmk b0 b1 = rightOf true b0 b1 bmk t0 t1 := by simp only [rightOf, Bool.true_or, Bool.and_comm]
    rw [h]
    cases rightOf true b0 b1 bmk t0 t1 with
    | true => rfl
    | false => cases decide (0 < n) <;> rfl

theorem pcsem_fn {th : Th} {r0 r1 mk : Bool} (h : PcSem th r0 r1 mk) : Fn th.run r0 r1 mk := ⟨h.right, h.known⟩
theorem none_run {a q l : Addr} {n : Nat} : (Th.node .seq a q [.seq false l n []]).run = fun b => ⟨true, [], b⟩ := by
  funext kb
  rfl
theorem wrap_run {form : Nat} {t b th : Th} {a : Addr} {t0 t1 tmk b0 b1 bmk : Bool} (hw : Wrap form t b th) (ha : th.val = .ref a) (ht : Fn t.run t0 t1 tmk) (hb : Fn b.run b0 b1 bmk) (kb : Bool) :
    th.run kb = match decide (form < 3) && lateB kb t0 t1 tmk b0 b1 bmk with | true => ⟨true, a :: ((b.run kb).join t.run).late, ((b.run kb).join t.run).known⟩ | false => (t.run kb).join b.run := by
  match form, hw with
  | 0, hw =>
    obtain ⟨a', p, r1, r2, r3, n, rfl⟩ := hw
    cases ha
    show Rn.pick a (Th.openss [t, rowT r1 r2 r3 n b, .lit .none]) kb ((t.run kb).join (rowT r1 r2 r3 n b).run) (((rowT r1 r2 r3 n b).run kb).join t.run) = _
    rw [row_run, pick_sem a _ ht hb kb]
    rfl
  | 1, hw =>
    obtain ⟨a', p, r1, r2, r3, n, rfl⟩ := hw
    cases ha
    show Rn.pick a (Th.openss [t, rowT r1 r2 r3 n b, .lit (.bool false)]) kb ((t.run kb).join (rowT r1 r2 r3 n b).run) (((rowT r1 r2 r3 n b).run kb).join t.run) = _
    rw [row_run, pick_sem a _ ht hb kb]
    rfl
  | 2, hw =>
    obtain ⟨a', p, r1, r2, r3, n, s1, s2, s3, n2, rfl⟩ := hw
    cases ha
    show Rn.pick a (Th.openss [t, .node .seq s1 s2 [.seq false s3 n2 []], rowT r1 r2 r3 n b]) kb ((t.run kb).join (rowT r1 r2 r3 n b).run) (((rowT r1 r2 r3 n b).run kb).join t.run) = _
    rw [row_run, pick_sem a _ ht hb kb]
    rfl
  | m + 3, hw =>
    obtain ⟨a', p, r1, r2, r3, n, s1, s2, s3, n2, i1, i2, tk, rfl⟩ := hw
    cases ha
    have h3 : decide (m + 3 < 3) = false := decide_eq_false (by omega)
    rw [h3]
    show (t.run kb).join (Th.runs [rowT r1 r2 r3 n b, rowT s1 s2 s3 n2 (.node .int i1 i2 [.lit (.int 7 tk)])]) = (t.run kb).join b.run
    congr 1
    funext kb
    show ((rowT r1 r2 r3 n b).run kb).join (Th.runs [rowT s1 s2 s3 n2 (.node .int i1 i2 [.lit (.int 7 tk)])]) = _
    rw [row_run]
    have : Th.runs [rowT s1 s2 s3 n2 (.node .int i1 i2 [.lit (.int 7 tk)])] = fun b => ⟨true, [], b⟩ := by
      funext kb
      rfl
    rw [this, join_nil]
theorem wrap_wf {form : Nat} {t b th : Th} (hw : Wrap form t b th) (ht : ThWf t) (hb : ThWf b) : ThWf th := by
  match form, hw with
  | 0, hw =>
    obtain ⟨a', p, r1, r2, r3, n, rfl⟩ := hw
    exact .test (.inl rfl) ht (row_wf hb) row_isrow .lit (.inl rfl)
  | 1, hw =>
    obtain ⟨a', p, r1, r2, r3, n, rfl⟩ := hw
    exact .test (.inr rfl) ht (row_wf hb) row_isrow .lit (.inr (.inl ⟨rfl, false, rfl⟩))
  | 2, hw =>
    obtain ⟨a', p, r1, r2, r3, n, s1, s2, s3, n2, rfl⟩ := hw
    refine .test (.inl rfl) ht (.plain (.inr (.inr rfl)) fun i hi => ?_) ⟨_, _, _, _, _, rfl⟩ (row_wf hb) (.inr (.inr ⟨rfl, row_isrow⟩))
    rw [List.mem_singleton.mp hi]
    exact .seq fun i hi => nomatch hi
  | m + 3, hw =>
    obtain ⟨a', p, r1, r2, r3, n, s1, s2, s3, n2, i1, i2, tk, rfl⟩ := hw
    exact .test (.inl rfl) ht (row_wf hb) row_isrow (row_wf sm_int.1.wf) (.inr (.inr ⟨rfl, row_isrow⟩))
theorem wrap_node {form : Nat} {t b th : Th} (hw : Wrap form t b th) : ∃ k a p is, th = .node k a p is := by
  match form, hw with
  | 0, hw => obtain ⟨a', p, r1, r2, r3, n, rfl⟩ := hw; exact ⟨_, _, _, _, rfl⟩
  | 1, hw => obtain ⟨a', p, r1, r2, r3, n, rfl⟩ := hw; exact ⟨_, _, _, _, rfl⟩
  | 2, hw => obtain ⟨a', p, r1, r2, r3, n, s1, s2, s3, n2, rfl⟩ := hw; exact ⟨_, _, _, _, rfl⟩
  | m + 3, hw => obtain ⟨a', p, r1, r2, r3, n, s1, s2, s3, n2, i1, i2, tk, rfl⟩ := hw; exact ⟨_, _, _, _, rfl⟩
theorem int_sz {i1 i2 : Addr} {tk : Tok} : (Th.node .int i1 i2 [.lit (.int 7 tk)]).sz = 1 := rfl
theorem int_ht {i1 i2 : Addr} {tk : Tok} : (Th.node .int i1 i2 [.lit (.int 7 tk)]).ht = 7 := rfl
theorem wsz {t b e : Nat} (he : e ≤ 2) : 2 + t + b ≤ 1 + (t + (1 + b + e)) ∧ 1 + (t + (1 + b + e)) ≤ t + b + 4 := by
  have e0 : 1 + (t + (1 + b + e)) = 2 + (t + b) + e := by
    rw [Nat.add_assoc 1 b e, Nat.add_left_comm t 1, ← Nat.add_assoc 1 1, ← Nat.add_assoc t b e, ← Nat.add_assoc (1 + 1)]
  rw [e0, Nat.add_assoc 2 t b]
  exact ⟨Nat.le_add_right _ _, Nat.le_trans (Nat.le_of_eq (by rw [Nat.add_comm 2, Nat.add_assoc])) (Nat.add_le_add_left (Nat.add_le_add_left he 2) _)⟩
theorem wrap_sz {form : Nat} {t b th : Th} (hw : Wrap form t b th) : 2 + t.sz + b.sz ≤ th.sz ∧ th.sz ≤ t.sz + b.sz + 4 := by
  match form, hw with
  | 0, hw =>
    obtain ⟨a', p, r1, r2, r3, n, rfl⟩ := hw
    have h : (Th.node .ifk a' p [t, rowT r1 r2 r3 n b, .lit .none]).sz = 1 + (t.sz + ((rowT r1 r2 r3 n b).sz + (0 + 0))) := rfl
    rw [h, row_sz]; exact wsz (e := 0) (by decide)
  | 1, hw =>
    obtain ⟨a', p, r1, r2, r3, n, rfl⟩ := hw
    have h : (Th.node .whk a' p [t, rowT r1 r2 r3 n b, .lit (.bool false)]).sz = 1 + (t.sz + ((rowT r1 r2 r3 n b).sz + (0 + 0))) := rfl
    rw [h, row_sz]; exact wsz (e := 0) (by decide)
  | 2, hw =>
    obtain ⟨a', p, r1, r2, r3, n, s1, s2, s3, n2, rfl⟩ := hw
    have h : (Th.node .ifk a' p [t, .node .seq s1 s2 [.seq false s3 n2 []], rowT r1 r2 r3 n b]).sz = 1 + (t.sz + ((1 + (0 + 0)) + ((rowT r1 r2 r3 n b).sz + 0))) := rfl
    rw [h, row_sz, Nat.add_comm (1 + (0 + 0)) (1 + b.sz + 0)]; exact wsz (e := 1) (by decide)
  | m + 3, hw =>
    obtain ⟨a', p, r1, r2, r3, n, s1, s2, s3, n2, i1, i2, tk, rfl⟩ := hw
    have h : (Th.node .ifk a' p [t, rowT r1 r2 r3 n b, rowT s1 s2 s3 n2 (.node .int i1 i2 [.lit (.int 7 tk)])]).sz = 1 + (t.sz + ((rowT r1 r2 r3 n b).sz + ((rowT s1 s2 s3 n2 (.node .int i1 i2 [.lit (.int 7 tk)])).sz + 0))) := rfl
    rw [h, row_sz, row_sz, int_sz]; exact wsz (e := 2) (by decide)
theorem max3 {a b c m : Nat} (h1 : a ≤ m) (h2 : b ≤ m) (h3 : c ≤ m) : max a (max b c) ≤ m := Nat.max_le.mpr ⟨h1, Nat.max_le.mpr ⟨h2, h3⟩⟩
theorem wrap_h {a b c H : Nat} (h1 : a ≤ H) (h2 : b ≤ 7 + H) (h3 : c ≤ 7 + H) : 6 + max a (max b c) ≤ H + 13 := Nat.le_trans (Nat.add_le_add_left (max3 (Nat.le_trans h1 (Nat.le_add_left H 7)) h2 h3) 6) (Nat.le_of_eq (by rw [← Nat.add_assoc]; exact Nat.add_comm 13 H))
theorem wrap_ht {form : Nat} {t b th : Th} {H : Nat} (hw : Wrap form t b th) (h1 : t.ht ≤ H) (h2 : b.ht ≤ H) (h3 : 13 ≤ H) : th.ht ≤ H + 13 := by
  match form, hw with
  | 0, hw =>
    obtain ⟨a', p, r1, r2, r3, n, rfl⟩ := hw
    have h : (Th.node .ifk a' p [t, rowT r1 r2 r3 n b, .lit .none]).ht = 6 + max t.ht (max (rowT r1 r2 r3 n b).ht (max 1 0)) := rfl
    rw [h, row_ht]; exact wrap_h h1 (Nat.add_le_add_left h2 7) (Nat.le_trans (by decide) (Nat.le_add_right 7 H))
  | 1, hw =>
    obtain ⟨a', p, r1, r2, r3, n, rfl⟩ := hw
    have h : (Th.node .whk a' p [t, rowT r1 r2 r3 n b, .lit (.bool false)]).ht = 6 + max t.ht (max (rowT r1 r2 r3 n b).ht (max 1 0)) := rfl
    rw [h, row_ht]; exact wrap_h h1 (Nat.add_le_add_left h2 7) (Nat.le_trans (by decide) (Nat.le_add_right 7 H))
  | 2, hw =>
    obtain ⟨a', p, r1, r2, r3, n, s1, s2, s3, n2, rfl⟩ := hw
    have h : (Th.node .ifk a' p [t, .node .seq s1 s2 [.seq false s3 n2 []], rowT r1 r2 r3 n b]).ht = 6 + max t.ht (max (6 + max (1 + 0) 0) (max (rowT r1 r2 r3 n b).ht 0)) := rfl
    rw [h, row_ht]; exact wrap_h h1 (Nat.le_trans (by decide) (Nat.le_add_right 7 H)) (Nat.max_le.mpr ⟨Nat.add_le_add_left h2 7, Nat.zero_le _⟩)
  | m + 3, hw =>
    obtain ⟨a', p, r1, r2, r3, n, s1, s2, s3, n2, i1, i2, tk, rfl⟩ := hw
    have h : (Th.node .ifk a' p [t, rowT r1 r2 r3 n b, rowT s1 s2 s3 n2 (.node .int i1 i2 [.lit (.int 7 tk)])]).ht = 6 + max t.ht (max (rowT r1 r2 r3 n b).ht (max (rowT s1 s2 s3 n2 (.node .int i1 i2 [.lit (.int 7 tk)])).ht 0)) := rfl
    rw [h, row_ht, row_ht, int_ht]; exact wrap_h h1 (Nat.add_le_add_left h2 7) (Nat.max_le.mpr ⟨Nat.add_le_add_left (Nat.le_trans (by decide) h3) 7, Nat.zero_le _⟩)
/-- where the test and the body begin -/
theorem wrap_cov {form : Nat} {t b th : Th} {T : Nat → Option Th} {p : Nat} (hw : Wrap form t b th) (hn : ∃ k a q is, t = .node k a q is) (hT : T (p + 1) = some th) (h1 : Cov T (p + 1) t) (h2 : Cov T (p + 1 + (match decide (form < 3) with | true => t.sz | false => t.span) + 1) b) : Cov T p th := by
  match form, hw with
  | 0, hw =>
    obtain ⟨a', p', r1, r2, r3, n, rfl⟩ := hw
    exact .body (s := false) (.inl rfl) rfl hT h1 (cov_row h2) hn
  | 1, hw =>
    obtain ⟨a', p', r1, r2, r3, n, rfl⟩ := hw
    exact .body (s := false) (.inr rfl) rfl hT h1 (cov_row h2) hn
  | 2, hw =>
    obtain ⟨a', p', r1, r2, r3, n, s1, s2, s3, n2, rfl⟩ := hw
    exact .body (s := true) (.inl rfl) rfl hT h1 (cov_row h2) hn
  | m + 3, hw =>
    obtain ⟨a', p', r1, r2, r3, n, s1, s2, s3, n2, i1, i2, tk, rfl⟩ := hw
    have h3 : decide (m + 3 < 3) = false := decide_eq_false (by omega)
    rw [h3] at h2
    refine .bare (.inl rfl) rfl fun i th hi => ?_
    rcases i with _ | _ | _ | i
    · cases hi; exact h1
    · cases hi; exact cov_row h2
    · cases hi; exact cov_row (sm_int.2.cov _ _)
    · simp at hi

structure Lyr where
  node : Addr
  side : Bool
  own : Bool
  l0 : Bool
  l1 : Bool
noncomputable def Lyr.late (l : Lyr) : Bool → Bool
  | true => l.l1
  | false => l.l0
/-- the name known behind a layer's own piece, for what lies within -/
noncomputable def Lyr.next (l : Lyr) (b : Bool) : Bool := b || (l.own && ((!l.side) != l.late b))
/-- what is due, from the outer layer in -/
noncomputable def dueL : List Lyr → Bool → List Addr
  | [], _ => []
  | l :: ls, b => (match l.late b with | true => [l.node] | false => []) ++ dueL ls (l.next b)
structure Pc (th : Th) (ls : List Lyr) : Prop where
  cov : CovAll th
  late : ∀ b, (th.run b).late = dueL ls b
  sz : th.sz ≤ 3 + 7 * ls.length
  ht : th.ht ≤ 13 + 13 * ls.length
theorem pc_small {s : Th} (h : SmSem s) : Pc s [] :=
  ⟨fun p => ⟨fun _ => none, h.cov _ _, fun _ _ h => nomatch h⟩, h.late, h.sz, h.ht⟩
noncomputable def lOf (form : Nat) (t0 t1 tmk b0 b1 bmk : Bool) (kb : Bool) : Bool := decide (form < 3) && lateB kb t0 t1 tmk b0 b1 bmk
noncomputable def rOf (form : Nat) (t0 t1 tmk b0 b1 bmk : Bool) (kb : Bool) : Bool := rightOf kb t0 t1 tmk b0 b1 || lOf form t0 t1 tmk b0 b1 bmk kb
theorem wrap_sem {form : Nat} {t b th : Th} {a : Addr} {t0 t1 tmk b0 b1 bmk : Bool} (ht : PcSem t t0 t1 tmk) (hb : PcSem b b0 b1 bmk) (hw : Wrap form t b th) (ha : th.val = .ref a) :
    PcSem th (rOf form t0 t1 tmk b0 b1 bmk false) (rOf form t0 t1 tmk b0 b1 bmk true) (tmk || bmk) := by
  have hr := wrap_run hw ha (pcsem_fn ht) (pcsem_fn hb)
  refine ⟨wrap_wf hw ht.wf hb.wf, wrap_node hw, fun kb => ?_, fun kb => ?_⟩
  · have h1 : (th.run kb).right = rOf form t0 t1 tmk b0 b1 bmk kb := by
      rw [hr kb]
      unfold rOf
      show _ = (rightOf kb t0 t1 tmk b0 b1 || (decide (form < 3) && lateB kb t0 t1 tmk b0 b1 bmk))
      cases decide (form < 3) && lateB kb t0 t1 tmk b0 b1 bmk with
      | true => simp
      | false => simp only [Bool.or_false]; exact join_right (pcsem_fn ht) (pcsem_fn hb) kb
    rw [h1]
    cases kb <;> rfl
  · rw [hr kb]
    cases decide (form < 3) && lateB kb t0 t1 tmk b0 b1 bmk with
    | true =>
      show ((b.run kb).join t.run).known = _
      rw [join_known (pcsem_fn hb) (pcsem_fn ht) kb, Bool.or_comm bmk]
    | false => exact join_known (pcsem_fn ht) (pcsem_fn hb) kb
noncomputable def keyed (p : Nat) (th : Th) (T : Nat → Option Th) (q : Nat) : Option Th := match decide (q = p + 1) with | true => some th | false => T q
theorem keyed_at {p : Nat} {th : Th} {T : Nat → Option Th} : keyed p th T (p + 1) = some th := by simp [keyed]
theorem keyed_mono {p : Nat} {th : Th} {T : Nat → Option Th} (h : ∀ q nd, T q = some nd → p + 1 < q) : ∀ q nd, T q = some nd → keyed p th T q = some nd := by
  intro q nd hq
  have := h q nd hq
  have e : decide (q = p + 1) = false := decide_eq_false (by omega)
  simp only [keyed, e]
  exact hq
theorem keyed_of {p : Nat} {th nd : Th} {T : Nat → Option Th} {q : Nat} (h : keyed p th T q = some nd) : (q = p + 1 ∧ nd = th) ∨ T q = some nd := by
  unfold keyed at h
  by_cases e : q = p + 1
  · rw [decide_eq_true e] at h
    cases h
    exact .inl ⟨e, rfl⟩
  · rw [decide_eq_false e] at h
    exact .inr h
theorem pc_p {p x q : Nat} (h : p + 1 + x + 1 < q) : p + 1 < q := Nat.lt_of_le_of_lt (Nat.le_trans (Nat.le_add_right _ x) (Nat.le_succ _)) h
theorem pc_q {x s i q p h : Nat} (h1 : 2 + s + i ≤ h) (hx : x ≤ s) (h3 : q ≤ p + 1 + x + 1 + i) : q ≤ p + h := by
  have e : p + 1 + x + 1 + i = p + (2 + x + i) := by rw [Nat.add_right_comm (p + 1) x 1, Nat.add_assoc p 1 1, Nat.add_assoc, Nat.add_assoc p, Nat.add_assoc 2]
  exact Nat.le_trans h3 (e ▸ Nat.add_le_add_left (Nat.le_trans (Nat.add_le_add_right (Nat.add_le_add_left hx 2) i) h1) p)
theorem pc_one {s i p h : Nat} (h1 : 2 + s + i ≤ h) : p + 1 ≤ p + h := Nat.add_le_add_left (Nat.le_trans (Nat.le_trans (by decide : 1 ≤ 2) (Nat.le_trans (Nat.le_add_right 2 s) (Nat.le_add_right _ i))) h1) p
theorem pc_sz {h s i l : Nat} (h1 : h ≤ s + i + 4) (h2 : s ≤ 3) (h3 : i ≤ 3 + 7 * l) : h ≤ 3 + 7 * (l + 1) :=
  Nat.le_trans h1 (Nat.le_trans (Nat.add_le_add_right (Nat.add_le_add h2 h3) 4) (Nat.le_of_eq (by rw [Nat.add_comm 3 (3 + 7 * l)]; rfl)))
theorem pc_ht {h l : Nat} (h1 : h ≤ 13 + 13 * l + 13) : h ≤ 13 + 13 * (l + 1) := h1
theorem wrap_pc0 {form : Nat} {s i th : Th} {a : Addr} {ls : List Lyr} {s0 s1 smk i0 i1 imk : Bool} (hs : PcSem s s0 s1 smk) (hs2 : SmSem s) (hi : PcSem i i0 i1 imk) (hp : Pc i ls) (hw : Wrap form s i th) (ha : th.val = .ref a) :
    Pc th (⟨a, false, smk, lOf form s0 s1 smk i0 i1 imk false, lOf form s0 s1 smk i0 i1 imk true⟩ :: ls) := by
  have hwf := wrap_wf hw hs.wf hi.wf
  have hsz := wrap_sz hw
  refine ⟨fun p => ?_, fun kb => ?_, ?_, ?_⟩
  · obtain ⟨T, hT, hk⟩ := hp.cov (p + 1 + (match decide (form < 3) with | true => s.sz | false => s.span) + 1)
    have hle : (match decide (form < 3) with | true => s.sz | false => s.span) ≤ s.sz := by
      cases decide (form < 3)
      · exact span_le hs.wf
      · exact Nat.le_refl _
    refine ⟨keyed p th T, wrap_cov hw hs.node keyed_at (hs2.cov _ _) (hT.mono (keyed_mono fun q nd hq => ?_)), fun q nd hq => ?_⟩
    · exact pc_p (hk q nd hq).1
    · rcases keyed_of hq with ⟨rfl, rfl⟩ | hq
      · exact ⟨Nat.lt_succ_self p, pc_one hsz.1, hwf⟩
      · have := hk q nd hq
        exact ⟨Nat.lt_trans (Nat.lt_succ_self p) (pc_p this.1), pc_q hsz.1 hle this.2.1, this.2.2⟩
  · rw [wrap_run hw ha (pcsem_fn hs) (pcsem_fn hi) kb]
    have hl : Lyr.late ⟨a, false, smk, lOf form s0 s1 smk i0 i1 imk false, lOf form s0 s1 smk i0 i1 imk true⟩ kb = (decide (form < 3) && lateB kb s0 s1 smk i0 i1 imk) := by cases kb <;> rfl
    unfold dueL Lyr.next
    rw [hl]
    cases decide (form < 3) && lateB kb s0 s1 smk i0 i1 imk with
    | true =>
      show a :: ((i.run kb).late ++ (s.run (i.run kb).known).late) = a :: dueL ls (kb || (smk && ((!false) != true)))
      rw [hs2.late, List.append_nil, hp.late]
      simp
    | false =>
      show (s.run kb).late ++ (i.run (s.run kb).known).late = dueL ls (kb || (smk && ((!false) != false)))
      rw [hs2.late, hp.late, hs.known]
      simp
  · simp only [List.length_cons]
    exact pc_sz hsz.2 hs2.sz hp.sz
  · simp only [List.length_cons]
    exact pc_ht (wrap_ht (H := 13 + 13 * ls.length) hw (Nat.le_trans hs2.ht (by omega)) hp.ht (by omega))
theorem wrap_pc1 {form : Nat} {s i th : Th} {a : Addr} {ls : List Lyr} {s0 s1 smk i0 i1 imk : Bool} (hs : PcSem s s0 s1 smk) (hs2 : SmSem s) (hi : PcSem i i0 i1 imk) (hp : Pc i ls) (hw : Wrap form i s th) (ha : th.val = .ref a) :
    Pc th (⟨a, true, smk, lOf form i0 i1 imk s0 s1 smk false, lOf form i0 i1 imk s0 s1 smk true⟩ :: ls) := by
  have hwf := wrap_wf hw hi.wf hs.wf
  have hsz := wrap_sz hw
  refine ⟨fun p => ?_, fun kb => ?_, ?_, ?_⟩
  · obtain ⟨T, hT, hk⟩ := hp.cov (p + 1)
    refine ⟨keyed p th T, wrap_cov hw hi.node keyed_at (hT.mono (keyed_mono fun q nd hq => ?_)) (hs2.cov _ _), fun q nd hq => ?_⟩
    · exact (hk q nd hq).1
    · rcases keyed_of hq with ⟨rfl, rfl⟩ | hq
      · exact ⟨Nat.lt_succ_self p, pc_one hsz.1, hwf⟩
      · have := hk q nd hq
        exact ⟨Nat.lt_trans (Nat.lt_succ_self p) this.1, pc_q (x := 0) (Nat.add_right_comm 2 i.sz s.sz ▸ hsz.1) (Nat.zero_le _) (Nat.le_trans this.2.1 (Nat.add_le_add_right (Nat.le_succ (p + 1)) i.sz)), this.2.2⟩
  · rw [wrap_run hw ha (pcsem_fn hi) (pcsem_fn hs) kb]
    have hl : Lyr.late ⟨a, true, smk, lOf form i0 i1 imk s0 s1 smk false, lOf form i0 i1 imk s0 s1 smk true⟩ kb = (decide (form < 3) && lateB kb i0 i1 imk s0 s1 smk) := by cases kb <;> rfl
    unfold dueL Lyr.next
    rw [hl]
    cases decide (form < 3) && lateB kb i0 i1 imk s0 s1 smk with
    | true =>
      show a :: ((s.run kb).late ++ (i.run (s.run kb).known).late) = a :: dueL ls (kb || (smk && ((!true) != true)))
      rw [hs2.late, hp.late, hs.known]
      simp
    | false =>
      show (i.run kb).late ++ (s.run (i.run kb).known).late = dueL ls (kb || (smk && ((!true) != false)))
      rw [hs2.late, hp.late, List.append_nil]
      simp
  · simp only [List.length_cons]
    exact pc_sz (Nat.add_comm i.sz s.sz ▸ hsz.2) hs2.sz hp.sz
  · simp only [List.length_cons]
    exact pc_ht (wrap_ht (H := 13 + 13 * ls.length) hw hp.ht (Nat.le_trans hs2.ht (by omega)) (by omega))

section
variable {prog : Program} {w : World} {A : Around} {E : Value → Shared → Prop} {s : Shared} {h₀ : Heap} {L : Addr} {m : PySem.Str → Option Value} {env : Env}
/-- a list made over a tuple that the ledger holds -/
inductive SrcTu (prog : Program) (w : World) (A : Around) (h₀ : Heap) (L : Addr) (m : PySem.Str → Option Value) (env : Env) (elt : PySem.Expr) (x : PySem.Str) (scope : Scope) (cl : List (PySem.Str × Addr)) (Fin : Shared → List Value → Led → Prop) (xv : Value) (s₁ : Shared) : Prop
  | ex (ax : _) (vs : _) (k : _) (news : _) (h1 : xv = .ref ax) (h2 : A.handled = none) (h3 : Fr h₀ L s₁.heap m) (h4 : News h₀ L s₁.heap news) (h5 : (ax, tupO vs k) ∈ news) (h6 : vs.length ≤ sizeLine) (h7 : ∀ g, LCg.CompRest prog w A h₀ L m env elt x scope cl { s₁ with heap := g } (fun nw => (ax, tupO vs k) ∈ nw) (fun i v => vs[i]? = some v) (Fin { s₁ with heap := g }) vs.length 0 [] news)
theorem SrcTu.intro {elt : PySem.Expr} {x : PySem.Str} {scope : Scope} {cl : List (PySem.Str × Addr)} {Fin : Shared → List Value → Led → Prop} {ax : Addr} {vs : List Value} {k : Nat} {news : Led} {s₁ : Shared}
    (hh : A.handled = none) (F : Fr h₀ L s₁.heap m) (N : News h₀ L s₁.heap news) (hm : (ax, tupO vs k) ∈ news) (hsz : vs.length ≤ sizeLine)
    (h : ∀ g, LCg.CompRest prog w A h₀ L m env elt x scope cl { s₁ with heap := g } (fun nw => (ax, tupO vs k) ∈ nw) (fun i v => vs[i]? = some v) (Fin { s₁ with heap := g }) vs.length 0 [] news) :
    SrcTu prog w A h₀ L m env elt x scope cl Fin (.ref ax) s₁ := ⟨ax, vs, k, news, rfl, hh, F, N, hm, hsz, h⟩
theorem ListComp_Tu {elt iter : PySem.Expr} {x : PySem.Str} {px : Pos} {scope : Scope} {cl : List (PySem.Str × Addr)} {pos : Pos} {Q : Value → Shared → Prop} (F₀ : Fr h₀ L s.heap m)
    (hclos : closureFor scope env = pure cl) (hcell : ∀ y ∈ scope.names, y.2 ≠ .cell) (hkind : scope.kind = .function)
    (hnames : ∀ y ∈ scope.names, y.2 = .local → scope.names.lookup y.1 = some .local) (hx : scope.names.lookup x = some .local)
    (h : wpAny (model prog w) A (eval iter env) (SrcTu prog w A h₀ L m env elt x scope cl (fun s₂ => LCg.FinE h₀ L m s₂ Q)) E s)
    (hs : ∀ x, foldedSetIterable iter env x = pure x := by intro _; rfl) :
    wpAny (model prog w) A (eval (.ListComp elt [⟨.Name x px, iter, [], 0⟩] scope pos) env) Q E s := by
  rw [eval_ListComp]
  refine wpAny_comprehension_free (use := none) rfl hs hclos hkind hnames (wpAny_mono h (fun xv s₁ h₁ => ?_) fun _ _ e => e)
  obtain ⟨ax, vs, k, news, rfl, hh, F, N, hm, hsz, R⟩ := h₁
  have hl : s₁.heap.IsTuple ax vs.toArray := ⟨_, (N _ hm).1, rfl, _, rfl⟩
  have hlt : ax < s₁.heap.objs.size := Heap.lt_size (N _ hm).1
  refine wpAny_pyIter_tuple hl ?_
  have up : ∀ b o, s₁.heap.get? b = some o → (s₁.heap.push { cls := .type "tuple_iterator", data := .fields #[.ref ax, .int 0 0] }).get? b = some o := fun b o e => Heap.get?_push_of_some _ e
  refine LCg.block_U (fp := [s₁.heap.objs.size, ax]) (S := fun nw => (ax, tupO vs k) ∈ nw) (St := fun i h => h.IsTupleIter s₁.heap.objs.size ax i ∧ h.IsTuple ax vs.toArray) (P := fun i v => vs[i]? = some v) (n := vs.length) ?W hsz (fun i h st => by obtain ⟨o, e, _⟩ := st.1; exact ⟨o, e⟩) ?st hcell hkind hx ⟨⟨_, Heap.get?_push_size _ rfl, rfl, rfl⟩, hl.at fun o e => Heap.get?_push_of_some _ e⟩ (fun b hb => ?_)
      (F.keeps up) (N.grown up) (Nat.ne_of_lt F.ns.lt) (next_is_new F) (fun p hp => Nat.ne_of_lt (Heap.lt_size (N p hp).1)) hm (R _) ?_
  case W =>
    have W := Walks.tuple (prog := prog) (w := w) (A := A) hh s₁.heap.objs.size ax (Nat.ne_of_lt hlt) vs.toArray
    simp only [List.size_toArray, List.getElem?_toArray] at W
    exact W
  case st =>
    intro i h h' o nw st e e' hk N' hS
    refine ⟨?_, ⟨_, (N' _ hS).1, rfl, _, rfl⟩⟩
    obtain ⟨o', q, r⟩ := st.1
    rw [e] at q
    cases q
    exact ⟨o, e', r⟩
  · show b < (s₁.heap.push _).objs.size
    rw [Heap.size_push]
    rcases List.mem_cons.mp hb with rfl | hb
    · exact Nat.lt_succ_self _
    · rw [List.mem_singleton.mp hb]; exact Nat.lt_succ_of_lt hlt
  · intro D C h tk m' ys news' F' N' o1 hn hC₀ hD₀ hCL hDL hCD offC fin
    refine ⟨m', hn, fun h'' hs'' => fin D h'' tk (F'.change hs'' hCL hC₀) (fun p hp => ?_) o1⟩
    refine ⟨hs''.extBut _ _ ?_ (N' p hp).1, (N' p hp).2⟩
    rcases List.mem_cons.mp hp with rfl | hp
    · exact Ne.symm hCD
    · exact offC p hp
end
theorem split_right {kb a0 a1 mk b0 b1 : Bool} {P Q : Prop} (h1 : rightOf kb a0 a1 mk b0 b1 = true → P) (h2 : rightOf kb a0 a1 mk b0 b1 = false → Q) : if rightOf kb a0 a1 mk b0 b1 = true then P else Q := by
  cases h : rightOf kb a0 a1 mk b0 b1 with
  | true => rw [if_pos rfl]; exact h1 h
  | false => rw [if_neg (by decide)]; exact h2 h
theorem split_lt3 {form : Nat} {P Q : Prop} (h1 : decide (form < 3) = true → P) (h2 : decide (form < 3) = false → Q) : if decide ((form : Int) < 3) = true then P else Q := by
  by_cases h : form < 3
  · rw [if_pos (decide_eq_true (by omega))]; exact h1 (decide_eq_true h)
  · rw [if_neg (by rw [decide_eq_false (by omega)]; decide)]; exact h2 (decide_eq_false h)
theorem l_early {form : Nat} {t0 t1 tmk b0 b1 bmk kb : Bool} (h : rightOf kb t0 t1 tmk b0 b1 = true) : lOf form t0 t1 tmk b0 b1 bmk kb = !rightOf kb t0 t1 tmk b0 b1 := by
  unfold lOf lateB
  rw [h]
  simp
theorem l_form {form : Nat} {t0 t1 tmk b0 b1 bmk kb : Bool} (h : decide (form < 3) = false) : lOf form t0 t1 tmk b0 b1 bmk kb = decide ((form : Int) < 3) := by
  have h2 : decide ((form : Int) < 3) = false := decide_eq_false (by have := of_decide_eq_false h; omega)
  unfold lOf
  rw [h, h2]
  rfl
theorem l_late {form : Nat} {t0 t1 tmk b0 b1 bmk kb : Bool} (h : decide (form < 3) = true) (h2 : rightOf kb t0 t1 tmk b0 b1 = false) : lOf form t0 t1 tmk b0 b1 bmk kb = rightOf kb b0 b1 bmk t0 t1 := by
  unfold lOf lateB
  rw [h, h2]
  rfl
theorem r_early {form : Nat} {t0 t1 tmk b0 b1 bmk kb : Bool} (h : rightOf kb t0 t1 tmk b0 b1 = true) : rOf form t0 t1 tmk b0 b1 bmk kb = rightOf kb t0 t1 tmk b0 b1 := by
  unfold rOf
  rw [h]
  rfl
theorem r_late {form : Nat} {t0 t1 tmk b0 b1 bmk kb : Bool} (h : rightOf kb t0 t1 tmk b0 b1 = false) : rOf form t0 t1 tmk b0 b1 bmk kb = lOf form t0 t1 tmk b0 b1 bmk kb := by
  unfold rOf
  rw [h]
  rfl

inductive LyIn (R : Led) (v : Value) (l : Lyr) : Prop
  | ex (ly : _) (lq : _) (n1 : _) (n2 : _) (tk : _) (h1 : v = .ref ly) (h2 : (ly, tupO [.ref l.node, .int (match l.side with | true => 1 | false => 0) tk, .bool l.own, .ref lq] n1) ∈ R) (h3 : (lq, lstO [.bool l.l0, .bool l.l1] n2) ∈ R)
theorem LyIn.mono {R R' : Led} (hs : ∀ p ∈ R, p ∈ R') {v : Value} {l : Lyr} (h : LyIn R v l) : LyIn R' v l := by
  obtain ⟨ly, lq, n1, n2, tk, e, h1, h2⟩ := h
  exact ⟨ly, lq, n1, n2, tk, e, hs _ h1, hs _ h2⟩
noncomputable def LysIn (R : Led) : List Value → List Lyr → Prop
  | [], [] => True
  | v :: vs, l :: ls => LyIn R v l ∧ LysIn R vs ls
  | _, _ => False
theorem LysIn.mono {R R' : Led} (hs : ∀ p ∈ R, p ∈ R') : ∀ {vs : List Value} {ls : List Lyr}, LysIn R vs ls → LysIn R' vs ls
  | [], [], _ => trivial
  | _ :: _, _ :: _, h => ⟨h.1.mono hs, LysIn.mono hs h.2⟩
  | [], _ :: _, h => h.elim
  | _ :: _, [], h => h.elim
theorem LysIn.len {R : Led} : ∀ {vs : List Value} {ls : List Lyr}, LysIn R vs ls → vs.length = ls.length
  | [], [], _ => rfl
  | _ :: _, _ :: _, h => congrArg (· + 1) h.2.len
  | [], _ :: _, h => h.elim
  | _ :: _, [], h => h.elim
theorem LysIn.get {R : Led} : ∀ {vs : List Value} {ls : List Lyr} {i : Nat} {v : Value}, LysIn R vs ls → vs[i]? = some v → ∃ l, ls.drop i = l :: ls.drop (i + 1) ∧ LyIn R v l
  | _ :: _, l :: ls, 0, v, h, hv => by
    simp only [List.getElem?_cons_zero, Option.some.injEq] at hv
    subst hv
    exact ⟨l, by simp, h.1⟩
  | _ :: vs, l :: ls, i + 1, v, h, hv => by
    simp only [List.getElem?_cons_succ] at hv
    obtain ⟨l', h1, h2⟩ := h.2.get hv
    exact ⟨l', by simpa using h1, h2⟩
  | [], _, _, _, _, hv => by simp at hv
  | _ :: _, [], _, _, h, _ => h.elim

local macro_rules | `(tactic| walk_at "eval BoolOp") => `(tactic| (k_here; (with_reducible show wpAny _ _ (eval (PySem.Expr.BoolOp _ [PySem.Expr.Subscript _ (PySem.Expr.Constant _ _ _) _, PySem.Expr.Subscript _ (PySem.Expr.Constant _ _ _) _] _) _) _ _ _); (fail_if_success with_reducible show wpAny _ _ _ (IsVal _ _) _ _); refine Stop.intro ?_))
local macro_rules | `(tactic| walk_at "last subscriptTail") => `(tactic| (k_here; (with_reducible show wpAny _ _ (subscriptTail (PySem.Expr.List _ _) _ (Value.ref _) (Value.int _ _)) _ _ _); refine Stop.intro ?_))
local macro_rules | `(tactic| walk_at "subscriptTail") => `(tactic| (k_here; (with_reducible show wpAny _ _ (subscriptTail (PySem.Expr.List _ _) _ (Value.ref _) (Value.int _ _)) _ _ _); refine Stop.intro ?_))
local macro_rules | `(tactic| walk_at "eval ListComp") => `(tactic| (k_here; (with_reducible show wpAny _ _ (eval (PySem.Expr.ListComp _ [⟨_, PySem.Expr.Tuple _ _ _, [], 0⟩] _ _) _) _ _ _); k_dflt (refine ListComp_Tu (F₀ := by k_asm) (by with_unfolding_all rfl) (by decide) (by rfl) (by decide) (by rfl) ?_)))
local macro_rules | `(tactic| walk_at "ite") => `(tactic| (k_here; with_reducible first | (refine split_right ?_ ?_ <;> intro _) | (refine split_lt3 ?_ ?_ <;> intro _)))
local macro_rules | `(tactic| walk_at "subscriptTail Name Constant ref int") => `(tactic| walk_at "m item")
inductive BoxIn (bx : Addr) (c : Int) (M : Led) : Prop
  | ex (A : _) (B : _) (C : _) (t1 : _) (t2 : _) (t3 : _) (n : _) (h1 : M = [(bx, lstO [.int A t1, .int B t2, .int C t3] n)]) (h2 : (0 ≤ B ∧ B < 1000003)) (h3 : (0 ≤ C ∧ C ≤ c))
inductive RoundPost (w : World) (R : Led) (bx : Addr) (c : Int) (ls : List Lyr) (r : Value) (M' tl : Led) : Prop
  | ex (h1 : BoxIn bx c M') (rt : _) (p' : _) (ly : _) (th : _) (r0 : _) (r1 : _) (mk : _) (l : _) (h2 : r = .ref rt) (h3 : (rt, tupO [.ref p', .ref ly] 0) ∈ tl) (h4 : PcIn w (tl ++ R) (.ref p') th r0 r1 mk) (h5 : LyIn (tl ++ R) (.ref ly) l) (h6 : PcSem th r0 r1 mk) (h7 : Pc th (l :: ls))
theorem RoundPost.mk {w : World} {R tl : Led} {bx : Addr} {c : Int} {ls : List Lyr} (A B C : Int) (t1 t2 t3 : Tok) (n : Nat) (h1 : 0 ≤ B ∧ B < 1000003) (h2 : 0 ≤ C ∧ C ≤ c) (rt p' ly : Addr) (th : Th) (r0 r1 mk : Bool) (l : Lyr) (q lq : Addr) (n1 n2 n3 n4 : Nat) (tk : Tok)
    (h3 : (rt, tupO [.ref p', .ref ly] 0) ∈ tl) (h4 : (p', lstO [th.val, .ref q, .bool mk] n1) ∈ tl ++ R) (h5 : (q, lstO [.bool r0, .bool r1] n2) ∈ tl ++ R) (h6 : ThIn w (tl ++ R) th)
    (h7 : (ly, tupO [.ref l.node, .int (match l.side with | true => 1 | false => 0) tk, .bool l.own, .ref lq] n3) ∈ tl ++ R) (h8 : (lq, lstO [.bool l.l0, .bool l.l1] n4) ∈ tl ++ R) (h9 : PcSem th r0 r1 mk) (h10 : Pc th (l :: ls)) :
    RoundPost w R bx c ls (.ref rt) [(bx, lstO [.int A t1, .int B t2, .int C t3] n)] tl :=
  ⟨⟨A, B, C, t1, t2, t3, n, rfl, h1, h2⟩, rt, p', ly, th, r0, r1, mk, l, rfl, h3, ⟨p', q, n1, n2, rfl, h4, h5, h6⟩, ⟨ly, lq, n3, n4, tk, rfl, h7, h8⟩, h9, h10⟩
theorem RoundPost.out {h₀ : Heap} {L : Addr} {m : PySem.Str → Option Value} {R : Led} {W : Led → Prop} {G : Value → Heap → Nat → Prop} {w : World} {R0 : Led} {bx : Addr} {c : Int} {ls : List Lyr}
    (k : ∀ A B C t1 t2 t3 n rt p' ly th r0 r1 mk l tl h' tk', (0 ≤ B ∧ B < 1000003) → (0 ≤ C ∧ C ≤ c) → (rt, tupO [.ref p', .ref ly] 0) ∈ tl → PcIn w (tl ++ R0) (.ref p') th r0 r1 mk → LyIn (tl ++ R0) (.ref ly) l → PcSem th r0 r1 mk → Pc th (l :: ls) →
      Fr h₀ L h' m → News h₀ L h' ((bx, lstO [.int A t1, .int B t2, .int C t3] n) :: (tl ++ R)) → W tl → G (.ref rt) h' tk') :
    ∀ r M' tl h' tk', Fr h₀ L h' m → News h₀ L h' (M' ++ (tl ++ R)) → W tl → RoundPost w R0 bx c ls r M' tl → G r h' tk' := by
  rintro _ _ tl h' tk' F N hw ⟨⟨A, B, C, t1, t2, t3, n, rfl, h1, h2⟩, rt, p', ly, th, r0, r1, mk, l, rfl, h3, h4, h5, h6, h7⟩
  exact k A B C t1 t2 t3 n rt p' ly th r0 r1 mk l tl h' tk' h1 h2 h3 h4 h5 h6 h7 F N hw
section
variable {prog : Program} {w : World} {A : Around} {E : Value → Shared → Prop} {s : Shared} {h₀ : Heap} {L : Addr} {Q : Value → Shared → Prop} {news : Led}
end
theorem int_two {d : Int} (hd : 0 ≤ d ∧ d < 2) : d = 0 ∨ d = 1 := by
  obtain ⟨n, rfl⟩ := Int.eq_ofNat_of_zero_le hd.1
  match n, Int.ofNat_lt.mp hd.2 with
  | 0, _ => exact .inl rfl
  | 1, _ => exact .inr rfl
theorem ar_up {a b c k : Int} (h : b ≤ a + k) (h' : c ≤ b + 1) : c ≤ a + (k + 1) := Int.le_trans h' (Int.le_trans (Int.add_le_add_right h 1) (Int.le_of_eq (Int.add_assoc a k 1)))
theorem ar_top {a c k : Int} (h : c ≤ a + k) (ha : a + 10 < 100000) (hk : k ≤ 10) : c < 100000 := Int.lt_of_le_of_lt h (Int.lt_of_le_of_lt (Int.add_le_add_left hk a) ha)
section
variable {prog : Program} {w : World} {A : Around} {E : Value → Shared → Prop} {s : Shared} {h₀ : Heap} {L : Addr} {Q : Value → Shared → Prop} {news : Led}
theorem item_two {value slice : PySem.Expr} {l T1 T2 : Addr} {n : Nat} {d : Int} {t : Tok} (N : News h₀ L s.heap news) (hm : (l, lstO [.ref T1, .ref T2] n) ∈ news) (hd : 0 ≤ d ∧ d < 2) (h : ∀ T, (d = 0 ∧ T = T1) ∨ (d = 1 ∧ T = T2) → Q (.ref T) s)
    (hs : subscripted slice false (.ref l) (.int d t) = operate [.ref l, .int d t] (getItem (.ref l) (.int d t))) : wpAny (model prog w) A (subscriptTail value slice (.ref l) (.int d t)) Q E s := by
  have hl : s.heap.IsList l [Value.ref T1, Value.ref T2].toArray := ⟨_, (N _ hm).1, rfl, n, rfl⟩
  have h01 : d = 0 ∨ d = 1 := int_two hd
  rcases h01 with rfl | rfl
  · exact tail_any hl.typeIs slot_list_getitem.lookup (wpAny_getItem_list hl (by decide) (by decide) rfl (h T1 (.inl ⟨rfl, rfl⟩))) hs
  · exact tail_any hl.typeIs slot_list_getitem.lookup (wpAny_getItem_list hl (by decide) (by decide) rfl (h T2 (.inr ⟨rfl, rfl⟩))) hs
end
theorem ne_two {a : Addr} {A B C : Led} (e : C = A ++ B) (h : ∀ q ∈ A, q.1 ≠ a) (k : ∀ q ∈ B, q.1 ≠ a) : ∀ q ∈ C, q.1 ≠ a := by
  subst e
  exact all_app h k
noncomputable def bitI (b : Bool) : Int := match b with | true => 1 | false => 0
theorem two_elim {a b : Tok} {P : Nat → Value → Prop} (g : ∀ (kb : Bool) (zt : Tok), P kb.toNat (.int (match kb with | true => 1 | false => 0) zt)) : ∀ i v, [Value.int 0 a, Value.int 1 b][i]? = some v → P i v := by
  intro i v hv
  rcases i with _ | _ | i
  · obtain rfl : v = .int 0 a := by simpa using hv.symm
    exact g false a
  · obtain rfl : v = .int 1 b := by simpa using hv.symm
    exact g true b
  · simp at hv
theorem two_last {k i : Nat} (h : i + (k + 1) = 2) : i + 1 + k = 2 := add_mid h
theorem round_ok (w : World) (R R0 : Led) (h0 : ∀ q ∈ R0, q ∈ R) (bx pi : Addr) (bA bB bC : Int) (t1 t2 t3 : Tok) (n : Nat) (th : Th) (i0 i1 imk : Bool) (ls : List Lyr) (hB : 0 ≤ bB ∧ bB < 1000003) (hC : 0 ≤ bC ∧ bC + 10 < 100000) (hR : ∀ q ∈ R, q.1 ≠ bx) (hpi : PcIn w R0 (.ref pi) th i0 i1 imk) (hi : PcSem th i0 i1 imk) (hp : Pc th ls) :
    Cn w 391 [.ref bx, .ref pi] 100 [(bx, lstO [.int bA t1, .int bB t2, .int bC t3] n)] R (RoundPost w R0 bx (bC + 3) ls) := by
  unfold Cn; k_fill; intro dp un gd A₀ base h₀ outer env L m s pp loose mean mg mb Q B F X N T hf hk hd hu hret
  simp only [List.cons_append, List.nil_append] at N
  k_dflt (refine' code_defC ?k1 ?k2 ?k3 ?k4 ?k5 ?kA ?kF ?kK ?k6 ?k7 ?k8 ?k9 ?kB ?kD ?_ ?c2 ?c3 ?c4; (case kA => exact rfl); (case kF => assumption); (case kK => assumption); (case k1 => k_asm); (case k2 => k_asm); (case k3 => k_asm); (case k4 => k_asm); (case k5 => k_asm); (case k6 => k_is); (case k7 => k_is); (case k8 => ktr_room); (case k9 => first | exact BindsTo.of_eq rfl | exact binds_K (by k_in) rfl (by k_is) rfl rfl rfl); (case kB => exact rfl); (case kD => decide +kernel); (case c2 => exact rfl); (case c3 => exact rfl); (case c4 => exact rfl); k_whole; intro g' L' h' tk' cells' FG' F' N' Y' B' X' T' l1; (try k_lt l1); k_cells Y'; (try simp only [List.cons_append, List.nil_append] at N'); (try dsimp only); (try k_fold); (refine frame_name F' ?_); clear F'; intro mm' F' hfr')
  k_steps
  (rename News g' L' _ (_ :: _ :: _ :: _ :: _ :: (bx, _) :: R) => kN)
  rename_i o5 o4 o3 o2 o1 _ _ _ _ _ _ _
  have nN : News g' L' _ ((L' + 1 + 1 + 1 + 1 + 1, o5) :: (L' + 1 + 1 + 1 + 1, o4) :: (L' + 1 + 1 + 1, o3) :: (L' + 1 + 1, o2) :: (L' + 1, o1) :: (bx, lstO [.int bA t1, .int bB t2, .int bC t3] n) :: R) := kN
  clear kN
  have cbx : ∀ RR : Led, (∀ q ∈ RR, q.1 ≠ bx) → ∀ q ∈ (L' + 1 + 1 + 1 + 1 + 1, o5) :: (L' + 1 + 1 + 1 + 1, o4) :: (L' + 1 + 1 + 1, o3) :: (L' + 1 + 1, o2) :: (L' + 1, o1) :: RR, q.1 ≠ bx := by
    intro RR hRR
    have := l1.1
    refine List.forall_mem_cons.mpr ⟨?_, List.forall_mem_cons.mpr ⟨?_, List.forall_mem_cons.mpr ⟨?_, List.forall_mem_cons.mpr ⟨?_, List.forall_mem_cons.mpr ⟨?_, hRR⟩⟩⟩⟩⟩ <;> exact Nat.ne_of_gt (by repeat (first | exact l1.1 | apply Nat.lt_succ_of_lt))
  have key := take_ok w ((L' + 1 + 1 + 1 + 1 + 1, o5) :: (L' + 1 + 1 + 1 + 1, o4) :: (L' + 1 + 1 + 1, o3) :: (L' + 1 + 1, o2) :: (L' + 1, o1) :: R) bx bA bB bC 2 t1 t2 t3 tk' n (by decide) (by decide) hB ⟨hC.1, ar_top (Int.le_of_eq (Int.add_zero _).symm) hC.2 (by decide)⟩ (cbx R hR)
  refine key _ _ _ _ _ _ _ _ _ _ _ _ _ _ _ _ _ (by assumption) (by assumption) (by assumption) (News.sub nN (by array_get_dec)) (by assumption) rfl rfl ?_ ?_ ?_
  · first | exact room1 hd (by decide) | (show dp + 1 + _ < _; omega)
  · first | exact room2 hu (by decide) | (show un + 3 + _ < _; omega)
  refine TakePost.out ?_
  intro d t5 A1 C1 s1 s2 s3 m1 h1 tk1 hd1 hC1 F₁ N₁
  dsimp only
  clear key nN
  k_steps
  have key := fun t4 => take_ok w ((L' + 1 + 1 + 1 + 1 + 1, o5) :: (L' + 1 + 1 + 1 + 1, o4) :: (L' + 1 + 1 + 1, o3) :: (L' + 1 + 1, o2) :: (L' + 1, o1) :: R) bx A1 bB C1 4 s1 s2 s3 t4 m1 (by decide) (by decide) hB ⟨hC1.1, ar_top hC1.2 hC.2 (by decide)⟩ (cbx R hR)
  refine key _ _ _ _ _ _ _ _ _ _ _ _ _ _ _ _ _ _ (by assumption) (by assumption) (by assumption) (by assumption) (by assumption) rfl rfl ?_ ?_ ?_
  · first | exact room1 hd (by decide) | (show dp + 1 + _ < _; omega)
  · first | exact room2 hu (by decide) | (show un + 3 + _ < _; omega)
  refine TakePost.outN ?_
  intro k t6 A2 C2 s1' s2' s3' m2 h2 tk2 hd2 hC2 F₂ N₂
  dsimp only
  clear key
  k_steps
  have key := small_ok w ((bx, lstO [.int A2 s1', .int bB s2', .int C2 s3'] m2) :: (L' + 1 + 1 + 1 + 1 + 1, o5) :: (L' + 1 + 1 + 1 + 1, o4) :: (L' + 1 + 1 + 1, o3) :: (L' + 1 + 1, o2) :: (L' + 1, o1) :: R) k t6 (by omega)
  refine key _ _ _ _ _ _ _ _ _ _ _ _ _ _ _ _ _ (by assumption) (by assumption) (by assumption) (by assumption) (by assumption) rfl rfl ?_ ?_ ?_
  · first | exact room1 hd (by decide) | (show dp + 1 + _ < _; omega)
  · first | exact room2 hu (by decide) | (show un + 3 + _ < _; omega)
  refine SmallPost.out ?_
  intro sl sq sn1 sn2 sth a0 a1 amk tl3 h3 tk3 hs1 hs2 hs3 hsem hsm F₃ N₃ hfr3
  dsimp only
  clear key
  refine cps (fun cG => ∀ (R2 : Led), R2 = tl3 ++ R → cG) ?_ (fun ck => ck _ rfl)
  intro R2 hR2
  have cR2 : ∀ q ∈ R2, q.1 ≠ bx := ne_two hR2 (fun q hq => Nat.ne_of_gt (hfr3 (bx, _) (.head _) q hq)) hR
  have ce1 : ∀ q ∈ R2, q.1 ≠ L' + 1 := ne_two hR2 (fun q hq => Nat.ne_of_gt (hfr3 (L' + 1, o1) (.tail _ (.tail _ (.tail _ (.tail _ (.tail _ (.head _)))))) q hq)) fun q hq => Nat.ne_of_lt (Nat.lt_of_lt_of_le (l1.2.of q hq) (by repeat (first | exact Nat.le_refl _ | apply Nat.le_succ_of_le)))
  have ce2 : ∀ q ∈ R2, q.1 ≠ L' + 1 + 1 := ne_two hR2 (fun q hq => Nat.ne_of_gt (hfr3 (L' + 1 + 1, o2) (.tail _ (.tail _ (.tail _ (.tail _ (.head _))))) q hq)) fun q hq => Nat.ne_of_lt (Nat.lt_of_lt_of_le (l1.2.of q hq) (by repeat (first | exact Nat.le_refl _ | apply Nat.le_succ_of_le)))
  have ce3 : ∀ q ∈ R2, q.1 ≠ L' + 1 + 1 + 1 := ne_two hR2 (fun q hq => Nat.ne_of_gt (hfr3 (L' + 1 + 1 + 1, o3) (.tail _ (.tail _ (.tail _ (.head _)))) q hq)) fun q hq => Nat.ne_of_lt (Nat.lt_of_lt_of_le (l1.2.of q hq) (by repeat (first | exact Nat.le_refl _ | apply Nat.le_succ_of_le)))
  have ce4 : ∀ q ∈ R2, q.1 ≠ L' + 1 + 1 + 1 + 1 := ne_two hR2 (fun q hq => Nat.ne_of_gt (hfr3 (L' + 1 + 1 + 1 + 1, o4) (.tail _ (.tail _ (.head _))) q hq)) fun q hq => Nat.ne_of_lt (Nat.lt_of_lt_of_le (l1.2.of q hq) (by repeat (first | exact Nat.le_refl _ | apply Nat.le_succ_of_le)))
  have ce5 : ∀ q ∈ R2, q.1 ≠ L' + 1 + 1 + 1 + 1 + 1 := ne_two hR2 (fun q hq => Nat.ne_of_gt (hfr3 (L' + 1 + 1 + 1 + 1 + 1, o5) (.tail _ (.head _)) q hq)) fun q hq => Nat.ne_of_lt (Nat.lt_of_lt_of_le (l1.2.of q hq) (by repeat (first | exact Nat.le_refl _ | apply Nat.le_succ_of_le)))
  have hm3 : ∀ q ∈ tl3, q ∈ R2 := fun q hq => hR2 ▸ List.mem_append_left _ hq
  have hmR : ∀ q ∈ R, q ∈ R2 := fun q hq => hR2 ▸ List.mem_append_right _ hq
  have N₄ := News.sub (l' := (bx, lstO [.int A2 s1', .int bB s2', .int C2 s3'] m2) :: (L' + 1 + 1 + 1 + 1 + 1, o5) :: (L' + 1 + 1 + 1 + 1, o4) :: (L' + 1 + 1 + 1, o3) :: (L' + 1 + 1, o2) :: (L' + 1, o1) :: R2) N₃ (by rw [hR2]; array_get_dec)
  clear N₃
  k_steps
  have key := fun t4 => take_ok w ((L' + 1 + 1 + 1 + 1 + 1, o5) :: (L' + 1 + 1 + 1 + 1, o4) :: (L' + 1 + 1 + 1, o3) :: (L' + 1 + 1, o2) :: (L' + 1, o1) :: R2) bx A2 bB C2 4 s1' s2' s3' t4 m2 (by decide) (by decide) hB ⟨hC2.1, ar_top (ar_up hC1.2 hC2.2) hC.2 (by decide)⟩ (cbx R2 cR2)
  refine key _ _ _ _ _ _ _ _ _ _ _ _ _ _ _ _ _ _ (by assumption) (by assumption) (by assumption) (by assumption) (by assumption) rfl rfl ?_ ?_ ?_
  · first | exact room1 hd (by decide) | (show dp + 1 + _ < _; omega)
  · first | exact room2 hu (by decide) | (show un + 3 + _ < _; omega)
  refine TakePost.outN ?_
  intro form t7 A3 C3 s1'' s2'' s3'' m3 h5 tk5 hd3 hC3 F₅ N₅
  dsimp only
  clear key
  k_steps
  (rename News g' L' _ (_ :: _ :: _ :: _ :: (bx, _) :: _) => kN)
  (rename _ ∧ _ ∧ _ ∧ _ ∧ _ ∧ _ ∧ _ ∧ AllLt _ R2 => kT1)
  (rename _ ∧ _ ∧ _ ∧ _ ∧ _ ∧ _ ∧ _ ∧ _ ∧ AllLt _ R2 => kT2)
  rename_i o1' _ T1 _ T2 _ Lx _ _ _
  refine cps (fun cG => ∀ (e0 : Addr × Obj), News g' L' _ ((Lx, lstO [.ref T1, .ref T2] 0) :: (T2, tupO [.ref pi, .ref sl] 0) :: (T1, tupO [.ref sl, .ref pi] 0) :: e0 :: (bx, lstO [.int A3 s1'', .int bB s2'', .int C3 s3''] m3) :: (L' + 1 + 1 + 1 + 1 + 1, o5) :: (L' + 1 + 1 + 1 + 1, o4) :: (L' + 1 + 1 + 1, o3) :: (L' + 1 + 1, o2) :: (L' + 1, o1') :: R2) → o1'.data = .cell (some (.int (form : Int) t7)) → (e0.1 < T1 ∧ bx < T1 ∧ L' + 1 + 1 + 1 + 1 + 1 < T1 ∧ L' + 1 + 1 + 1 + 1 < T1 ∧ L' + 1 + 1 + 1 < T1 ∧ L' + 1 + 1 < T1 ∧ L' + 1 < T1 ∧ AllLt T1 R2) → (T1 < T2 ∧ e0.1 < T2 ∧ bx < T2 ∧ L' + 1 + 1 + 1 + 1 + 1 < T2 ∧ L' + 1 + 1 + 1 + 1 < T2 ∧ L' + 1 + 1 + 1 < T2 ∧ L' + 1 + 1 < T2 ∧ L' + 1 < T2 ∧ AllLt T2 R2) → cG) ?_ (fun ck => ck _ kN (by assumption) kT1 kT2)
  intro e0 nN do1 kT1 kT2
  clear kN
  refine cps (fun cG => ∀ (R3 : Led), R3 = (T2, tupO [.ref pi, .ref sl] 0) :: (T1, tupO [.ref sl, .ref pi] 0) :: R2 → cG) ?_ (fun ck => ck _ rfl)
  intro R3 hR3
  have hm4 : ∀ q ∈ R2, q ∈ R3 := fun q hq => hR3 ▸ .tail _ (.tail _ hq)
  have cf1 : ∀ q ∈ R3, q.1 ≠ L' + 1 := by
    rw [hR3]
    exact List.forall_mem_cons.mpr ⟨Nat.ne_of_gt kT2.2.2.2.2.2.2.2.1, List.forall_mem_cons.mpr ⟨Nat.ne_of_gt kT1.2.2.2.2.2.2.1, ce1⟩⟩
  have cf2 : ∀ q ∈ R3, q.1 ≠ L' + 1 + 1 := by
    rw [hR3]
    exact List.forall_mem_cons.mpr ⟨Nat.ne_of_gt kT2.2.2.2.2.2.2.1, List.forall_mem_cons.mpr ⟨Nat.ne_of_gt kT1.2.2.2.2.2.1, ce2⟩⟩
  have cf3 : ∀ q ∈ R3, q.1 ≠ L' + 1 + 1 + 1 := by
    rw [hR3]
    exact List.forall_mem_cons.mpr ⟨Nat.ne_of_gt kT2.2.2.2.2.2.1, List.forall_mem_cons.mpr ⟨Nat.ne_of_gt kT1.2.2.2.2.1, ce3⟩⟩
  have cf4 : ∀ q ∈ R3, q.1 ≠ L' + 1 + 1 + 1 + 1 := by
    rw [hR3]
    exact List.forall_mem_cons.mpr ⟨Nat.ne_of_gt kT2.2.2.2.2.1, List.forall_mem_cons.mpr ⟨Nat.ne_of_gt kT1.2.2.2.1, ce4⟩⟩
  have cf5 : ∀ q ∈ R3, q.1 ≠ L' + 1 + 1 + 1 + 1 + 1 := by
    rw [hR3]
    exact List.forall_mem_cons.mpr ⟨Nat.ne_of_gt kT2.2.2.2.1, List.forall_mem_cons.mpr ⟨Nat.ne_of_gt kT1.2.2.1, ce5⟩⟩
  have cR3 : ∀ q ∈ R3, q.1 ≠ bx := by
    rw [hR3]
    exact List.forall_mem_cons.mpr ⟨Nat.ne_of_gt kT2.2.2.1, List.forall_mem_cons.mpr ⟨Nat.ne_of_gt kT1.2.1, cR2⟩⟩
  unfold Stop
  refine item_two nN (.head _) hd1 ?_ (by with_unfolding_all rfl)
  intro T hT
  have nN2 := News.sub (l' := (bx, lstO [.int A3 s1'', .int bB s2'', .int C3 s3''] m3) :: (L' + 1 + 1 + 1 + 1 + 1, o5) :: (L' + 1 + 1 + 1 + 1, o4) :: (L' + 1 + 1 + 1, o3) :: (L' + 1 + 1, o2) :: (L' + 1, o1') :: R3) nN (by rw [hR3]; array_get_dec)
  clear nN
  refine cps (fun cG => ∀ (R3' : Led), R3' = (T2, tupO [.ref pi, .ref sl] 0) :: (T1, tupO [.ref sl, .ref pi] 0) :: (tl3 ++ R0) → cG) ?_ (fun ck => ck _ rfl)
  intro R3' hR3'
  have hm0 : ∀ q ∈ R3', q ∈ R3 := by
    rw [hR3, hR2]
    exact all_eq hR3' (sub_cons (.head _) (sub_cons (.tail _ (.head _)) (all_led (fun q h => .tail _ (.tail _ (List.mem_append_left _ h))) fun q h => .tail _ (.tail _ (List.mem_append_right _ (h0 q h))))))
  have hpi' : PcIn w R3' (.ref pi) th i0 i1 imk := hpi.mono fun q hq => hR3' ▸ .tail _ (.tail _ (List.mem_append_right _ hq))
  have hps' : PcIn w R3' (.ref sl) sth a0 a1 amk := PcIn.mono (fun q hq => hR3' ▸ .tail _ (.tail _ (List.mem_append_left _ hq))) ⟨sl, sq, sn1, sn2, rfl, hs1, hs2, hs3⟩
  have pick : ∀ cG : Prop, (∀ pt pb tth bth u0 u1 umk v0 v1 vmk side, (T, tupO [.ref pt, .ref pb] 0) ∈ R3 → PcIn w R3' (.ref pt) tth u0 u1 umk → PcIn w R3' (.ref pb) bth v0 v1 vmk → PcSem tth u0 u1 umk → PcSem bth v0 v1 vmk → d = (match side with | true => 1 | false => 0) → (∀ th' a, Wrap form tth bth th' → th'.val = .ref a → Pc th' (⟨a, side, amk, lOf form u0 u1 umk v0 v1 vmk false, lOf form u0 u1 umk v0 v1 vmk true⟩ :: ls)) → cG) → cG := by
    intro cG ck
    rcases hT with ⟨rfl, rfl⟩ | ⟨rfl, rfl⟩
    · exact ck _ _ _ _ _ _ _ _ _ _ false (hR3 ▸ .tail _ (.head _)) hps' hpi' hsem hi rfl (fun th' a h1 h2 => wrap_pc0 hsem hsm hi hp h1 h2)
    · exact ck _ _ _ _ _ _ _ _ _ _ true (hR3 ▸ .head _) hpi' hps' hi hsem rfl (fun th' a h1 h2 => wrap_pc1 hsem hsm hi hp h1 h2)
  refine pick _ ?_
  clear pick
  intro pt pb tth bth u0 u1 umk v0 v1 vmk side hTm hpt hpb hts hbs hdd hwrap
  refine hpt.at ?_
  intro tq tn1 tn2 ht1 ht2 ht3
  refine hpb.at ?_
  intro bq bn1 bn2 hb1 hb2 hb3
  have ht1 := hm0 _ ht1
  have ht2 := hm0 _ ht2
  have hb1 := hm0 _ hb1
  have hb2 := hm0 _ hb2
  clear hT
  subst hdd
  k_steps
  (rename News g' L' _ ((_, tupO [.int 0 _, .int 1 _] _) :: _) => kN)
  (rename Fr g' L' _ _ => kF)
  refine SrcTu.intro rfl kF kN (.head _) (by rw [sizeLine_eq]; exact Nat.le_of_ble_eq_true rfl) ?_
  intro gg
  refine (?go : ∀ kk i ys, (i + kk = 2 ∧ ys = [Value.bool (rightOf false u0 u1 umk v0 v1), .bool (rightOf true u0 u1 umk v0 v1)].take i) → LCg.CompRest _ _ _ _ _ _ _ _ _ _ _ _ _ _ _ kk i ys _) _ _ _ ⟨rfl, rfl⟩
  intro kk
  induction kk with
  | zero =>
    rintro i ys ⟨hik, hys⟩
    refine LCg.CompRest.zero ?_
    obtain rfl : i = 2 := by omega
    subst hys
    k_steps
    (rename News g' L' _ ((_, tupO [.int 0 _, .int 1 _] _) :: _) => kN)
    (rename Fr g' L' _ _ => kF)
    rename_i Ea _ _ _ _ _ _ Z2 _ _
    have nN4 : News g' L' _ ((Z2, tupO [.int 0 _, .int 1 _] 0) :: (Ea, lstO [.bool (rightOf false u0 u1 umk v0 v1), .bool (rightOf true u0 u1 umk v0 v1)] 2) :: _) := kN
    refine SrcTu.intro rfl kF nN4 (.head _) (by rw [sizeLine_eq]; exact Nat.le_of_ble_eq_true rfl) ?_
    intro gg2
    refine (?go2 : ∀ kk i ys, (i + kk = 2 ∧ ys = [Value.bool (lOf form u0 u1 umk v0 v1 vmk false), .bool (lOf form u0 u1 umk v0 v1 vmk true)].take i) → LCg.CompRest _ _ _ _ _ _ _ _ _ _ _ _ _ _ _ kk i ys _) _ _ _ ⟨rfl, rfl⟩
    intro kk
    induction kk with
    | zero =>
      rintro i ys ⟨hik, hys⟩
      refine LCg.CompRest.zero ?_
      obtain rfl : i = 2 := by omega
      subst hys
      k_steps
      (rename News g' L' _ (_ :: _ :: (Ea, _) :: _ :: (bx, _) :: _) => kN2)
      (rename _ ∧ _ ∧ _ ∧ _ ∧ _ ∧ _ ∧ _ ∧ _ ∧ _ ∧ LCg.Off1 _ R3 => oLa)
      rename_i c2 _ _ c3 _ _ _ _ _ _ _ _ _ _ _ c4 _ _ _ _ _ La _ _ _ c5 _ _ _ _
      refine cps (fun cG => ∀ (e1 : Addr × Obj) (e2 : Addr × Obj), News g' L' _ ((La, lstO [.bool (lOf form u0 u1 umk v0 v1 vmk false), .bool (lOf form u0 u1 umk v0 v1 vmk true)] 2) :: e2 :: (Ea, lstO [.bool (rightOf false u0 u1 umk v0 v1), .bool (rightOf true u0 u1 umk v0 v1)] 2) :: e1 :: (bx, lstO [.int A3 s1'', .int bB s2'', .int C3 s3''] m3) :: (L' + 1 + 1 + 1 + 1 + 1, c5) :: (L' + 1 + 1 + 1 + 1, c4) :: (L' + 1 + 1 + 1, c3) :: (L' + 1 + 1, c2) :: (L' + 1, o1') :: R3) → c2.data = .cell (some (.ref pt)) → c3.data = .cell (some (.ref pb)) → c4.data = .cell (some (.ref Ea)) → c5.data = .cell (some (.ref La)) → bx ≠ La → LCg.Off1 La R3 → cG) ?_ (fun ck => ck _ _ kN2 (by assumption) (by assumption) (by assumption) (by assumption) oLa.2.2.2.1 oLa.2.2.2.2.2.2.2.2.2)
      intro e1 e2 nN5 dc2 dc3 dc4 dc5 bLa2 oLa2
      have nN6 := News.sub (l' := (La, lstO [.bool (lOf form u0 u1 umk v0 v1 vmk false), .bool (lOf form u0 u1 umk v0 v1 vmk true)] 2) :: (Ea, lstO [.bool (rightOf false u0 u1 umk v0 v1), .bool (rightOf true u0 u1 umk v0 v1)] 2) :: (bx, lstO [.int A3 s1'', .int bB s2'', .int C3 s3''] m3) :: (L' + 1 + 1 + 1 + 1 + 1, c5) :: (L' + 1 + 1 + 1 + 1, c4) :: (L' + 1 + 1 + 1, c3) :: (L' + 1 + 1, c2) :: (L' + 1, o1') :: R3) nN5 (by array_get_dec)
      clear nN5 kN2
      have key := fun (led : Led) (tk' : Tok) => node_ok w led R3' form tth bth tk' (by omega) ht3 hb3
      refine key _ _ _ _ _ _ _ _ _ _ _ _ _ _ _ _ _ _ _ (by assumption) (by assumption) (by assumption) nN6 (by assumption) rfl rfl ?_ ?_ ?_
      · first | exact room1 hd (by decide) | (show dp + 1 + _ < _; omega)
      · first | exact room2 hu (by decide) | (show un + 3 + _ < _; omega)
      refine NodePost.out ?_
      intro nth tl7 h7 tk7 hn1 hn2 F₇ N₇ hfr7
      dsimp only
      clear key nN6
      obtain ⟨nk, na, np, nis, rfl⟩ := wrap_node hn2
      dsimp only [Th.val]
      refine cps (fun cG => ∀ (R4 : Led), R4 = tl7 ++ R3 → cG) ?_ (fun ck => ck _ rfl)
      intro R4 hR4
      have hm5 : ∀ q ∈ R3, q ∈ R4 := fun q hq => hR4 ▸ List.mem_append_right _ hq
      have nN7 := News.sub (l' := (La, lstO [.bool (lOf form u0 u1 umk v0 v1 vmk false), .bool (lOf form u0 u1 umk v0 v1 vmk true)] 2) :: (Ea, lstO [.bool (rightOf false u0 u1 umk v0 v1), .bool (rightOf true u0 u1 umk v0 v1)] 2) :: (bx, lstO [.int A3 s1'', .int bB s2'', .int C3 s3''] m3) :: (L' + 1 + 1 + 1 + 1 + 1, c5) :: (L' + 1 + 1 + 1 + 1, c4) :: (L' + 1 + 1 + 1, c3) :: (L' + 1 + 1, c2) :: (L' + 1, o1') :: R4) N₇ (by rw [hR4]; array_get_dec)
      clear N₇
      have ht1 := hm5 _ ht1
      have hb1 := hm5 _ hb1
      have hs1 := hm5 _ (hm4 _ (hm3 _ hs1))
      k_steps
      (rename News g' L' _ ((_, tupO [.int 0 _, .int 1 _] _) :: _) => kN3)
      (rename Fr g' L' _ _ => kF3)
      refine SrcTu.intro rfl kF3 kN3 (.head _) (by rw [sizeLine_eq]; exact Nat.le_of_ble_eq_true rfl) ?_
      intro gg3
      refine (?go3 : ∀ kk i ys, (i + kk = 2 ∧ ys = [Value.bool (rOf form u0 u1 umk v0 v1 vmk false), .bool (rOf form u0 u1 umk v0 v1 vmk true)].take i) → LCg.CompRest _ _ _ _ _ _ _ _ _ _ _ _ _ _ _ kk i ys _) _ _ _ ⟨rfl, rfl⟩
      intro kk
      induction kk with
      | zero =>
        rintro i ys ⟨hik, hys⟩
        refine LCg.CompRest.zero ?_
        obtain rfl : i = 2 := by omega
        subst hys
        have hfin := hwrap _ na hn2 rfl
        have hsm3 := wrap_sem hts hbs hn2 rfl
        k_steps
        unfold Stop
        refine cut_val (.bool (umk || vmk)) ?_ ?_
        · cases umk <;> (k_steps; exact ⟨rfl, _, rfl⟩)
        · intro tkr
          k_steps
          (rename News h₀ L _ (_ :: _ :: _ :: _ :: _ :: (La, _) :: _) => kN4)
          (rename _ ∧ _ ∧ _ ∧ _ ∧ _ ∧ _ ∧ _ ∧ _ ∧ _ ∧ LCg.Off1 _ R4 => fRa)
          (rename _ ∧ _ ∧ _ ∧ _ ∧ _ ∧ _ ∧ _ ∧ _ ∧ _ ∧ _ ∧ AllLt _ R4 => fP)
          (rename _ ∧ _ ∧ _ ∧ _ ∧ _ ∧ _ ∧ _ ∧ _ ∧ _ ∧ _ ∧ _ ∧ AllLt _ R4 => fly)
          (rename _ ∧ _ ∧ _ ∧ _ ∧ _ ∧ _ ∧ _ ∧ _ ∧ _ ∧ _ ∧ _ ∧ _ ∧ AllLt _ R4 => frt)
          rename_i Ra _ _ P' _ _ ly _ rt _ _ _ _ _ _
          refine cps (fun cG => ∀ (z3 : Addr × Obj) (zE : Addr × Obj) (x5 : Addr × Obj) (x4 : Addr × Obj) (x3 : Addr × Obj) (x2 : Addr × Obj) (x1 : Addr × Obj) (ra : Bool) (rb : Bool) (km : Bool) (la0 : Bool) (la1 : Bool), News h₀ L _ ((rt, tupO [.ref P', .ref ly] 0) :: (ly, tupO [.ref na, .int (bitI side) t5, .bool amk, .ref La] 0) :: (P', lstO [.ref na, .ref Ra, .bool km] 0) :: (Ra, lstO [.bool ra, .bool rb] 2) :: z3 :: (La, lstO [.bool la0, .bool la1] 2) :: zE :: (bx, lstO [.int A3 s1'', .int bB s2'', .int C3 s3''] m3) :: x5 :: x4 :: x3 :: x2 :: x1 :: R4) → PcSem (Th.node nk na np nis) ra rb km → Pc (Th.node nk na np nis) (⟨na, side, amk, la0, la1⟩ :: ls) → (bx < rt ∧ AllLt rt R4) → (bx < ly ∧ AllLt ly R4) → (bx < P' ∧ AllLt P' R4) → (bx ≠ Ra ∧ LCg.Off1 Ra R4) → cG) ?_ (fun ck => ck _ _ _ _ _ _ _ _ _ _ _ _ kN4 hsm3 hfin ⟨frt.2.2.2.2.2.2.1, frt.2.2.2.2.2.2.2.2.2.2.2.2⟩ ⟨fly.2.2.2.2.2.1, fly.2.2.2.2.2.2.2.2.2.2.2⟩ ⟨fP.2.2.2.2.1, fP.2.2.2.2.2.2.2.2.2.2⟩ ⟨fRa.2.2.2.1, fRa.2.2.2.2.2.2.2.2.2⟩)
          intro z3 zE x5 x4 x3 x2 x1 ra rb km la0 la1 nNf hsmf hpf grt gly gP gRa
          refine hret _ [(bx, lstO [.int A3 s1'', .int bB s2'', .int C3 s3''] m3)] ((rt, tupO [.ref P', .ref ly] 0) :: (ly, tupO [.ref na, .int (bitI side) t5, .bool amk, .ref La] 0) :: (P', lstO [.ref na, .ref Ra, .bool km] 0) :: (Ra, lstO [.bool ra, .bool rb] 2) :: (La, lstO [.bool la0, .bool la1] 2) :: (tl7 ++ (T2, tupO [.ref pi, .ref sl] 0) :: (T1, tupO [.ref sl, .ref pi] 0) :: tl3)) _ _ (by assumption) (News.sub nNf (by rw [hR4, hR3, hR2]; array_get_dec)) ?_
            (RoundPost.mk A3 bB C3 s1'' s2'' s3'' m3 hB ⟨hC3.1, ar_up (ar_up hC1.2 hC2.2) hC3.2⟩ rt P' ly (.node nk na np nis) ra rb km ⟨na, side, amk, la0, la1⟩ Ra La 0 2 0 2 t5 (.head _) (.tail _ (.tail _ (.head _))) (.tail _ (.tail _ (.tail _ (.head _)))) (hn1.mono ?_) (.tail _ (.head _)) (.tail _ (.tail _ (.tail _ (.tail _ (.head _))))) hsmf hpf)
          · have hRR4 : ∀ q ∈ R, q ∈ R4 := fun q hq => hm5 _ (hm4 _ (hmR _ hq))
            refine all_cons ?_ fun q hq => ?_
            · exact all_cons (Nat.ne_of_lt grt.1) (all_cons (Nat.ne_of_lt gly.1) (all_cons (Nat.ne_of_lt gP.1) (all_cons gRa.1 (all_cons bLa2 (all_led (fun p hp => Nat.ne_of_lt (hfr7 (bx, _) (.tail _ (.tail _ (.head _))) p hp)) (all_cons (Nat.ne_of_lt kT2.2.2.1) (all_cons (Nat.ne_of_lt kT1.2.1) fun p hp => Nat.ne_of_lt (hfr3 (bx, _) (.head _) p hp))))))))
            · have hq : q ∈ R := hq
              have h4 := hRR4 q hq
              have h5 := hmR _ hq
              have h6 := hm4 _ h5
              exact all_cons (Nat.ne_of_lt (grt.2.of q h4)) (all_cons (Nat.ne_of_lt (gly.2.of q h4)) (all_cons (Nat.ne_of_lt (gP.2.of q h4)) (all_cons (off1_mem gRa.2 q h4) (all_cons (off1_mem oLa2 q h6) (all_led (fun p hp => Nat.ne_of_lt (hfr7 q (.tail _ (.tail _ (.tail _ (.tail _ (.tail _ (.tail _ (.tail _ (.tail _ h6)))))))) p hp))
                (all_cons (Nat.ne_of_lt (kT2.2.2.2.2.2.2.2.2.of q h5)) (all_cons (Nat.ne_of_lt (kT1.2.2.2.2.2.2.2.of q h5)) fun p hp => Nat.ne_of_lt (hfr3 q (.tail _ (.tail _ (.tail _ (.tail _ (.tail _ (.tail _ hq)))))) p hp))))))))
          · refine all_led (fun q hq => .tail _ (.tail _ (.tail _ (.tail _ (.tail _ (List.mem_append_left _ (List.mem_append_left _ hq))))))) (all_eq hR3' ?_)
            exact all_cons (.tail _ (.tail _ (.tail _ (.tail _ (.tail _ (List.mem_append_left _ (List.mem_append_right _ (.head _)))))))) (all_cons (.tail _ (.tail _ (.tail _ (.tail _ (.tail _ (List.mem_append_left _ (List.mem_append_right _ (.tail _ (.head _))))))))) (all_led (fun q hq => .tail _ (.tail _ (.tail _ (.tail _ (.tail _ (List.mem_append_left _ (List.mem_append_right _ (.tail _ (.tail _ hq)))))))))
              fun q hq => List.mem_append_right _ hq))
      | succ kk ih =>
        intro i ys hh0
        refine LCg.CompRest.succ ?_
        intro v I oI Cc oCc Dd mc hh tkk Ec hv
        revert hh0
        revert hv
        revert v
        revert i
        refine two_elim ?_
        intro kb zt hh0 hC hx Fc Nc off ne
        have hik := hh0.1
        have hys := hh0.2
        clear hh0
        cases kb
        all_goals
          k_steps
          · (rename rightOf _ _ _ _ _ _ = true => hr1)
            refine LCg.CompEnd.intro (by assumption) Nc _ (fun p hp => hp) off (.head _) (ih _ _ ⟨two_last hik, ?_⟩)
            rw [hys, ← r_early (form := form) (bmk := vmk) hr1]
            rfl
          · (rename rightOf _ _ _ _ _ _ = false => hr1)
            refine LCg.CompEnd.intro (by assumption) Nc _ (fun p hp => hp) off (.head _) (ih _ _ ⟨two_last hik, ?_⟩)
            rw [hys, ← r_late (form := form) (bmk := vmk) hr1]
            rfl
    | succ kk ih =>
      intro i ys hh0
      refine LCg.CompRest.succ ?_
      intro v I oI Cc oCc Dd mc hh tkk Ec hv
      revert hh0
      revert hv
      revert v
      revert i
      refine two_elim ?_
      intro kb zt hh0 hC hx Fc Nc off ne
      have hik := hh0.1
      have hys := hh0.2
      clear hh0
      cases kb
      · k_steps
        · (rename rightOf _ _ _ _ _ _ = true => hr1)
          refine LCg.CompEnd.intro (by assumption) Nc _ (fun p hp => hp) off (.head _) (ih _ _ ⟨two_last hik, ?_⟩)
          rw [hys, ← l_early (form := form) (bmk := vmk) hr1]
          rfl
        · (rename rightOf _ _ _ _ _ _ = false => hr1)
          (rename decide (form < 3) = true => hr2)
          refine right_ok w _ pb pt bq tq bth.val tth.val false v0 v1 vmk u0 u1 umk bn1 bn2 tn1 tn2 _ ?m1 ?m2 ?m3 ?m4 _ _ _ _ _ _ _ _ _ _ _ _ _ _ _ _ _ (by assumption) (by assumption) (by assumption) Nc (by assumption) rfl rfl ?_ ?_ ?_
          case m1 => k_mem
          case m2 => k_mem
          case m3 => k_mem
          case m4 => k_mem
          · first | exact room1 hd (by decide) | (show dp + 1 + _ < _; omega)
          · first | exact room2 hu (by decide) | (show un + 3 + _ < _; omega)
          refine out0 ?_
          intro h6 tk6 F₆ N₆
          dsimp only
          k_steps
          refine LCg.CompEnd.intro (by assumption) N₆ _ (fun p hp => hp) off (.head _) (ih _ _ ⟨two_last hik, ?_⟩)
          rw [hys, ← l_late (form := form) hr2 hr1]
          rfl
        · (rename decide (form < 3) = false => hr2)
          refine LCg.CompEnd.intro (by assumption) Nc _ (fun p hp => hp) off (.head _) (ih _ _ ⟨two_last hik, ?_⟩)
          rw [hys, ← l_form (t0 := u0) (t1 := u1) (tmk := umk) (b0 := v0) (b1 := v1) (bmk := vmk) (kb := false) hr2]
          rfl
      · k_steps
        · (rename rightOf _ _ _ _ _ _ = true => hr1)
          refine LCg.CompEnd.intro (by assumption) Nc _ (fun p hp => hp) off (.head _) (ih _ _ ⟨two_last hik, ?_⟩)
          rw [hys, ← l_early (form := form) (bmk := vmk) hr1]
          rfl
        · (rename rightOf _ _ _ _ _ _ = false => hr1)
          (rename decide (form < 3) = true => hr2)
          refine right_ok w _ pb pt bq tq bth.val tth.val true v0 v1 vmk u0 u1 umk bn1 bn2 tn1 tn2 _ ?m1 ?m2 ?m3 ?m4 _ _ _ _ _ _ _ _ _ _ _ _ _ _ _ _ _ (by assumption) (by assumption) (by assumption) Nc (by assumption) rfl rfl ?_ ?_ ?_
          case m1 => k_mem
          case m2 => k_mem
          case m3 => k_mem
          case m4 => k_mem
          · first | exact room1 hd (by decide) | (show dp + 1 + _ < _; omega)
          · first | exact room2 hu (by decide) | (show un + 3 + _ < _; omega)
          refine out0 ?_
          intro h6 tk6 F₆ N₆
          dsimp only
          k_steps
          refine LCg.CompEnd.intro (by assumption) N₆ _ (fun p hp => hp) off (.head _) (ih _ _ ⟨two_last hik, ?_⟩)
          rw [hys, ← l_late (form := form) hr2 hr1]
          rfl
        · (rename decide (form < 3) = false => hr2)
          refine LCg.CompEnd.intro (by assumption) Nc _ (fun p hp => hp) off (.head _) (ih _ _ ⟨two_last hik, ?_⟩)
          rw [hys, ← l_form (t0 := u0) (t1 := u1) (tmk := umk) (b0 := v0) (b1 := v1) (bmk := vmk) (kb := true) hr2]
          rfl
  | succ kk ih =>
    intro i ys hh0
    refine LCg.CompRest.succ ?_
    intro v I oI Cc oCc Dd mc hh tkk Ec hv
    revert hh0
    revert hv
    revert v
    revert i
    refine two_elim ?_
    intro kb zt hh0 hC hx Fc Nc off ne
    have hik := hh0.1
    have hys := hh0.2
    clear hh0
    k_steps
    refine right_ok w _ pt pb tq bq tth.val bth.val kb u0 u1 umk v0 v1 vmk tn1 tn2 bn1 bn2 _ ?m1 ?m2 ?m3 ?m4 _ _ _ _ _ _ _ _ _ _ _ _ _ _ _ _ _ (by assumption) (by assumption) (by assumption) Nc (by assumption) rfl rfl ?_ ?_ ?_
    case m1 => k_mem
    case m2 => k_mem
    case m3 => k_mem
    case m4 => k_mem
    · first | exact room1 hd (by decide) | (show dp + 1 + _ < _; omega)
    · first | exact room2 hu (by decide) | (show un + 3 + _ < _; omega)
    refine out0 ?_
    intro h6 tk6 F₆ N₆
    dsimp only
    k_steps
    refine LCg.CompEnd.intro (by assumption) N₆ _ (fun p hp => hp) off (.head _) (ih _ _ ⟨two_last hik, ?_⟩)
    rw [hys]
    cases kb <;> rfl

local macro_rules | `(tactic| walk_at "exec For Name Subscript cons nil") => `(tactic| walk_at "m for")
local macro_rules | `(tactic| walk_at "exec For Name Call cons nil") => `(tactic| walk_at "m for")
local macro_rules | `(tactic| walk_at "exec For Tuple Subscript cons nil") => `(tactic| walk_at "m fort")
inductive DuePost (ls : List Lyr) (r : Value) (M' tl : Led) : Prop
  | ex (h1 : M' = []) (l : _) (n : _) (h2 : r = .ref l) (h3 : (l, lstO ((dueL ls false).map Value.ref) n) ∈ tl)
theorem DuePost.out {h₀ : Heap} {L : Addr} {m : PySem.Str → Option Value} {R : Led} {W : Led → Prop} {G : Value → Heap → Nat → Prop} {ls : List Lyr}
    (k : ∀ l n tl h' tk', (l, lstO ((dueL ls false).map Value.ref) n) ∈ tl → Fr h₀ L h' m → News h₀ L h' (tl ++ R) → W tl → G (.ref l) h' tk') :
    ∀ r M' tl h' tk', Fr h₀ L h' m → News h₀ L h' (M' ++ (tl ++ R)) → W tl → DuePost ls r M' tl → G r h' tk' := by
  rintro _ _ tl h' tk' F N hw ⟨rfl, l, n, rfl, h1⟩
  exact k l n tl h' tk' h1 F N hw
inductive DuJ (R : Led) (ls : List Lyr) (f D : Addr) (vs : List Value) (i : Nat) (m : PySem.Str → Option Value) (nx : Led) : Prop
  | ex (b : Bool) (done : List Addr) (e : Nat) (tk : Tok) (h1 : m (Str.ofString "found") = some (.ref f)) (h2 : m (Str.ofString "known") = some (.int (match b with | true => 1 | false => 0) tk)) (h3 : nx = (D, lstO vs 0) :: (f, lstO (done.map Value.ref) e) :: R) (h4 : dueL ls false = done ++ dueL (ls.drop i) b) (h5 : done.length ≤ i)
theorem DuJ.elim {R : Led} {ls : List Lyr} {f D : Addr} {vs : List Value} {i : Nat} {m : PySem.Str → Option Value} {P : Led → Prop} (k : ∀ (b : Bool) (done : List Addr) (e : Nat) (tk : Tok), m (Str.ofString "found") = some (.ref f) → m (Str.ofString "known") = some (.int (match b with | true => 1 | false => 0) tk) → dueL ls false = done ++ dueL (ls.drop i) b → done.length ≤ i → P ((D, lstO vs 0) :: (f, lstO (done.map Value.ref) e) :: R)) : ∀ nx, DuJ R ls f D vs i m nx → P nx := by
  intro nx h
  obtain ⟨b, done, e, tk, h1, h2, rfl, h3, h4⟩ := h
  exact k b done e tk h1 h2 h3 h4
theorem due_step {ls : List Lyr} {i : Nat} {l : Lyr} {b : Bool} {done : List Addr} (h : dueL ls false = done ++ dueL (ls.drop i) b) (hdr : ls.drop i = l :: ls.drop (i + 1)) :
    dueL ls false = (done ++ (match l.late b with | true => [l.node] | false => [])) ++ dueL (ls.drop (i + 1)) (l.next b) := by
  rw [h, hdr]
  show done ++ ((match l.late b with | true => [l.node] | false => []) ++ dueL (ls.drop (i + 1)) (l.next b)) = _
  rw [List.append_assoc]
theorem due_off {f D I : Addr} {a a' o : Obj} {R : Led} (h : ∀ p ∈ (D, o) :: (f, a) :: R, p.1 ≠ I) : ∀ p ∈ (D, o) :: (f, a') :: R, p.1 ≠ I :=
  List.forall_mem_cons.mpr ⟨h _ (.head _), List.forall_mem_cons.mpr ⟨h (f, a) (.tail _ (.head _)), fun p hp => h p (.tail _ (.tail _ hp))⟩⟩
theorem due_ok (w : World) (R : Led) (la : Addr) (vs : List Value) (n : Nat) (ls : List Lyr) (hm : (la, lstO vs n) ∈ R) (hvs : LysIn R vs.reverse ls) (hlen : vs.length ≤ 100) :
    Cn w 398 [.ref la] 60 [] R (DuePost ls) := by
  unfold Cn; k_fill; intro dp un gd A₀ base h₀ outer env L m s pp loose mean mg mb Q B F X N T hf hk hd hu hret
  simp only [List.nil_append] at N
  k_dflt (refine' code_def ?k1 ?k2 ?k3 ?k4 ?k5 ?kA ?kF ?kK ?k6 ?k7 ?k8 ?k9 ?kB ?_ ?c2 ?c3 ?c4 ?c5; (case kA => exact rfl); (case kF => assumption); (case kK => assumption); (case k1 => k_asm); (case k2 => k_asm); (case k3 => k_asm); (case k4 => k_asm); (case k5 => k_asm); (case k6 => k_is); (case k7 => k_is); (case k8 => ktr_room); (case k9 => first | exact BindsTo.of_eq rfl | exact binds_K (by k_in) rfl (by k_is) rfl rfl rfl); (case c5 => decide); (case kB => exact locs rfl); (case c2 => exact rfl); (case c3 => exact rfl); (case c4 => exact rfl); k_whole; intro g' L' h' FG' F' N' B' X' T'; (try dsimp only); (try k_fold); (refine frame_name F' ?_); clear F'; intro mm' F' hfr')
  k_steps
  (rename News g' L' _ (_ :: _ :: _ :: R) => kN)
  (rename Fr g' L' _ _ => kF)
  (rename (∀ p ∈ R, p.1 < _) => l1)
  (rename _ ∧ _ ∧ AllLt _ R => l2)
  rename_i f _ _ _ _ _ _ _ _ _ D _
  refine cps (fun cG => ∀ (e0 : Addr × Obj) (m1 : PySem.Str → Option Value) t0, News g' L' _ ((D, lstO vs.reverse 0) :: e0 :: (f, lstO [] 0) :: R) → Fr g' L' _ m1 → (∀ p ∈ R, p.1 < f) → (e0.1 < D ∧ f < D ∧ AllLt D R) → m1 (Str.ofString "found") = some (.ref f) → m1 (Str.ofString "known") = some (.int 0 t0) → cG) ?_ (fun ck => ck _ _ _ kN kF l1 l2 (by tb_rel) (by tb_rel))
  intro e0 m1 t0 nN nF k1 k2 e1 e2
  clear kN kF l1 l2
  have hRf : ∀ p ∈ R, p.1 ≠ f := fun p hp => Nat.ne_of_lt (k1 p hp)
  have hRD : ∀ p ∈ R, p.1 ≠ D := fun p hp => Nat.ne_of_lt (k2.2.2.of p hp)
  have hfD : f ≠ D := Nat.ne_of_lt k2.2.1
  refine loopT_list (DuJ R ls f D vs.reverse) rfl (.head _) nF (News.sub nN (sub_cons (.head _) (sub_cons (.tail _ (.tail _ (.head _))) (sub_tail (sub_tail (sub_tail sub_same)))))) ⟨false, [], 0, t0, e1, e2, rfl, rfl, Nat.le_refl _⟩ ?_ ?_
  · clear nF nN e1 e2
    intro I i v m₁ news₁ s₁ oI hv hI1 hI2 hmem hJ0
    revert hI2 hmem
    revert hJ0
    revert news₁
    refine DuJ.elim ?_
    intro b done e tk hm1 hm2 hdue hdn hI2 hmem F₁ N₁
    have hi100 : i < 100 := by
      have := (List.getElem?_eq_some_iff.mp hv).1
      rw [List.length_reverse] at this
      exact Nat.lt_of_lt_of_le this hlen
    have hz1 : done.length ≤ 16777216 := Nat.le_trans hdn (Nat.le_of_lt (Nat.lt_trans hi100 (by decide)))
    have hz2 : (done.map Value.ref).length ≤ 16777216 := by rw [List.length_map]; exact hz1
    have hz3 : (done.map Value.ref).length < 1000000 := by rw [List.length_map]; exact Nat.lt_of_le_of_lt hdn (Nat.lt_trans hi100 (by decide))
    have hdn1 : done.length ≤ i + 1 := Nat.le_succ_of_le hdn
    obtain ⟨⟨node, side, own, b0, b1⟩, hdr, ly, lq, n1, n2, tk', rfl, hl1, hl2⟩ := hvs.get hv
    have hst := due_step hdue hdr
    have hfI : f ≠ I := hI2 _ (.tail _ (.head _))
    have hDI : D ≠ I := hI2 _ (.head _)
    clear hdue hdr
    have hk0 : (0 : Int) ≤ (match (generalizing := false) b with | true => 1 | false => 0) := by cases b <;> decide
    have hk1 : (match (generalizing := false) b with | true => 1 | false => 0 : Int) < 2 ^ 63 := by cases b <;> decide
    refine cps (fun cG => ∀ lb : Bool, [Value.bool b0, Value.bool b1][(match (generalizing := false) b with | true => 1 | false => 0 : Int).toNat]? = some (.bool lb) → dueL ls false = (done ++ (match lb with | true => [node] | false => [])) ++ dueL (ls.drop (i + 1)) (b || (own && ((!side) != lb))) → cG) ?_
      (fun ck => ck (Lyr.late ⟨node, side, own, b0, b1⟩ b) (by cases b <;> rfl) hst)
    intro lb hk2 hst
    dsimp only at hl1 hl2
    cases lb <;> cases side <;> cases own
    all_goals
      dsimp only at hst hl1
      k_steps
      first
        | exact SqEnd.intro (nx := (D, lstO vs.reverse 0) :: (f, lstO (done.map Value.ref) e) :: R) (by assumption) (by assumption) hI2 (.head _) ⟨b, done, e, _, by tb_rel, by tb_rel, rfl, by simpa using hst, by omega⟩
        | exact SqEnd.intro (nx := (D, lstO vs.reverse 0) :: (f, lstO (done.map Value.ref) e) :: R) (by assumption) (by assumption) hI2 (.head _) ⟨true, done, e, _, by tb_rel, by tb_rel, rfl, by simpa using hst, by omega⟩
        | (refine SqEnd.intro (nx := (D, lstO vs.reverse 0) :: (f, lstO ((done ++ [node]).map Value.ref) (e + 1)) :: R) (by assumption) ?_ (due_off hI2) (.head _) ⟨b, done ++ [node], e + 1, _, by tb_rel, by tb_rel, rfl, by simpa using hst, by simp; omega⟩
           (rename News g' L' _ ((I, oI) :: _) => kN)
           rw [List.map_append]
           first | exact kN | (simp only [List.push_toArray] at kN; exact kN))
        | (refine SqEnd.intro (nx := (D, lstO vs.reverse 0) :: (f, lstO ((done ++ [node]).map Value.ref) (e + 1)) :: R) (by assumption) ?_ (due_off hI2) (.head _) ⟨true, done ++ [node], e + 1, _, by tb_rel, by tb_rel, rfl, by simpa using hst, by simp; omega⟩
           (rename News g' L' _ ((I, oI) :: _) => kN)
           rw [List.map_append]
           first | exact kN | (simp only [List.push_toArray] at kN; exact kN))
  · clear nF nN e1 e2
    intro m₁ nx h tk hmem hJ0
    revert hmem
    revert hJ0
    revert nx
    refine DuJ.elim ?_
    intro b done e tk hm1 hm2 hdue hdn hmem F₁ N₁
    k_steps
    have hdr : ls.drop vs.reverse.length = [] := by rw [hvs.len]; exact List.drop_length ..
    rw [hdr] at hdue
    have hd2 : dueL ls false = done := by rw [hdue]; exact List.append_nil _
    refine hret _ [] [(D, _), (f, lstO (done.map Value.ref) e)] _ _ (by assumption) (by assumption) ?_ ⟨rfl, f, e, rfl, by rw [hd2]; exact .tail _ (.head _)⟩
    intro q hq p hp
    rcases List.mem_cons.mp hp with rfl | hp
    · exact hRD q hq
    · rw [List.mem_singleton.mp hp]; exact hRf q hq

/-- a contract as Cn, with a word on the heap ahead of the frame -/
noncomputable def Ch (w : World) (f : Addr) (args : List Value) (need : Nat) (M R : Led) (H : Heap → Prop) (Post : Value → Led → Led → Prop) : Prop :=
  ∀ (dp un : Nat) (gd : Option (List Code)) (A₀ : Around) (base h₀ : Heap) (outer : List Env) (env : Env) (L : Addr) (m : PySem.Str → Option Value) (s : Shared)
    (p : Program) (loose : List PySem.Str) (mean : ExcName → Option Value) (mg mb : PySem.Str → Option Value) (Q : Result → Shared → Prop),
    H h₀ → Below A₀ base outer h₀ → Fr h₀ L s.heap m → (hd.heap_39 w.params).In h₀ → News h₀ L s.heap (M ++ R) → Top p loose mean mg mb h₀ →
    env.frame = some L → env.scope.kind = .function → dp + need < recursionLimit → un + 8 * need < cLine →
    (∀ r M' tl h' tk', Fr h₀ L h' m → News h₀ L h' (M' ++ (tl ++ R)) → (∀ q ∈ M ++ R, ∀ p ∈ tl, q.1 ≠ p.1) → Post r M' tl →
      Q (.ok (.ret r)) { s with heap := h', toks := tk' }) →
    codeAny (model PySem.Challenge.rw_pq0485_01.row.prog w) (Ar dp un gd env outer) (.call (.ref f) ⟨args, []⟩) Q s
inductive BoxPost (r : Value) (M' tl : Led) : Prop
  | ex (h1 : M' = []) (bx : _) (A : _) (B : _) (t1 : _) (t2 : _) (t3 : _) (n : _) (h2 : r = .ref bx) (h3 : (bx, lstO [.int A t1, .int B t2, .int 0 t3] n) ∈ tl) (h4 : 0 ≤ B) (h5 : B < 1000003)
theorem BoxPost.out {h₀ : Heap} {L : Addr} {m : PySem.Str → Option Value} {R : Led} {W : Led → Prop} {G : Value → Heap → Nat → Prop}
    (k : ∀ bx A B t1 t2 t3 n tl h' tk', (bx, lstO [.int A t1, .int B t2, .int 0 t3] n) ∈ tl → 0 ≤ B → B < 1000003 → Fr h₀ L h' m → News h₀ L h' (tl ++ R) → W tl → G (.ref bx) h' tk') :
    ∀ r M' tl h' tk', Fr h₀ L h' m → News h₀ L h' (M' ++ (tl ++ R)) → W tl → BoxPost r M' tl → G r h' tk' := by
  rintro _ _ tl h' tk' F N hw ⟨rfl, bx, A, B, t1, t2, t3, n, rfl, h1, h2, h3⟩
  exact k bx A B t1 t2 t3 n tl h' tk' h1 h2 h3 F N hw
theorem box_ok (w : World) (R : Led) (sc : Addr) (ws : List Value) (ns : List Int) :
    Ch w 358 [.ref sc] 60 [] R (fun g => g.IsList sc ws.toArray ∧ IntsAre ws ns ∧ ws.toArray.size ≤ sizeLine) BoxPost := by
  unfold Ch
  k_fill
  intro dp un gd A₀ base h₀ outer env L m s pp loose mean mg mb Q ⟨hH1, hH2, hH3⟩ B F X N T hf hk hd hu hret
  simp only [List.nil_append] at N
  k_dflt (refine' code_def ?k1 ?k2 ?k3 ?k4 ?k5 ?kA ?kF ?kK ?k6 ?k7 ?k8 ?k9 ?kB ?_ ?c2 ?c3 ?c4 ?c5; (case kA => exact rfl); (case kF => assumption); (case kK => assumption); (case k1 => k_asm); (case k2 => k_asm); (case k3 => k_asm); (case k4 => k_asm); (case k5 => k_asm); (case k6 => k_is); (case k7 => k_is); (case k8 => ktr_room); (case k9 => first | exact BindsTo.of_eq rfl | exact binds_K (by k_in) rfl (by k_is) rfl rfl rfl); (case c5 => decide); (case kB => exact locs rfl); (case c2 => exact rfl); (case c3 => exact rfl); (case c4 => exact rfl); k_whole; intro g' L' h' FG' F' N' B' X' T'; (try dsimp only); (try k_fold); (refine frame_name F' ?_); clear F'; intro mm' F' hfr')
  have hH1 : g'.IsList sc ws.toArray := hH1.at fun o e => FG'.keep sc o e
  k_steps
  (rename (∀ p ∈ R, p.1 < _) => l1)
  (rename _ ∧ AllLt _ R => l2)
  refine hret _ [] [_, _] _ _ (by assumption) (by assumption) ?_ ⟨rfl, _, _, _, _, _, _, _, rfl, .head _, Int.fmod_nonneg_of_pos _ (by decide), Int.fmod_lt_of_pos _ (by decide)⟩
  intro q hq p hp
  rcases List.mem_cons.mp hp with rfl | hp
  · exact Nat.ne_of_lt (l2.2.of q hq)
  · rw [List.mem_singleton.mp hp]; exact Nat.ne_of_lt (l1 q hq)

section
variable {prog : Program} {w : World} {A : Around} {E : Value → Shared → Prop} {s : Shared} {env : Env} {h₀ : Heap} {x : PySem.Str} {body : List Stmt} {Q : Flow → Shared → Prop}
/-- the end of a turn over a range -/
inductive RnEnd (h₀ : Heap) (L I : Addr) (oI : Obj) (J : (PySem.Str → Option Value) → Led → Prop) (s₁ s₂ : Shared) : Prop
  | ex (h' : _) (tk : _) (m' : _) (nx : _) (h1 : s₂ = { s₁ with heap := h', toks := tk }) (h2 : Fr h₀ L h' m') (h3 : News h₀ L h' ((I, oI) :: nx)) (h4 : (∀ p ∈ nx, p.1 ≠ I)) (h5 : J m' nx)
theorem RnEnd.intro {L I : Addr} {oI : Obj} {J : (PySem.Str → Option Value) → Led → Prop} {s₁ : Shared} {h' : Heap} {tk : Nat} {m' : PySem.Str → Option Value} {nx : Led} (F : Fr h₀ L h' m') (N : News h₀ L h' ((I, oI) :: nx)) (h : ∀ p ∈ nx, p.1 ≠ I) (hj : J m' nx) :
    RnEnd h₀ L I oI J s₁ { s₁ with heap := h', toks := tk } := ⟨h', tk, m', nx, rfl, F, N, h, hj⟩
noncomputable def RnPost (h₀ : Heap) (L I : Addr) (oI : Obj) (J : (PySem.Str → Option Value) → Led → Prop) (s₁ : Shared) (Q : Flow → Shared → Prop) (f : Flow) (s₂ : Shared) : Prop :=
  match f with
  | .ret v => Q (.ret v) s₂
  | .brk => Q .next s₂
  | _ => RnEnd h₀ L I oI J s₁ s₂
theorem loop_rng {r : Addr} {a b : Int} {t u v : Tok} {cnt : Nat} {m₀ : PySem.Str → Option Value} {news : Led} (J : Nat → (PySem.Str → Option Value) → Led → Prop)
    (hh : A.handled = none) (hr : IsRange s.heap r a b 1 t u v) (hsm : Builtin.Range.small a b 1 = true) (hn : Builtin.Range.rangeSize a b 1 = ((cnt : Nat) : Int))
    (F : Fr h₀ env.locals s.heap m₀) (N : News h₀ env.locals s.heap news) (hj : J 0 m₀ news)
    (turn : ∀ I i t m₁ news₁ h tk oI, i < cnt → (∀ p ∈ news₁, p.1 ≠ I) → J i m₁ news₁ → Fr h₀ env.locals h (fun y => if y = x then some (.int (a + (i : Int) * 1) t) else m₁ y) → News h₀ env.locals h ((I, oI) :: news₁) →
      wpAny (model prog w) A (execs body env) (RnPost h₀ env.locals I oI (J (i + 1)) { s with heap := h, toks := tk } Q) E { s with heap := h, toks := tk })
    (done : ∀ m₁ nx h tk, J cnt m₁ nx → Fr h₀ env.locals h m₁ → News h₀ env.locals h nx → Q .next { s with heap := h, toks := tk }) :
    wpAny (model prog w) A (pyIter (.ref r)) (fun it s₂ => LoopAtV prog w A h₀ env x body Q E it s₂) E s := by
  refine wpAny_pyIter_range hr hsm ?_
  have W : Walks prog w A s.heap.objs.size [s.heap.objs.size] [s.heap.objs.size] cnt (fun i v => i < cnt ∧ ∃ t, v = .int (a + i * 1) t)
      (fun i h => IsRangeIter h s.heap.objs.size (a + (i : Nat) * 1) ((cnt : Int) - (i : Nat)) 1) := (Walks.range hh _ a 1 cnt).bound
  have hfr : ∀ p ∈ news, p.1 < s.heap.objs.size := fun p hp => Heap.lt_size (N p hp).1
  refine ex9 s.heap.objs.size _ _ _ _ _ m₀ news J ⟨rfl, W, ?_, ?_, ?_, ?_, F.push _, fun p hp => ⟨Heap.get?_push_of_some _ (N p hp).1, (N p hp).2⟩, hj, ?_, ?_⟩
  · intro hq
    exact Nat.ne_of_gt F.ns.lt (List.mem_singleton.mp hq).symm
  · intro b hb; rw [List.mem_singleton.mp hb]; exact next_is_new F
  · intro p hp hq; exact Nat.ne_of_lt (hfr p hp) (List.mem_singleton.mp hq)
  · show IsRangeIter _ _ _ _ _
    rw [hn]
    simpa using Heap.get?_push_size _ rfl
  · rintro i v m₁ news₁ s₁ own ⟨hh', tk', rfl⟩ hin hP hJ hoff hown _ hmem hst₁ F₁ N₁
    obtain ⟨oI, hoI⟩ : ∃ oI, hh'.get? s.heap.objs.size = some oI := ⟨_, hst₁⟩
    have hI0 : h₀.get? s.heap.objs.size = none := next_is_new F
    have hIo : (s.heap.objs.size, oI) ∈ own := hmem _ (.head _) hI0 oI hoI
    obtain ⟨hi, t, rfl⟩ := hP
    have hoff' : ∀ p ∈ news₁, p.1 ≠ s.heap.objs.size := fun p hp e => hoff p hp (by rw [e]; exact .head _)
    have N₂ : News h₀ env.locals hh' ((s.heap.objs.size, oI) :: news₁) := fun p hp => by
      rcases List.mem_cons.mp hp with rfl | hp
      · exact N₁ _ (List.mem_append_left _ hIo)
      · exact N₁ _ (List.mem_append_right _ hp)
    refine wpAny_mono (turn _ i t m₁ news₁ hh' tk' oI hi hoff' hJ F₁ N₂) (fun f s₃ p => ?_) fun _ _ e => e
    have fin : RnEnd h₀ env.locals s.heap.objs.size oI (J (i + 1)) { s with heap := hh', toks := tk' } s₃ → LoopStepU h₀ env.locals [s.heap.objs.size] own (J (i + 1)) { s with heap := hh', toks := tk' } .next s₃ := by
      rintro ⟨h', tk, m', nx, e, F', N', ha, hJ'⟩
      refine ⟨rfl, h', tk, m', nx, e, F', fun p hp => ?_, fun p hp hq => ha p hp (List.mem_singleton.mp hq), hJ'⟩
      rcases List.mem_append.mp hp with hp | hp
      · have hp1 := hown p hp
        have hp2 := (N₁ p (List.mem_append_left _ hp)).1
        have e1 := List.mem_singleton.mp hp1
        have : p = (s.heap.objs.size, oI) := by
          rcases p with ⟨a, b⟩
          simp only at e1 hp2
          subst e1
          rw [hoI] at hp2
          rw [Option.some.inj hp2]
        rw [this]; exact N' _ (.head _)
      · exact N' p (.tail _ hp)
    cases f with
    | ret v => exact .ret p
    | brk => exact .brk p
    | next => exact .next (fin p)
    | cont => exact .cont (fin p)
  · rintro h' tk m' news' F' N' _ hJ
    exact done m' news' h' tk hJ F' N'
end

theorem rng_stop (n : Nat) : ∃ cnt : Nat, (cnt = 1 ∨ cnt = 2) ∧ (1 + if ((n : Int)).fdiv 2 < 1 then ((n : Int)).fdiv 2 else 1) = (cnt : Int) := by
  have h0 : 0 ≤ ((n : Int)).fdiv 2 := Int.fdiv_nonneg (Int.natCast_nonneg n) (by decide)
  by_cases h : ((n : Int)).fdiv 2 < 1
  · rw [if_pos h]
    exact ⟨1, .inl rfl, by rw [Int.le_antisymm (Int.le_of_lt_add_one (show _ < (0 : Int) + 1 from h)) h0]; rfl⟩
  · rw [if_neg h]
    exact ⟨2, .inr rfl, rfl⟩
theorem rng_small {cnt : Nat} (h : cnt < 100) : Builtin.Range.small 0 (cnt : Int) 1 = true ∧ Builtin.Range.rangeSize 0 (cnt : Int) 1 = ((cnt : Nat) : Int) := by
  have : ∀ c : Fin 100, Builtin.Range.small 0 (c.val : Int) 1 = true ∧ Builtin.Range.rangeSize 0 (c.val : Int) 1 = ((c.val : Nat) : Int) := by decide +kernel
  exact this ⟨cnt, h⟩
inductive TurnJ (bx c1 c2 : Addr) (i : Nat) (m : PySem.Str → Option Value) (nx : Led) : Prop
  | ex (A : Int) (B : Int) (C : Int) (t1 : Tok) (t2 : Tok) (t3 : Tok) (n : Nat) (o1 : Obj) (o2 : Obj) (x1 : Option Value) (x2 : Option Value) (Z : Led) (h1 : m (Str.ofString "box") = some (.ref bx)) (h2 : nx = (bx, lstO [.int A t1, .int B t2, .int C t3] n) :: (c2, o2) :: (c1, o1) :: Z) (h3 : (0 ≤ B ∧ B < 1000003)) (h4 : (0 ≤ C ∧ C ≤ 1000 * (i : Int))) (h5 : o1.data = .cell x1) (h6 : o2.data = .cell x2) (h7 : ∀ q ∈ Z, q.1 ≠ bx ∧ q.1 ≠ c1 ∧ q.1 ≠ c2)
theorem TurnJ.mk {bx c1 c2 : Addr} {i : Nat} {m : PySem.Str → Option Value}  (A B C : Int) (t1 t2 t3 : Tok) (n : Nat) (o1 o2 : Obj) (x1 x2 : Option Value) (Z : Led) (h1 : m (Str.ofString "box") = some (.ref bx)) (h2 : (0 ≤ B ∧ B < 1000003)) (h3 : (0 ≤ C ∧ C ≤ 1000 * (i : Int))) (h4 : o1.data = .cell x1) (h5 : o2.data = .cell x2) (h6 : (∀ q ∈ Z, q.1 ≠ bx ∧ q.1 ≠ c1 ∧ q.1 ≠ c2)) : TurnJ bx c1 c2 i m ((bx, lstO [.int A t1, .int B t2, .int C t3] n) :: (c2, o2) :: (c1, o1) :: Z) := ⟨A, B, C, t1, t2, t3, n, o1, o2, x1, x2, Z, h1, rfl, h2, h3, h4, h5, h6⟩
theorem TurnJ.elim {bx c1 c2 : Addr} {i : Nat} {m : PySem.Str → Option Value} {P : Led → Prop} (k : ∀ (A B C : Int) (t1 t2 t3 : Tok) (n : Nat) (o1 o2 : Obj) (x1 x2 : Option Value) (Z : Led), m (Str.ofString "box") = some (.ref bx) → (0 ≤ B ∧ B < 1000003) → (0 ≤ C ∧ C ≤ 1000 * (i : Int)) → o1.data = .cell x1 → o2.data = .cell x2 → ((∀ q ∈ Z, q.1 ≠ bx ∧ q.1 ≠ c1 ∧ q.1 ≠ c2)) → P ((bx, lstO [.int A t1, .int B t2, .int C t3] n) :: (c2, o2) :: (c1, o1) :: Z)) : ∀ nx, TurnJ bx c1 c2 i m nx → P nx := by
  intro nx h
  obtain ⟨A, B, C, t1, t2, t3, n, o1, o2, x1, x2, Z, h1, rfl, h2, h3, h4, h5, h6⟩ := h
  exact k A B C t1 t2 t3 n o1 o2 x1 x2 Z h1 h2 h3 h4 h5 h6
theorem rng_in {h : Heap} {r : Addr} {n : Nat} {t u v : Tok} (H : IsRange h r 0 (1 + if ((n : Int)).fdiv 2 < 1 then ((n : Int)).fdiv 2 else 1) 1 t u v) : ∃ cnt : Nat, cnt < 3 ∧ IsRange h r 0 (cnt : Int) 1 t u v := by
  obtain ⟨cnt, h1, h2⟩ := rng_stop n
  rw [h2] at H
  exact ⟨cnt, h1.elim (fun e => e ▸ by decide) (fun e => e ▸ by decide), H⟩
theorem box_sub {h₀ h : Heap} {L bx : Addr} {tl X : Led} {o : Obj} {c2 c1 : Addr × Obj} (N : News h₀ L h (tl ++ c2 :: c1 :: X)) (hb : (bx, o) ∈ tl) : News h₀ L h [(bx, o), c2, c1] := by
  refine News.sub N fun p hp => ?_
  rcases List.mem_cons.mp hp with rfl | hp
  · exact List.mem_append_left _ hb
  · rcases List.mem_cons.mp hp with rfl | hp
    · exact List.mem_append_right _ (.head _)
    · rw [List.mem_singleton.mp hp]; exact List.mem_append_right _ (.tail _ (.head _))
inductive ManyJ (s : Shared) (h₀ : Heap) (L : Addr) (m : PySem.Str → Option Value) (bx : Addr) (B c : Int) (R : Led) (v : Value) (s' : Shared) : Prop
  | ex (h' : Heap) (tk : Nat) (A : Int) (C : Int) (t1 : Tok) (t2 : Tok) (t3 : Tok) (n : Nat) (M : Nat) (mt : Tok) (h1 : s' = { s with heap := h', toks := tk }) (h2 : Fr h₀ L h' m) (h3 : News h₀ L h' ((bx, lstO [.int A t1, .int B t2, .int C t3] n) :: R)) (h4 : v = .int (M : Int) mt) (h5 : M ≤ 22) (h6 : (0 ≤ C ∧ C ≤ c))
theorem ManyJ.intro {s : Shared} {h₀ h' : Heap} {L bx : Addr} {m : PySem.Str → Option Value} {A B C c d : Int} {t1 t2 t3 mt : Tok} {n tk : Nat} {R : Led} (F : Fr h₀ L h' m) (N : News h₀ L h' ((bx, lstO [.int A t1, .int B t2, .int C t3] n) :: R)) (h0 : 0 ≤ d ∧ d ≤ 22) (hC : 0 ≤ C ∧ C ≤ c) :
    ManyJ s h₀ L m bx B c R (.int d mt) { s with heap := h', toks := tk } := by
  obtain ⟨M, rfl⟩ := Int.eq_ofNat_of_zero_le h0.1
  exact ⟨h', tk, A, C, t1, t2, t3, n, M, mt, rfl, F, N, rfl, Int.ofNat_le.mp h0.2, hC⟩
theorem many_cut {prog : Program} {w : World} {A : Around} {x : Sem Value} {Q : Value → Shared → Prop} {E : Value → Shared → Prop} {s : Shared} {h₀ : Heap} {L bx : Addr} {m : PySem.Str → Option Value} {B c : Int} {R M : Led} (F : Fr h₀ L s.heap m) (N : News h₀ L s.heap (M ++ R))
    (h1 : wpAny (model prog w) A x (ManyJ s h₀ L m bx B c R) E s) (h2 : ∀ v s', ManyJ s h₀ L m bx B c R v s' → Q v s') : wpAny (model prog w) A x Q E s := wpAny_mono h1 h2 fun _ _ e => e
inductive SpotJ (w : World) (bx c1 c2 la : Addr) (o1 o2 : Obj) (c0 : Int) (e : Addr × Obj) (j : Nat) (m : PySem.Str → Option Value) (nx : Led) : Prop
  | ex (pi : Addr) (th : Th) (r0 : Bool) (r1 : Bool) (mk : Bool) (ls : List Lyr) (vs : List Value) (A : Int) (B : Int) (C : Int) (t1 : Tok) (t2 : Tok) (t3 : Tok) (n : Nat) (n2 : Nat) (Y : Led) (h1 : m (Str.ofString "box") = some (.ref bx)) (h2 : m (Str.ofString "piece1") = some (.ref pi)) (h3 : m (Str.ofString "layers") = some (.ref la)) (h4 : nx = (la, lstO vs n2) :: (bx, lstO [.int A t1, .int B t2, .int C t3] n) :: (c2, o2) :: (c1, o1) :: Y) (h5 : e ∈ Y) (h6 : (∀ q ∈ Y, q.1 ≠ la ∧ q.1 ≠ bx ∧ q.1 ≠ c1 ∧ q.1 ≠ c2)) (h7 : PcIn w Y (.ref pi) th r0 r1 mk) (h8 : PcSem th r0 r1 mk) (h9 : Pc th ls) (h10 : LysIn Y vs.reverse ls) (h11 : vs.length = j) (h12 : ls.length = j) (h13 : (0 ≤ B ∧ B < 1000003)) (h14 : (0 ≤ C ∧ C ≤ c0 + 3 * (j : Int)))
theorem SpotJ.mk {w : World} {bx c1 c2 la : Addr} {o1 o2 : Obj} {c0 : Int} {e : Addr × Obj} {j : Nat} {m : PySem.Str → Option Value}  (pi : Addr) (th : Th) (r0 r1 mk : Bool) (ls : List Lyr) (vs : List Value) (A B C : Int) (t1 t2 t3 : Tok) (n n2 : Nat) (Y : Led) (h1 : m (Str.ofString "box") = some (.ref bx)) (h2 : m (Str.ofString "piece1") = some (.ref pi)) (h3 : m (Str.ofString "layers") = some (.ref la)) (h4 : e ∈ Y) (h5 : (∀ q ∈ Y, q.1 ≠ la ∧ q.1 ≠ bx ∧ q.1 ≠ c1 ∧ q.1 ≠ c2)) (h6 : PcIn w Y (.ref pi) th r0 r1 mk) (h7 : PcSem th r0 r1 mk) (h8 : Pc th ls) (h9 : LysIn Y vs.reverse ls) (h10 : vs.length = j) (h11 : ls.length = j) (h12 : (0 ≤ B ∧ B < 1000003)) (h13 : (0 ≤ C ∧ C ≤ c0 + 3 * (j : Int))) : SpotJ w bx c1 c2 la o1 o2 c0 e j m ((la, lstO vs n2) :: (bx, lstO [.int A t1, .int B t2, .int C t3] n) :: (c2, o2) :: (c1, o1) :: Y) := ⟨pi, th, r0, r1, mk, ls, vs, A, B, C, t1, t2, t3, n, n2, Y, h1, h2, h3, rfl, h4, h5, h6, h7, h8, h9, h10, h11, h12, h13⟩
theorem SpotJ.elim {w : World} {bx c1 c2 la : Addr} {o1 o2 : Obj} {c0 : Int} {e : Addr × Obj} {j : Nat} {m : PySem.Str → Option Value} {P : Led → Prop} (k : ∀ (pi : Addr) (th : Th) (r0 r1 mk : Bool) (ls : List Lyr) (vs : List Value) (A B C : Int) (t1 t2 t3 : Tok) (n n2 : Nat) (Y : Led), m (Str.ofString "box") = some (.ref bx) → m (Str.ofString "piece1") = some (.ref pi) → m (Str.ofString "layers") = some (.ref la) → e ∈ Y → ((∀ q ∈ Y, q.1 ≠ la ∧ q.1 ≠ bx ∧ q.1 ≠ c1 ∧ q.1 ≠ c2)) → PcIn w Y (.ref pi) th r0 r1 mk → PcSem th r0 r1 mk → Pc th ls → LysIn Y vs.reverse ls → vs.length = j → ls.length = j → (0 ≤ B ∧ B < 1000003) → (0 ≤ C ∧ C ≤ c0 + 3 * (j : Int)) → P ((la, lstO vs n2) :: (bx, lstO [.int A t1, .int B t2, .int C t3] n) :: (c2, o2) :: (c1, o1) :: Y)) : ∀ nx, SpotJ w bx c1 c2 la o1 o2 c0 e j m nx → P nx := by
  intro nx h
  obtain ⟨pi, th, r0, r1, mk, ls, vs, A, B, C, t1, t2, t3, n, n2, Y, h1, h2, h3, rfl, h4, h5, h6, h7, h8, h9, h10, h11, h12, h13⟩ := h
  exact k pi th r0 r1 mk ls vs A B C t1 t2 t3 n n2 Y h1 h2 h3 h4 h5 h6 h7 h8 h9 h10 h11 h12 h13
theorem lys_snoc {R R' : Led} {v : Value} {vs : List Value} {l : Lyr} {ls : List Lyr} (hs : ∀ p ∈ R, p ∈ R') (h : LysIn R vs.reverse ls) (hv : LyIn R' v l) : LysIn R' (vs ++ [v]).reverse (l :: ls) := by
  rw [List.reverse_append]
  exact ⟨hv, h.mono hs⟩
theorem app_lst {h₀ h : Heap} {L la : Addr} {vs : List Value} {x : Value} {n : Nat} {X : Led} (N : News h₀ L h ((la, W.listOf (vs.toArray.push x) n) :: X)) : News h₀ L h ((la, lstO (vs ++ [x]) n) :: X) := by
  simp only [List.push_toArray] at N
  exact N
theorem dueL_len : ∀ (ls : List Lyr) (b : Bool), (dueL ls b).length ≤ ls.length
  | [], _ => Nat.le_refl _
  | l :: ls, b => by
    have := dueL_len ls (l.next b)
    unfold dueL
    cases l.late b with
    | true =>
      show ([l.node] ++ dueL ls (l.next b)).length ≤ _
      exact Nat.succ_le_succ this
    | false =>
      show ([] ++ dueL ls (l.next b)).length ≤ _
      exact Nat.le_succ_of_le this
theorem tab_ok {T : Nat → Option Th} {p n : Nat} (h : ∀ q nd, T q = some nd → p < q ∧ q ≤ p + n ∧ ThWf nd) (hn : p + n < 1000) : TabOk T := fun q nd hq => by
  have := h q nd hq
  exact ⟨Nat.lt_of_le_of_lt this.2.1 hn, this.2.2⟩
theorem ar_i {i cnt : Nat} (h1 : cnt < 3) (h2 : i < cnt) : i < 2 := Nat.lt_of_lt_of_le h2 (Nat.le_of_lt_succ h1)
theorem ar_i2 {i : Nat} (h : i < 2) : i = 0 ∨ i = 1 := match i, h with
  | 0, _ => .inl rfl
  | 1, _ => .inr rfl
theorem ar_C {i : Nat} {C : Int} (hi : i < 2) (h : C ≤ 1000 * (i : Int)) : C ≤ 1000 := Int.le_trans h (Int.mul_le_mul_of_nonneg_left (Int.ofNat_le.mpr (Nat.le_of_lt_succ hi)) (by decide) : 1000 * (i : Int) ≤ 1000 * ((1 : Nat) : Int))
theorem ar_C1 {i : Nat} {C D : Int} (hi : i < 2) (h : C ≤ 1000 * (i : Int)) (h' : D ≤ C + 1) : D < 100000 := Int.lt_of_le_of_lt (Int.le_trans h' (Int.add_le_add_right (ar_C hi h) 1)) (by decide)
theorem ar_3 {X C D F : Int} (h : C ≤ X) (h' : D ≤ C + 1) (h1 : F ≤ D + 1) : F ≤ X + 3 + 3 * ((0 : Nat) : Int) :=
  Int.le_trans h1 (Int.le_trans (Int.add_le_add_right (Int.le_trans h' (Int.add_le_add_right h 1)) 1) (Int.le_trans (Int.le_of_eq (Int.add_assoc X 1 1)) (Int.le_trans (Int.add_le_add_left (by decide) X) (Int.le_of_eq (Int.add_zero (X + 3)).symm))))
theorem ar_room {i j M : Nat} {C : Int} (hi : i < 2) (hM : M ≤ 22) (hj : j < M) (h : C ≤ 1000 * (i : Int) + 3 + 3 * (j : Int)) : C + 10 < 100000 :=
  Int.lt_of_le_of_lt (Int.add_le_add_right (Int.le_trans h (Int.add_le_add (Int.add_le_add_right (ar_C hi (Int.le_refl _)) 3) (Int.mul_le_mul_of_nonneg_left (Int.ofNat_le.mpr (Nat.le_of_lt_succ (Nat.lt_of_lt_of_le hj (Nat.le_succ_of_le hM)))) (by decide) : 3 * (j : Int) ≤ 3 * ((22 : Nat) : Int)))) 10) (by decide)
theorem ar_next {X C D : Int} {j : Nat} (h : C ≤ X + 3 * (j : Int)) (h' : D ≤ C + 3) : D ≤ X + 3 * ((j + 1 : Nat) : Int) :=
  Int.le_trans h' (Int.le_trans (Int.add_le_add_right h 3) (Int.le_of_eq ((Int.add_assoc X (3 * (j : Int)) 3).trans (congrArg (X + ·) (Int.mul_add 3 (j : Int) 1).symm))))
theorem ar_turn {i M : Nat} {C : Int} (hM : M ≤ 22) (h : C ≤ 1000 * (i : Int) + 3 + 3 * (M : Int)) : C ≤ 1000 * ((i + 1 : Nat) : Int) :=
  Int.le_trans h (Int.le_trans (Int.add_le_add_left (Int.mul_le_mul_of_nonneg_left (Int.ofNat_le.mpr hM) (by decide) : 3 * (M : Int) ≤ 3 * ((22 : Nat) : Int)) _) (Int.le_trans (Int.le_of_eq (Int.add_assoc (1000 * (i : Int)) 3 _)) (Int.le_trans (Int.add_le_add_left (by decide) _) (Int.le_of_eq (Int.mul_add 1000 (i : Int) 1).symm))))
theorem ar_sz {z l M : Nat} (hM : M ≤ 22) (hl : l = M) (h : z ≤ 3 + 7 * l) : 1 + z < 1000 := Nat.lt_of_le_of_lt (Nat.add_le_add_left (Nat.le_trans h (Nat.add_le_add_left (Nat.mul_le_mul_left 7 (hl ▸ hM : l ≤ 22)) 3)) 1) (by decide)
theorem ar_ht {z l M : Nat} (hM : M ≤ 22) (hl : l = M) (h : z ≤ 13 + 13 * l) : 7 + z + 80 ≤ 420 := Nat.le_trans (Nat.add_le_add_right (Nat.add_le_add_left (Nat.le_trans h (Nat.add_le_add_left (Nat.mul_le_mul_left 13 (hl ▸ hM : l ≤ 22)) 13)) 7) 80) (by decide)
theorem ar_100 {x l M : Nat} (hM : M ≤ 22) (hl : l = M) (h : x ≤ l) : x < 100 := Nat.lt_of_le_of_lt h (hl ▸ Nat.lt_of_le_of_lt hM (by decide))
theorem ar_pow {x : Nat} (h : x < 100) : (x : Int) < 2 ^ 63 := Int.ofNat_lt.mpr (Nat.lt_trans h (by decide) : x < 2 ^ 63)

local macro_rules | `(tactic| walk_at "eval IfExp") => `(tactic| (k_here; refine Stop.intro ?_))
local macro_rules | `(tactic| walk_at "pyIter ref") => `(tactic| (k_here; refine Stop.intro ?_))
local macro_rules | `(tactic| walk_at "CompSrcT") => `(tactic| (k_here; refine Stop.intro ?_))
theorem law_ok : PySem.Challenge.rw_pq0485_01.Holds := hd (by
  w_strict (k_go0; (all_goals try k_fold); k_steps
            refine box_ok _ _ _ _ _ _ _ _ _ _ _ _ _ _ _ _ _ _ _ _ _ _ ⟨by assumption, by assumption, by kmk_size⟩ (by assumption) (by assumption) (by assumption) (by assumption) (by assumption) rfl rfl ?_ ?_ ?_
            · decide
            · decide
            refine BoxPost.out ?_
            intro bx bA bB t1 t2 t3 bn tl h'' tk' hbx hB0 hB1 F₂ N₂ hfr
            dsimp only
            k_steps
            (rename Shared => s1)
            (rename World => w)
            (rename IsRange _ _ _ _ _ _ _ _ => kR)
            (rename Fr _ _ _ _ => kF)
            (rename News _ _ _ _ => kN)
            obtain ⟨cnt, hcnt, kR⟩ := rng_in kR
            have hb1 : bx ≠ s1.heap.objs.size + 1 := Ne.symm (hfr (_, _) (.tail _ (.head _)) _ hbx)
            have hb2 : bx ≠ s1.heap.objs.size + 1 + 1 := Ne.symm (hfr (_, _) (.head _) _ hbx)
            refine loop_rng (TurnJ bx (s1.heap.objs.size + 1) (s1.heap.objs.size + 1 + 1)) rfl kR (rng_small (Nat.lt_trans hcnt (by decide))).1 (rng_small (Nat.lt_trans hcnt (by decide))).2 kF (box_sub kN hbx) (TurnJ.mk bA bB 0 t1 t2 t3 bn _ _ _ _ [] (by tb_rel) ⟨hB0, hB1⟩ ⟨Int.le_refl _, Int.le_refl _⟩ (by assumption) (by assumption) (fun _ h => nomatch h)) ?_ ?_
            · intro I i t m₁ news₁ h tk oI hi hI hJ0
              revert hI
              revert hJ0
              revert news₁
              refine TurnJ.elim ?_
              intro A B C u1 u2 u3 n o1 o2 x1 x2 Z hm hB hC ho1 ho2 hZ hI F₁ N₁
              have hZR : ∀ q ∈ (I, oI) :: (s1.heap.objs.size + 1 + 1, o2) :: (s1.heap.objs.size + 1, o1) :: Z, q.1 ≠ bx :=
                List.forall_mem_cons.mpr ⟨Ne.symm (hI _ (.head _)), List.forall_mem_cons.mpr ⟨Ne.symm hb2, List.forall_mem_cons.mpr ⟨Ne.symm hb1, fun q hq => (hZ q hq).1⟩⟩⟩
              have N₃ : News s1.heap s1.heap.objs.size h ((bx, lstO [.int A u1, .int B u2, .int C u3] n) :: (I, oI) :: (s1.heap.objs.size + 1 + 1, o2) :: (s1.heap.objs.size + 1, o1) :: Z) := News.sub N₁ (by array_get_dec)
              clear N₁
              k_steps
              (rename Fr _ _ _ _ => kF)
              (rename News _ _ _ (_ :: (I, oI) :: _) => kN)
              have hi2 := ar_i hcnt hi
              refine many_cut (bx := bx) (B := B) (c := C + 1) (M := [_]) kF kN ?_ ?_
              · obtain rfl | rfl := ar_i2 hi2
                · refine IfExp_ ?_
                  k_steps
                  have key := fun t4 => take_ok w ((I, oI) :: (s1.heap.objs.size + 1 + 1, o2) :: (s1.heap.objs.size + 1, o1) :: Z) bx A B C 3 u1 u2 u3 t4 n (by decide) (by decide) hB ⟨hC.1, Int.lt_of_le_of_lt (ar_C hi2 hC.2) (by decide)⟩ hZR
                  refine key _ _ _ _ _ _ _ _ _ _ _ _ _ _ _ _ _ _ (by assumption) (by assumption) (by assumption) (by assumption) (by assumption) rfl rfl ?_ ?_ ?_
                  · decide
                  · decide
                  refine TakePost.out ?_
                  intro d t5 A1 C1 w1 w2 w3 n1 h1 tk1 hd1 hC1 F₄ N₄
                  dsimp only
                  clear key
                  k_steps
                  exact ManyJ.intro (by assumption) (by assumption) ⟨Int.add_nonneg (by decide) hd1.1, Int.le_trans (Int.add_le_add_left (Int.le_of_lt_add_one (show d < 2 + 1 from hd1.2)) 2) (by decide)⟩ hC1
                · refine IfExp_ ?_
                  k_steps
                  have key := fun t4 => take_ok w ((I, oI) :: (s1.heap.objs.size + 1 + 1, o2) :: (s1.heap.objs.size + 1, o1) :: Z) bx A B C 15 u1 u2 u3 t4 n (by decide) (by decide) hB ⟨hC.1, Int.lt_of_le_of_lt (ar_C hi2 hC.2) (by decide)⟩ hZR
                  refine key _ _ _ _ _ _ _ _ _ _ _ _ _ _ _ _ _ _ (by assumption) (by assumption) (by assumption) (by assumption) (by assumption) rfl rfl ?_ ?_ ?_
                  · decide
                  · decide
                  refine TakePost.out ?_
                  intro d t5 A1 C1 w1 w2 w3 n1 h1 tk1 hd1 hC1 F₄ N₄
                  dsimp only
                  clear key
                  k_steps
                  exact ManyJ.intro (by assumption) (by assumption) ⟨Int.add_nonneg (by decide) hd1.1, Int.add_le_add_left (Int.le_of_lt_add_one (show d < 14 + 1 from hd1.2)) 8⟩ hC1
              · rintro v s' ⟨h', tk', A', C', v1, v2, v3, n', M, mt, rfl, F₄, N₄, rfl, hM, hC'⟩
                k_steps
                have key := fun t4 => take_ok w ((I, oI) :: (s1.heap.objs.size + 1 + 1, o2) :: (s1.heap.objs.size + 1, o1) :: Z) bx A' B C' 4 v1 v2 v3 t4 n' (by decide) (by decide) hB ⟨hC'.1, ar_C1 hi2 hC.2 hC'.2⟩ hZR
                refine key _ _ _ _ _ _ _ _ _ _ _ _ _ _ _ _ _ _ (by assumption) (by assumption) (by assumption) (by assumption) (by assumption) rfl rfl ?_ ?_ ?_
                · decide
                · decide
                refine TakePost.outN ?_
                intro k t5 A1 C1 w1 w2 w3 n1 h1 tk1 hd1 hC1 F₅ N₅
                dsimp only
                clear key
                k_steps
                have key := small_ok w ((bx, lstO [.int A1 w1, .int B w2, .int C1 w3] n1) :: (I, oI) :: (s1.heap.objs.size + 1 + 1, o2) :: (s1.heap.objs.size + 1, o1) :: Z) k t5 (by assumption)
                refine key _ _ _ _ _ _ _ _ _ _ _ _ _ _ _ _ _ (by assumption) (by assumption) (by assumption) (by assumption) (by assumption) rfl rfl ?_ ?_ ?_
                · decide
                · decide
                refine SmallPost.out ?_
                intro sl sq sn1 sn2 sth a0 a1 amk tl3 h3 tk3 hs1 hs2 hs3 hsem hsm F₆ N₆ hfr3
                dsimp only
                clear key
                k_steps
                (rename IsRange _ _ _ _ _ _ _ _ => kR2)
                (rename Fr _ _ _ _ => kF2)
                (rename News _ _ _ (_ :: _ :: (tl3 ++ _)) => kN2)
                (rename (∀ p : Addr × Obj, p ∈ tl3 ++ _ → p.1 < _) => kl1)
                (rename _ ∧ AllLt _ (tl3 ++ _) => kl2)
                rename_i la _ _ _ _ _ _ _ _ _ _ _ _ _ _
                have kl1 : (∀ p : Addr × Obj, p ∈ tl3 ++ (bx, lstO [.int A1 w1, .int B w2, .int C1 w3] n1) :: (I, oI) :: (s1.heap.objs.size + 1 + 1, o2) :: (s1.heap.objs.size + 1, o1) :: Z → p.1 < la) := kl1
                have kl2 : True := trivial
                have kN2 : News s1.heap s1.heap.objs.size _ (_ :: (la, lstO [] 0) :: (tl3 ++ (bx, lstO [.int A1 w1, .int B w2, .int C1 w3] n1) :: (I, oI) :: (s1.heap.objs.size + 1 + 1, o2) :: (s1.heap.objs.size + 1, o1) :: Z)) := kN2
                have e3 : True := trivial
                have hla3 : ∀ q ∈ tl3, q.1 ≠ la := fun q hq => Nat.ne_of_lt (kl1 q (List.mem_append_left _ hq))
                have hlaI : I ≠ la := Nat.ne_of_lt (kl1 (I, oI) (List.mem_append_right _ (.tail _ (.head _))))
                have hlab : bx ≠ la := Nat.ne_of_lt (kl1 (bx, _) (List.mem_append_right _ (.head _)))
                have hla2 : s1.heap.objs.size + 1 + 1 ≠ la := Nat.ne_of_lt (kl1 (_, o2) (List.mem_append_right _ (.tail _ (.tail _ (.head _)))))
                have hla1 : s1.heap.objs.size + 1 ≠ la := Nat.ne_of_lt (kl1 (_, o1) (List.mem_append_right _ (.tail _ (.tail _ (.tail _ (.head _))))))
                have h3b : ∀ q ∈ tl3, q.1 ≠ bx := fun q hq => Nat.ne_of_gt (hfr3 (bx, _) (.head _) q hq)
                have h31 : ∀ q ∈ tl3, q.1 ≠ s1.heap.objs.size + 1 := fun q hq => Nat.ne_of_gt (hfr3 (_, o1) (.tail _ (.tail _ (.tail _ (.head _)))) q hq)
                have h32 : ∀ q ∈ tl3, q.1 ≠ s1.heap.objs.size + 1 + 1 := fun q hq => Nat.ne_of_gt (hfr3 (_, o2) (.tail _ (.tail _ (.head _))) q hq)
                have hI1 : I ≠ s1.heap.objs.size + 1 := Ne.symm (hI (_, o1) (.tail _ (.tail _ (.head _))))
                have hI2 : I ≠ s1.heap.objs.size + 1 + 1 := Ne.symm (hI (_, o2) (.tail _ (.head _)))
                have hIb : I ≠ bx := Ne.symm (hI (bx, _) (.head _))
                refine loop_rng (SpotJ w bx (s1.heap.objs.size + 1) (s1.heap.objs.size + 1 + 1) la o1 o2 (1000 * (i : Int) + 3) (I, oI)) rfl kR2 (rng_small (Nat.lt_of_le_of_lt hM (by decide))).1 (rng_small (Nat.lt_of_le_of_lt hM (by decide))).2 kF2 (News.sub kN2 ?s1) (SpotJ.mk sl sth a0 a1 amk [] [] A1 B C1 w1 w2 w3 n1 0 ((I, oI) :: tl3) (by tb_rel) (by tb_rel) (by tb_rel) (.head _) ?y1 ?p1 hsem (pc_small hsm) trivial rfl rfl hB ⟨hC1.1, ar_3 hC.2 hC'.2 hC1.2⟩) ?turn ?done
                case s1 =>
                  array_get_dec
                case y1 => exact List.forall_mem_cons.mpr ⟨⟨hlaI, hIb, hI1, hI2⟩, fun q hq => ⟨hla3 q hq, h3b q hq, h31 q hq, h32 q hq⟩⟩
                case p1 => exact PcIn.mono (fun q hq => .tail _ hq) ⟨sl, sq, sn1, sn2, rfl, hs1, hs2, hs3⟩
                case turn =>
                  clear kR2 kF2 kN2 kl1
                  intro I2 j t' m₁' news₁ h tk oI2 hj hJ2 hJ0
                  revert hJ2
                  revert hJ0
                  revert news₁
                  refine SpotJ.elim ?_
                  intro pi th r0 r1 mk ls vs A3 B3 C3 y1 y2 y3 n3 n4 Y e1 e2 e3 hIY hY hpi hps hpc hly hvl hll hB3 hC3 hJ2 F₇ N₇
                  have hR2 : ∀ q ∈ (I2, oI2) :: (la, lstO vs n4) :: (s1.heap.objs.size + 1 + 1, o2) :: (s1.heap.objs.size + 1, o1) :: Y, q.1 ≠ bx :=
                    List.forall_mem_cons.mpr ⟨Ne.symm (hJ2 (bx, _) (.tail _ (.head _))), List.forall_mem_cons.mpr ⟨Ne.symm hlab, List.forall_mem_cons.mpr ⟨Ne.symm hb2, List.forall_mem_cons.mpr ⟨Ne.symm hb1, fun q hq => (hY q hq).2.1⟩⟩⟩⟩
                  have N₈ := News.sub (l' := (bx, lstO [.int A3 y1, .int B3 y2, .int C3 y3] n3) :: (I2, oI2) :: (la, lstO vs n4) :: (s1.heap.objs.size + 1 + 1, o2) :: (s1.heap.objs.size + 1, o1) :: Y) N₇ (by array_get_dec)
                  clear N₇
                  k_steps
                  have key := round_ok w ((I2, oI2) :: (la, lstO vs n4) :: (s1.heap.objs.size + 1 + 1, o2) :: (s1.heap.objs.size + 1, o1) :: Y) Y (fun q hq => .tail _ (.tail _ (.tail _ (.tail _ hq)))) bx pi A3 B3 C3 y1 y2 y3 n3 th r0 r1 mk ls hB3 ⟨hC3.1, ar_room hi2 hM hj hC3.2⟩ hR2 hpi hps hpc
                  refine key _ _ _ _ _ _ _ _ _ _ _ _ _ _ _ _ _ (by assumption) (by assumption) (by assumption) (by assumption) (by assumption) rfl rfl ?_ ?_ ?_
                  · decide
                  · decide
                  refine RoundPost.out ?_
                  intro A4 B4 C4 z1 z2 z3 n5 rt p' ly th' s0' s1' mk' l tl9 h9 tk9 hB4 hC4 hrt hpin hlyin hsem' hpc' F₉ N₉ hfr9
                  dsimp only
                  clear key
                  refine cps (fun cG => ∀ (Y2 : Led), Y2 = tl9 ++ Y → cG) ?_ (fun ck => ck _ rfl)
                  intro Y2 hY2
                  have hYY : ∀ q ∈ Y, q ∈ Y2 := fun q hq => hY2 ▸ List.mem_append_right _ hq
                  have hrt2 : (rt, tupO [.ref p', .ref ly] 0) ∈ Y2 := hY2 ▸ List.mem_append_left _ hrt
                  rw [← hY2] at hpin hlyin
                  have hYf : ∀ q ∈ Y2, q.1 ≠ la ∧ q.1 ≠ bx ∧ q.1 ≠ s1.heap.objs.size + 1 ∧ q.1 ≠ s1.heap.objs.size + 1 + 1 := by
                    intro q hq
                    rw [hY2] at hq
                    rcases List.mem_append.mp hq with hq | hq
                    · exact ⟨Ne.symm (hfr9 (la, _) (.tail _ (.tail _ (.head _))) q hq), Ne.symm (hfr9 (bx, _) (.head _) q hq), Ne.symm (hfr9 (_, o1) (.tail _ (.tail _ (.tail _ (.tail _ (.head _))))) q hq), Ne.symm (hfr9 (_, o2) (.tail _ (.tail _ (.tail _ (.head _)))) q hq)⟩
                    · exact hY q hq
                  have hYI : ∀ q ∈ Y2, q.1 ≠ I2 := by
                    intro q hq
                    rw [hY2] at hq
                    rcases List.mem_append.mp hq with hq | hq
                    · exact Ne.symm (hfr9 (I2, _) (.tail _ (.head _)) q hq)
                    · exact hJ2 q (.tail _ (.tail _ (.tail _ (.tail _ hq))))
                  have hYla : ∀ q ∈ Y2, q.1 ≠ la := fun q hq => (hYf q hq).1
                  have hIla : la ≠ I2 := hJ2 (la, _) (.head _)
                  have hIbx : bx ≠ I2 := hJ2 (bx, _) (.tail _ (.head _))
                  have N₁₀ := News.sub (l' := (la, lstO vs n4) :: (bx, lstO [.int A4 z1, .int B4 z2, .int C4 z3] n5) :: (I2, oI2) :: (s1.heap.objs.size + 1 + 1, o2) :: (s1.heap.objs.size + 1, o1) :: Y2) N₉ (by rw [hY2]; array_get_dec)
                  clear N₉
                  k_steps
                  (rename Fr _ _ _ _ => kF3)
                  (rename News _ _ _ ((la, _) :: _) => kN3)
                  first | have kN4 := app_lst kN3 | have kN4 := kN3
                  refine RnEnd.intro (nx := (la, lstO (vs ++ [.ref ly]) (n4 + 1)) :: (bx, lstO [.int A4 z1, .int B4 z2, .int C4 z3] n5) :: (s1.heap.objs.size + 1 + 1, o2) :: (s1.heap.objs.size + 1, o1) :: Y2) kF3 (News.sub kN4 ?_) ?_
                    (SpotJ.mk p' th' s0' s1' mk' (l :: ls) (vs ++ [.ref ly]) A4 B4 C4 z1 z2 z3 n5 (n4 + 1) Y2 (by tb_rel) (by tb_rel) (by tb_rel) (hYY _ hIY) hYf hpin hsem' hpc' (lys_snoc hYY hly hlyin) (by simp [hvl]) (by simp [hll]) hB4 ⟨hC4.1, ar_next hC3.2 hC4.2⟩)
                  · array_get_dec
                  · exact List.forall_mem_cons.mpr ⟨hIla, List.forall_mem_cons.mpr ⟨hIbx, List.forall_mem_cons.mpr ⟨hJ2 (_, o2) (.tail _ (.tail _ (.head _))), List.forall_mem_cons.mpr ⟨hJ2 (_, o1) (.tail _ (.tail _ (.tail _ (.head _)))), hYI⟩⟩⟩⟩
                case done =>
                  clear kR2 kF2 kN2 kl1
                  intro m₁' nx h tk hJ0
                  revert hJ0
                  revert nx
                  refine SpotJ.elim ?_
                  intro pi th r0 r1 mk ls vs A3 B3 C3 y1 y2 y3 n3 n4 Y e1 e2 e3 hIY hY hpi hps hpc hly hvl hll hB3 hC3 F₇ N₇
                  obtain ⟨pl, pq, pn1, pn2, epi, hp1, hp2, hp3⟩ := hpi
                  cases epi
                  obtain ⟨nk, na, np, nis, rfl⟩ := hps.node
                  dsimp only [Th.val] at hp1
                  clear hfr hfr3 hla3 h3b h31 h32 hI hZ hZR hs1 hs2 hs3
                  k_steps
                  (rename NodeD w .seq _ _ => hD)
                  (rename News _ _ _ (_ :: _ :: _ :: _ :: (la, _) :: _) => kN5)
                  rename_i l5 _ _ D _ _ _ _ x d5 o5 _ _ _ _ _
                  have kN6 : News s1.heap s1.heap.objs.size _ ((x, instObj 147 d5) :: (d5, o5) :: (D, tupO [.ref l5] 0) :: (l5, lstO [.ref na] 0) :: (la, lstO vs n4) :: (bx, lstO [.int A3 y1, .int B3 y2, .int C3 y3] n3) :: (s1.heap.objs.size + 1 + 1, o2) :: (s1.heap.objs.size + 1, o1) :: Y) := kN5
                  have hD6 : NodeD w .seq D o5 := hD
                  obtain ⟨T6, hT1, hT2⟩ := hpc.cov 1
                  have hsz := hpc.sz
                  have hht := hpc.ht
                  have hin6 : ThIn w ((x, instObj 147 d5) :: (d5, o5) :: (D, tupO [.ref l5] 0) :: (l5, lstO [.ref na] 0) :: (la, lstO vs n4) :: (bx, lstO [.int A3 y1, .int B3 y2, .int C3 y3] n3) :: (s1.heap.objs.size + 1 + 1, o2) :: (s1.heap.objs.size + 1, o1) :: Y) (rowT x D l5 0 (.node nk na np nis)) :=
                    thin_row (.head _) (.tail _ (.head _)) hD6 (.tail _ (.tail _ (.head _))) (.tail _ (.tail _ (.tail _ (.head _)))) (hp3.mono fun q hq => .tail _ (.tail _ (.tail _ (.tail _ (.tail _ (.tail _ (.tail _ (.tail _ hq))))))))
                  have key := (late_ok w T6 (tab_ok hT2 (ar_sz hM hll hsz)) _ x D [.seq false l5 0 [.node nk na np nis]] hin6 (row_wf hps.wf) (cov_row hT1) (by rw [row_sz]; exact Nat.le_of_lt (ar_sz hM hll hsz))).more (c' := 420) (by rw [row_ht]; exact ar_ht hM hll hht)
                  refine key _ _ _ _ _ _ _ _ _ _ _ _ _ _ _ _ _ (by assumption) (by assumption) (by assumption) (by assumption) (by assumption) rfl rfl ?_ ?_ ?_
                  · decide
                  · decide
                  refine LatePost.out ?_
                  intro hl hn tlh h6 tk6 hhl F₈ N₈ hfr8
                  dsimp only
                  rw [row_run, hpc.late false] at hhl
                  clear key
                  have N₉ := News.sub (l' := (hl, lstO ((dueL ls false).map Value.ref) hn) :: (la, lstO vs n4) :: (bx, lstO [.int A3 y1, .int B3 y2, .int C3 y3] n3) :: (s1.heap.objs.size + 1 + 1, o2) :: (s1.heap.objs.size + 1, o1) :: Y) N₈ (by first | (infer_instance; done) | (revert hhl; array_get_dec))
                  clear N₈ kN6 kN5
                  k_steps
                  have key := due_ok w ((hl, lstO ((dueL ls false).map Value.ref) hn) :: (la, lstO vs n4) :: (bx, lstO [.int A3 y1, .int B3 y2, .int C3 y3] n3) :: (s1.heap.objs.size + 1 + 1, o2) :: (s1.heap.objs.size + 1, o1) :: Y) la vs n4 ls (.tail _ (.head _)) (hly.mono fun q hq => .tail _ (.tail _ (.tail _ (.tail _ (.tail _ hq))))) (hvl ▸ Nat.le_trans hM (by decide))
                  refine key _ _ _ _ _ _ _ _ _ _ _ _ _ _ _ _ _ (by assumption) (by assumption) (by assumption) (by assumption) (by assumption) rfl rfl ?_ ?_ ?_
                  · decide
                  · decide
                  refine DuePost.out ?_
                  intro dl dn tld h7 tk7 hdl F₁₀ N₁₀ hfr10
                  dsimp only
                  clear key
                  have hd1 : dl ≠ s1.heap.objs.size + 1 := Ne.symm (hfr10 (_, o1) (.tail _ (.tail _ (.tail _ (.tail _ (.head _))))) _ hdl)
                  have hd2 : dl ≠ s1.heap.objs.size + 1 + 1 := Ne.symm (hfr10 (_, o2) (.tail _ (.tail _ (.tail _ (.head _)))) _ hdl)
                  have hh1 : hl ≠ s1.heap.objs.size + 1 := Ne.symm (hfr8 (_, o1) (.tail _ (.tail _ (.tail _ (.tail _ (.tail _ (.tail _ (.tail _ (.head _)))))))) _ hhl)
                  have hh2 : hl ≠ s1.heap.objs.size + 1 + 1 := Ne.symm (hfr8 (_, o2) (.tail _ (.tail _ (.tail _ (.tail _ (.tail _ (.tail _ (.head _))))))) _ hhl)
                  have hlen := dueL_len ls false
                  refine cps (fun cG => ∀ xs, dueL ls false = xs → cG) ?_ (fun ck => ck _ rfl)
                  intro xs hxs
                  rw [hxs] at N₁₀ hdl hlen
                  have N₁₁ := News.sub (l' := (dl, lstO (xs.map Value.ref) dn) :: (hl, lstO (xs.map Value.ref) hn) :: (bx, lstO [.int A3 y1, .int B3 y2, .int C3 y3] n3) :: (s1.heap.objs.size + 1 + 1, o2) :: (s1.heap.objs.size + 1, o1) :: [(I, oI)]) N₁₀ (by first | (infer_instance; done) | (revert hdl hIY; array_get_dec))
                  clear N₁₀ N₉
                  have hx100 : xs.length < 100 := ar_100 hM hll (by assumption)
                  have hlx : (xs.map Value.ref).length < 1000000 := by rw [List.length_map]; exact Nat.lt_trans hx100 (by decide)
                  k_steps
                  unfold Stop
                  (rename IsRange _ _ _ _ _ _ _ _ => kR3)
                  (rename Fr _ _ _ _ => kF3)
                  (rename News _ _ _ (_ :: (dl, _) :: _) => kN7)
                  rw [List.length_map] at kR3
                  rename_i oh _ _ od _ _ _ _ _ _ _ _ _ _ _ _
                  have kN8 : News s1.heap s1.heap.objs.size _ ((dl, lstO (xs.map Value.ref) dn) :: (hl, lstO (xs.map Value.ref) hn) :: (bx, lstO [.int A3 y1, .int B3 y2, .int C3 y3] n3) :: (s1.heap.objs.size + 1 + 1, od) :: (s1.heap.objs.size + 1, oh) :: [(I, oI)]) := News.sub kN7 fun q hq => .tail _ hq
                  have hch : oh.data = .cell (some (.ref hl)) := by assumption
                  have hcd : od.data = .cell (some (.ref dl)) := by assumption
                  clear kN7
                  refine LCt.CompSrcT.range (n := xs.length) rfl kF3 kN8 kR3 (rng_small hx100).1 (rng_small hx100).2 (by rw [sizeLine_eq]; exact Nat.le_of_lt (Nat.lt_trans hx100 (by decide))) ?_
                  intro gg
                  refine (?go : ∀ kk j ys nw, (nw = (dl, lstO (xs.map Value.ref) dn) :: (hl, lstO (xs.map Value.ref) hn) :: (bx, lstO [.int A3 y1, .int B3 y2, .int C3 y3] n3) :: (s1.heap.objs.size + 1 + 1, od) :: (s1.heap.objs.size + 1, oh) :: [(I, oI)] ∧ ys = [] ∧ j + kk = xs.length) → LCt.CompRestT _ _ _ _ _ _ _ _ _ _ _ _ _ _ _ _ kk j ys nw) _ _ _ _ ⟨rfl, rfl, Nat.zero_add _⟩
                  intro kk
                  induction kk with
                  | zero =>
                    rintro j ys nw ⟨rfl, rfl, -⟩
                    refine LCt.CompRestT.zero ?_
                    k_steps
                    (rename Fr _ _ _ _ => kF9)
                    (rename News _ _ _ (_ :: _ :: (dl, _) :: _) => kN9)
                    refine RnEnd.intro (nx := (bx, lstO [.int A3 y1, .int B3 y2, .int C3 y3] n3) :: (s1.heap.objs.size + 1 + 1, od) :: (s1.heap.objs.size + 1, oh) :: []) kF9 (News.sub kN9 ?_) ?_ (TurnJ.mk A3 B3 C3 y1 y2 y3 n3 oh od _ _ [] (by tb_rel) hB3 ⟨hC3.1, ar_turn hM hC3.2⟩ hch hcd (fun _ h => nomatch h))
                    · array_get_dec
                    · exact List.forall_mem_cons.mpr ⟨Ne.symm hIb, List.forall_mem_cons.mpr ⟨Ne.symm hI2, List.forall_mem_cons.mpr ⟨Ne.symm hI1, fun _ h => nomatch h⟩⟩⟩
                  | succ kk ih =>
                    rintro j ys nw ⟨rfl, rfl, hjk⟩
                    refine LCt.CompRestT.succ ?_
                    intro v I3 oI3 Cc oCc Dd mc hh tkk Ec hv hC9 hx9 Fc Nc off ne
                    obtain ⟨t9, hv⟩ := hv
                    rw [Int.zero_add] at hv
                    subst hv
                    have hj : j < xs.length := hjk ▸ Nat.lt_add_of_pos_right (Nat.succ_pos kk)
                    have hj0 : (0 : Int) ≤ (j : Int) := Int.natCast_nonneg j
                    have hj63 : (j : Int) < 2 ^ 63 := ar_pow (Nat.lt_trans hj hx100)
                    have hxj : (xs.map Value.ref)[((j : Nat) : Int).toNat]? = some (.ref xs[j]) := by simp [hj]
                    k_steps
                    refine LCg.CompEnd.intro (by assumption) Nc _ (fun p hp => hp) off trivial (ih (j + 1) [] _ ⟨rfl, rfl, by omega⟩)
            · intro m₁ nx h tk hJ0
              revert hJ0
              revert nx
              refine TurnJ.elim ?_
              intro A B C u1 u2 u3 n o1 o2 x1 x2 Z hm hB hC ho1 ho2 hZ F₁ N₁
              k_steps))

end Mine
theorem PySem.Challenge.cw_pq0485_01_holds : PySem.Challenge.rw_pq0485_01.Holds :=
  Mine.law_ok
