import PyProof.Rows.All
import Wide.All
import OpenK.AllK
import Wide.FinOn
import PyProof.InstStoreFacts
import PySem.Challenge.RW_no0080_01
open PySem PySem.W PyProof.Rows
set_option compiler.extract_closed false
set_option rowWalk.seconds 0
set_option Elab.async false
set_option linter.unusedVariables false
set_option maxRecDepth 100000
set_option maxHeartbeats 40000000
namespace Mine
theorem itself : PySem.Manifest.find? = PySem.Manifest.find? := rfl
name_quick tw8075568018651887793 for PySem.Manifest.find? by itself
name_quick tw9909155848385497904 for PySem.Manifest.find? by itself
name_quick tw14979626087600564940 for PySem.Manifest.find? by itself
name_quick tw10672739274798769155 for PySem.Manifest.find? by itself
name_quick tw14056289421387845279 for PySem.Manifest.find? by itself
name_quick tw10253492065209306289 for PySem.Manifest.find? by itself
name_quick tw15748488997098860443 for PySem.Manifest.find? by itself
name_quick tw5381798951435451217 for PySem.Manifest.find? by itself
name_quick tw20863073609108064 for PySem.Manifest.find? by itself
name_quick tw10073347824450446311 for PySem.Manifest.find? by itself
name_quick tw16510406782170844458 for PySem.Manifest.find? by itself
name_quick tw11270796479367742343 for PySem.Manifest.find? by itself
name_quick tw8542242679196749389 for PySem.Manifest.find? by itself
name_quick tw5770868932273138760 for PySem.Manifest.find? by itself
name_quick tw14714103240675001986 for PySem.Manifest.find? by itself
name_quick tw282004115355043989 for PySem.Manifest.find? by itself
name_quick tw12813236842856870187 for PySem.Manifest.find? by itself
name_quick tw15450981722951097364 for PySem.Manifest.find? by itself
name_quick tw6936260988540860943 for PySem.Manifest.find? by itself
name_quick tw9691624938235723451 for PySem.Manifest.find? by itself
name_quick tw17828083071136270317 for PySem.Manifest.find? by itself
name_quick tw2611137233208623240 for PySem.Manifest.find? by itself
name_quick tw667198328695590252 for PySem.Manifest.find? by itself
name_quick tw13559156169165276386 for PySem.Manifest.find? by itself
name_quick tw10528696920762540405 for PySem.Manifest.find? by itself
name_quick tw12659028871203227004 for PySem.Manifest.find? by itself
name_quick tw7496433998918960881 for PySem.Manifest.find? by itself
name_quick tw4319705520415482375 for PySem.Manifest.find? by itself
name_quick tw16878481208292783804 for PySem.Manifest.find? by itself
name_quick tw17057272898397164401 for PySem.Manifest.find? by itself
name_quick tw1574873078441994576 for PySem.Manifest.find? by itself
name_quick tw3698559305507148144 for PySem.Manifest.find? by itself
name_quick tw3820604794100220378 for PySem.Manifest.find? by itself
name_quick tw5135500740108067664 for PySem.Manifest.find? by itself
name_quick tw5529568453561195837 for PySem.Manifest.find? by itself
name_quick tw2364824441312284604 for PySem.Manifest.find? by itself
name_quick tw17730448691065144110 for PySem.Manifest.find? by itself
name_quick tw11566699232636054958 for PySem.Manifest.find? by itself
name_quick tw6434138532213402376 for PySem.Manifest.find? by itself
name_quick tw3560238982266916124 for PySem.Manifest.find? by itself
name_quick tw8400853705098224536 for PySem.Manifest.find? by itself
name_quick tw13480552361792772618 for PySem.Manifest.find? by itself
name_quick tw8595292554425487202 for PySem.Manifest.find? by itself
name_quick tw912392155897948271 for PySem.Manifest.find? by itself
name_quick tw10996506086634736982 for PySem.Manifest.find? by itself
name_quick tw16979880578912567463 for PySem.Manifest.find? by itself
name_quick tw14326252917377295143 for PySem.Manifest.find? by itself
name_quick tw4407734736301137906 for PySem.Manifest.find? by itself
name_quick tw17111948838632640456 for PySem.Manifest.find? by itself
name_quick tw219737044198020058 for PySem.Manifest.find? by itself
name_quick tw2664551874359636763 for PySem.Manifest.find? by itself
name_quick tw8119918657739134586 for PySem.Manifest.find? by itself
name_quick tw1402947280878808549 for PySem.Manifest.find? by itself
name_quick tw6817277305950994716 for PySem.Manifest.find? by itself
name_quick tw16439824349840649037 for PySem.Manifest.find? by itself
name_quick tw16531745337717519161 for PySem.Manifest.find? by itself
name_quick tw932993149863042379 for PySem.Manifest.find? by itself
name_quick tw16296994325663420285 for PySem.Manifest.find? by itself
name_quick tw9759809726879904816 for PySem.Manifest.find? by itself
name_quick tw6929956602132211858 for PySem.Manifest.find? by itself
name_quick tw6711915476519705758 for PySem.Manifest.find? by itself
name_quick tw4090926877573551719 for PySem.Manifest.find? by itself
name_quick tw10346894026039390216 for PySem.Manifest.find? by itself
name_quick tw13145125596335152023 for PySem.Manifest.find? by itself
name_quick tw9594665118957945026 for PySem.Manifest.find? by itself
name_quick tw4011157648589011858 for PySem.Manifest.find? by itself
name_quick tw5882768191206486792 for PySem.Manifest.find? by itself
name_quick tw7323676302269181137 for PySem.Manifest.find? by itself
name_quick tw2719445374943340272 for PySem.Manifest.find? by itself
name_quick tw1962928258387122110 for PySem.Manifest.find? by itself
name_quick tw16846860572762119324 for PySem.Manifest.find? by itself
name_quick tw11994158751524154303 for PySem.Manifest.find? by itself
name_quick tw2670528217467546775 for PySem.Manifest.find? by itself
name_quick tw11985326045990495214 for PySem.Manifest.find? by itself
name_quick tw7392212959928792091 for PySem.Manifest.find? by itself
name_quick tw9862997608875712007 for PySem.Manifest.find? by itself
name_quick tw13607416678640721797 for PySem.Manifest.find? by itself
name_quick tw16548257151911338427 for PySem.Manifest.find? by itself
name_quick tw13759679279233594173 for PySem.Manifest.find? by itself
name_quick tw9285146279643344392 for PySem.Manifest.find? by itself
name_quick tw14834023430324568649 for PySem.Manifest.find? by itself
name_quick tw8537084889766193716 for PySem.Manifest.find? by itself
name_quick tw5978237884098788730 for PySem.Manifest.find? by itself
name_quick tw8693227569615203950 for PySem.Manifest.find? by itself
name_quick tw18340240734955500558 for PySem.Manifest.find? by itself
name_quick tw14073706353221006472 for PySem.Manifest.find? by itself
name_quick tw1291980286583624508 for PySem.Manifest.find? by itself
name_quick tw9787463984185863102 for PySem.Manifest.find? by itself
name_quick tw662354867322794072 for PySem.Manifest.find? by itself
name_quick tw5349121933718820234 for PySem.Manifest.find? by itself
name_quick tw11964429278604863157 for PySem.Manifest.find? by itself
name_quick tw15894407043143930727 for PySem.Manifest.find? by itself
name_quick tw3619232141914619222 for PySem.Manifest.find? by itself
name_quick tw17000458434675057986 for PySem.Manifest.find? by itself
name_quick tw8703263022893421829 for PySem.Manifest.find? by itself
name_quick tw14126943448341045398 for PySem.Manifest.find? by itself
name_quick tw11588390666370768167 for PySem.Manifest.find? by itself
name_quick tw3972328310683599613 for PySem.Manifest.find? by itself
name_quick tw17532440430192770315 for PySem.Manifest.find? by itself
name_quick tw17000155066101142889 for PySem.Manifest.find? by itself
name_quick tw7269565832213808900 for PySem.Manifest.find? by itself
name_quick tw10007627690174824804 for PySem.Manifest.find? by itself
name_quick tw6380047634161181297 for PySem.Manifest.find? by itself
name_quick tw8424611434330503625 for PySem.Manifest.find? by itself
name_quick tw10227693086864044499 for PySem.Manifest.find? by itself
name_quick tw8642067239939848140 for PySem.Manifest.find? by itself
name_quick tw16414604833108395602 for PySem.Manifest.find? by itself
name_quick tw5032809538720368765 for PySem.Manifest.find? by itself
name_quick tw14884601019740666482 for PySem.Manifest.find? by itself
name_quick tw4224760802259116069 for PySem.Manifest.find? by itself
name_quick tw12237943961548833269 for PySem.Manifest.find? by itself
name_quick tw43969757491396457 for PySem.Manifest.find? by itself
name_quick tw10938465397075749097 for PySem.Manifest.find? by itself
name_quick tw13789449189825218787 for PySem.Manifest.find? by itself
name_quick tw704327219915372674 for PySem.Manifest.find? by itself
name_quick tw16966814322356759819 for PySem.Manifest.find? by itself
name_quick tw15560500314895047343 for PySem.Manifest.find? by itself
name_quick tw7275051467321613617 for PySem.Manifest.find? by itself
name_quick tw4797165386629745026 for PySem.Manifest.find? by itself
name_quick tw18056578402003937789 for PySem.Manifest.find? by itself
name_quick tw18345786424863182364 for PySem.Manifest.find? by itself
name_quick tw2862820112641550484 for PySem.Manifest.find? by itself
name_quick tw9315938663221665524 for PySem.Manifest.find? by itself
name_quick tw4558998842232669794 for PySem.Manifest.find? by itself
name_quick tw2478078296215019888 for PySem.Manifest.find? by itself
name_quick tw9529234661008812162 for PySem.Manifest.find? by itself
name_quick tw16049961110935095269 for PySem.Manifest.find? by itself
name_quick tw15066959818950650227 for PySem.Manifest.find? by itself
name_quick tw15007238320947547705 for PySem.Manifest.find? by itself
name_quick tw1218959903707654005 for PySem.Manifest.find? by itself
name_quick tw15766043655864335149 for PySem.Manifest.find? by itself
name_quick tw12172078356533094185 for PySem.Manifest.find? by itself
name_quick tw7250012664060256230 for PySem.Manifest.find? by itself
name_quick tw2408619945344806742 for PySem.Manifest.find? by itself
name_quick tw13335737130258781183 for PySem.Manifest.find? by itself
name_quick tw5200128776193632040 for PySem.Manifest.find? by itself
name_quick tw11445135464325071761 for PySem.Manifest.find? by itself
name_quick tw5706481520468235054 for PySem.Manifest.find? by itself
name_quick tw4978915544186085027 for PySem.Manifest.find? by itself
name_quick tw4748654258956052638 for PySem.Manifest.find? by itself
name_quick tw18260038339965228139 for PySem.Manifest.find? by itself
name_quick tw1258299570235058372 for PySem.Manifest.find? by itself
name_quick tw11161088081135249708 for PySem.Manifest.find? by itself
name_quick tw4549333791460862111 for PySem.Manifest.find? by itself
name_quick tw7581352650102555174 for PySem.Manifest.find? by itself
name_quick tw460243522976405022 for PySem.Manifest.find? by itself
name_quick tw17164873540382356111 for PySem.Manifest.find? by itself
name_quick tw12635813782599140982 for PySem.Manifest.find? by itself
name_quick tw14433975572909055671 for PySem.Manifest.find? by itself
name_quick tw6019396324639902685 for PySem.Manifest.find? by itself
name_quick tw183835017167291270 for PySem.Manifest.find? by itself
name_quick tw17672482021469178181 for PySem.Manifest.find? by itself
name_quick tw1617757218408452269 for PySem.Manifest.find? by itself
name_quick tw4292500188555128830 for PySem.Manifest.find? by itself
name_quick tw11452132507678324671 for PySem.Manifest.find? by itself
name_quick tw14023627001141898710 for PySem.Manifest.find? by itself
name_quick tw11729385059970357855 for PySem.Manifest.find? by itself
name_quick tw5396446701170858492 for PySem.Manifest.find? by itself
name_quick tw387338674003428930 for PySem.Manifest.find? by itself
name_quick tw3094477031063562474 for PySem.Manifest.find? by itself
name_quick tw4679858250743294509 for PySem.Manifest.find? by itself
name_quick tw10833955939284561965 for PySem.Manifest.find? by itself
name_quick tw11625766737575182897 for PySem.Manifest.find? by itself
name_quick tw5076957145309523181 for PySem.Manifest.find? by itself
name_quick tw7299303143086499733 for PySem.Manifest.find? by itself
name_quick tw12233582284571471492 for PySem.Manifest.find? by itself
name_quick tw9931943479562821362 for PySem.Manifest.find? by itself
name_quick tw11788150170368784547 for PySem.Manifest.find? by itself
name_quick tw8579058602437062094 for PySem.Manifest.find? by itself
name_quick tw8860024209350480642 for PySem.Manifest.find? by itself
name_quick tw9011979029575296479 for PySem.Manifest.find? by itself
name_quick tw16350708796919097252 for PySem.Manifest.find? by itself
name_quick tw5268983451555188008 for PySem.Manifest.find? by itself
name_quick tw1503297043503765363 for PySem.Manifest.find? by itself
name_quick tw7276740287692124622 for PySem.Manifest.find? by itself
name_quick tw16643379632663270332 for PySem.Manifest.find? by itself
name_quick tw18211773271919218964 for PySem.Manifest.find? by itself
name_quick tw15263041282635125899 for PySem.Manifest.find? by itself
name_quick tw11939915149646268982 for PySem.Manifest.find? by itself
name_quick tw7745614565497352828 for PySem.Manifest.find? by itself
name_quick tw15663404670287596823 for PySem.Manifest.find? by itself
name_quick tw17988542015724977305 for PySem.Manifest.find? by itself
name_quick tw17497748084772794779 for PySem.Manifest.find? by itself
name_quick tw136631920214876835 for PySem.Manifest.find? by itself
name_quick tw1377046205977697930 for PySem.Manifest.find? by itself
name_quick tw14223099787259518943 for PySem.Manifest.find? by itself
name_quick tw8727135674562949291 for PySem.Manifest.find? by itself
name_quick tw18101931140130867144 for PySem.Manifest.find? by itself
name_quick tw13678640442995254988 for PySem.Manifest.find? by itself
name_quick tw16349804527192203551 for PySem.Manifest.find? by itself
name_quick tw1414301608579184545 for PySem.Manifest.find? by itself
name_quick tw13016732220969518872 for PySem.Manifest.find? by itself
name_quick tw8376441433122354887 for PySem.Manifest.find? by itself
name_quick tw7366216252297289730 for PySem.Manifest.find? by itself
name_quick tw1092655722715705105 for PySem.Manifest.find? by itself
name_quick tw392140993173905013 for PySem.Manifest.find? by itself
name_quick tw13512673800721320934 for PySem.Manifest.find? by itself
name_quick tw17730428716208468724 for PySem.Manifest.find? by itself
name_quick tw17100903815162463580 for PySem.Manifest.find? by itself
name_quick tw10010936943081839664 for PySem.Manifest.find? by itself
name_quick tw3976722010076183465 for PySem.Manifest.find? by itself
name_quick tw14386061602966655976 for PySem.Manifest.find? by itself
name_quick tw1355338860687761863 for PySem.Manifest.find? by itself
name_quick tw3282434896037501709 for PySem.Manifest.find? by itself
name_quick tw16593013826814733010 for PySem.Manifest.find? by itself
name_quick tw1537898542681612871 for PySem.Manifest.find? by itself
name_quick tw2627984346626558326 for PySem.Manifest.find? by itself
name_quick tw11317593695737139937 for PySem.Manifest.find? by itself
name_quick tw4527066259768149269 for PySem.Manifest.find? by itself
name_quick tw17018628822417861297 for PySem.Manifest.find? by itself
name_quick tw9407582987413476825 for PySem.Manifest.find? by itself
name_quick tw682011567655089306 for PySem.Manifest.find? by itself
name_quick tw4933834842325187142 for PySem.Manifest.find? by itself
name_quick tw13215998728584607739 for PySem.Manifest.find? by itself
name_quick tw3131671291697673992 for PySem.Manifest.find? by itself
name_quick tw4552823106982906706 for PySem.Manifest.find? by itself
name_quick tw13981391230805400906 for PySem.Manifest.find? by itself
name_quick tw17888162413812561239 for PySem.Manifest.find? by itself
name_quick tw16018607276475445134 for PySem.Manifest.find? by itself
name_quick tw17069979004554194336 for PySem.Manifest.find? by itself
name_quick tw9948023125614773506 for PySem.Manifest.find? by itself
name_quick tw6448080314894763839 for PySem.Manifest.find? by itself
name_quick tw9564595351457756722 for PySem.Manifest.find? by itself
name_quick tw18220123701641295943 for PySem.Manifest.find? by itself
name_quick tw1702518465993881591 for PySem.Manifest.find? by itself
name_quick tw151948405760981731 for PySem.Manifest.find? by itself
name_quick tw17279654841073493023 for PySem.Manifest.find? by itself
name_quick tw15112985482279097393 for PySem.Manifest.find? by itself
name_quick tw14168537005229113720 for PySem.Manifest.find? by itself
name_quick tw951843321253372498 for PySem.Manifest.find? by itself
name_quick tw15480198773659482676 for PySem.Manifest.find? by itself
name_quick tw505943868828395459 for PySem.Manifest.find? by itself
name_quick tw1829445100760108279 for PySem.Manifest.find? by itself
name_quick tw13900631225919944168 for PySem.Manifest.find? by itself
name_quick tw9908251947323293946 for PySem.Manifest.find? by itself
name_quick tw9763268239775435451 for PySem.Manifest.find? by itself
name_quick tw9458956999447867950 for PySem.Manifest.find? by itself
name_quick tw9136488742655976645 for PySem.Manifest.find? by itself
name_quick tw8719427161674164953 for PySem.Manifest.find? by itself
name_quick tw8603108125212654177 for PySem.Manifest.find? by itself
name_quick tw8098380416015320538 for PySem.Manifest.find? by itself
name_quick tw7401281599722004195 for PySem.Manifest.find? by itself
name_quick tw7232422423428716515 for PySem.Manifest.find? by itself
name_quick tw7198390536060210744 for PySem.Manifest.find? by itself
name_quick tw6683783046931543321 for PySem.Manifest.find? by itself
name_quick tw6679490504615227074 for PySem.Manifest.find? by itself
name_quick tw6654550962395885724 for PySem.Manifest.find? by itself
name_quick tw6589095468515690095 for PySem.Manifest.find? by itself
name_quick tw6550987210724342151 for PySem.Manifest.find? by itself
name_quick tw6245536207120538393 for PySem.Manifest.find? by itself
name_quick tw5721027456603625697 for PySem.Manifest.find? by itself
name_quick tw5357591511691535388 for PySem.Manifest.find? by itself
name_quick tw5189142188285759775 for PySem.Manifest.find? by itself
name_quick tw5111356299099525756 for PySem.Manifest.find? by itself
name_quick tw4980102563643897964 for PySem.Manifest.find? by itself
name_quick tw4775785305629353868 for PySem.Manifest.find? by itself
name_quick tw470574548607681690 for PySem.Manifest.find? by itself
name_quick tw4636218855388986860 for PySem.Manifest.find? by itself
name_quick tw4302124980754421698 for PySem.Manifest.find? by itself
name_quick tw4075660801711882420 for PySem.Manifest.find? by itself
name_quick tw4071324889030633612 for PySem.Manifest.find? by itself
name_quick tw4039474712603431140 for PySem.Manifest.find? by itself
name_quick tw3891137856419664920 for PySem.Manifest.find? by itself
name_quick tw3856783459128436802 for PySem.Manifest.find? by itself
name_quick tw3766158894648301139 for PySem.Manifest.find? by itself
name_quick tw3764465048917985505 for PySem.Manifest.find? by itself
name_quick tw3636048126100218174 for PySem.Manifest.find? by itself
name_quick tw347637069881736656 for PySem.Manifest.find? by itself
name_quick tw3442601649717412197 for PySem.Manifest.find? by itself
name_quick tw3152983702415266003 for PySem.Manifest.find? by itself
name_quick tw3093977132361051618 for PySem.Manifest.find? by itself
name_quick tw3039592710220408265 for PySem.Manifest.find? by itself
name_quick tw2460228577881660442 for PySem.Manifest.find? by itself
name_quick tw2334299552400917057 for PySem.Manifest.find? by itself
name_quick tw2039238271031011813 for PySem.Manifest.find? by itself
name_quick tw17975652961387846372 for PySem.Manifest.find? by itself
name_quick tw17964007177503468958 for PySem.Manifest.find? by itself
name_quick tw17532718790514356516 for PySem.Manifest.find? by itself
name_quick tw16697116713213952808 for PySem.Manifest.find? by itself
name_quick tw1620339239838986703 for PySem.Manifest.find? by itself
name_quick tw16145008321745377990 for PySem.Manifest.find? by itself
name_quick tw15980859228951719591 for PySem.Manifest.find? by itself
name_quick tw15742981410569661332 for PySem.Manifest.find? by itself
name_quick tw15475462885187679331 for PySem.Manifest.find? by itself
name_quick tw15323854079317868165 for PySem.Manifest.find? by itself
name_quick tw15278061642289888581 for PySem.Manifest.find? by itself
name_quick tw15168306246750427876 for PySem.Manifest.find? by itself
name_quick tw14821650378409806113 for PySem.Manifest.find? by itself
name_quick tw14553827428707814869 for PySem.Manifest.find? by itself
name_quick tw14530364306720264245 for PySem.Manifest.find? by itself
name_quick tw14333388528381170442 for PySem.Manifest.find? by itself
name_quick tw14311459727803291754 for PySem.Manifest.find? by itself
name_quick tw14108194823987119177 for PySem.Manifest.find? by itself
name_quick tw13912434898499826684 for PySem.Manifest.find? by itself
name_quick tw13640514254501968386 for PySem.Manifest.find? by itself
name_quick tw1333364371103165705 for PySem.Manifest.find? by itself
name_quick tw13254397897704925713 for PySem.Manifest.find? by itself
name_quick tw13141144453892091621 for PySem.Manifest.find? by itself
name_quick tw13036272033356848781 for PySem.Manifest.find? by itself
name_quick tw12945451867199242903 for PySem.Manifest.find? by itself
name_quick tw1258717718454355964 for PySem.Manifest.find? by itself
name_quick tw11853533878840232495 for PySem.Manifest.find? by itself
name_quick tw11636919720809706868 for PySem.Manifest.find? by itself
name_quick tw11543547407058413889 for PySem.Manifest.find? by itself
name_quick tw11462045893675790159 for PySem.Manifest.find? by itself
name_quick tw11420187438672877268 for PySem.Manifest.find? by itself
name_quick tw11333186260410459676 for PySem.Manifest.find? by itself
name_quick tw11306939235166856333 for PySem.Manifest.find? by itself
name_quick tw11186114360453789277 for PySem.Manifest.find? by itself
name_quick tw11130039905162102590 for PySem.Manifest.find? by itself
name_quick tw10942035263794033107 for PySem.Manifest.find? by itself
name_quick tw10887116778572429059 for PySem.Manifest.find? by itself
name_quick tw10706342367453228570 for PySem.Manifest.find? by itself
name_quick tw10424941004445345732 for PySem.Manifest.find? by itself
name_quick tw10323183001455561277 for PySem.Manifest.find? by itself
end Mine
namespace Mine
open_top hd for PySem.Challenge.rw_no0080_01
theorem fillit : PySem.Challenge.rw_no0080_01 = PySem.Challenge.rw_no0080_01 ∧ Mine.hd.heap_39 = Mine.hd.heap_39 := by
  k_fill
  exact ⟨rfl, rfl⟩
end Mine
namespace Mine
/-! Bs -/
section
open PySem PySem.W PyProof.Rows

theorem room {dp K k : Nat} (hd : dp + K < recursionLimit) (h : Nat.ble (k + 1) K = true) : dp + 1 + k < recursionLimit := by have := Nat.le_of_ble_eq_true h; omega
theorem roomU {un K k : Nat} (hu : un + K < cLine) (h : Nat.ble (k + 3) K = true) : un + 3 + k < cLine := by have := Nat.le_of_ble_eq_true h; omega
theorem room0 {dp K : Nat} (hd : dp + K < recursionLimit) : dp < recursionLimit := Nat.lt_of_le_of_lt (Nat.le_add_right _ _) hd
theorem sub_cons {α : Type} {a : α} {l r : List α} (h : a ∈ r) (k : ∀ p ∈ l, p ∈ r) : ∀ p ∈ a :: l, p ∈ r := fun p hp => match List.mem_cons.mp hp with
  | .inl q => q ▸ h
  | .inr q => k p q
theorem sub_tail {α : Type} {a : α} {l r : List α} (k : ∀ p ∈ l, p ∈ r) : ∀ p ∈ l, p ∈ a :: r := fun p hp => .tail _ (k p hp)
theorem sub_refl {α : Type} {l : List α} : ∀ p ∈ l, p ∈ l := fun _ h => h
theorem sub_nil {α : Type} {l : List α} : ∀ p ∈ ([] : List α), p ∈ l := fun _ h => nomatch h
noncomputable def StopT {α : Type} (t : Sem α) : Sem α := t
theorem stop_ {α : Type} {M : Model} {A : Around} {t : Sem α} {Q : α → Shared → Prop} {E : Value → Shared → Prop} {s : Shared} (h : wpAny M A (StopT t) Q E s) : wpAny M A t Q E s := h

abbrev Top0 (mean : ExcName → Option Value) (mg mb : Str → Option Value) (h₀ : Heap) : Prop :=
  Top Mine.hd.view_39 (looseW Mine.hd.view_39 [Str.ofString "GREATEST", Str.ofString "MOST_STREAMS", Str.ofString "PLAIN_FRAMES", Str.ofString "COUNT_FRAMES"]) mean mg mb h₀

/-! ### what both sides reckon -/
inductive D where
  | none
  | bool (b : Bool)
  | int (i : Int)
  | str (x : Str)
  | bytes (ks : List Int)
  | tuple (ds : List D)

noncomputable abbrev tupO (vs : List Value) (n : Nat) : Obj := { cls := .type "tuple", data := .seq vs.toArray n }

mutual
inductive DIn (news : List (Addr × Obj)) : Value → D → Prop
  | none : DIn news Value.none D.none
  | bool (b : Bool) : DIn news (Value.bool b) (D.bool b)
  | int (i : Int) (t : Tok) : DIn news (Value.int i t) (D.int i)
  | str (x : Str) (t : Tok) : DIn news (Value.str x t) (D.str x)
  | bytes {b : Array UInt8} {ks : List Int} (t : Tok) : KBw.bInts b = ks → DIn news (Value.bytes b t) (D.bytes ks)
  | tuple {a : Addr} {vs : List Value} {ds : List D} : (a, tupO vs 0) ∈ news → DAll news vs ds → DIn news (Value.ref a) (D.tuple ds)
inductive DAll (news : List (Addr × Obj)) : List Value → List D → Prop
  | nil : DAll news [] []
  | cons {v : Value} {vs : List Value} {d : D} {ds : List D} : DIn news v d → DAll news vs ds → DAll news (v :: vs) (d :: ds)
end
mutual
theorem DIn.mono {news news' : List (Addr × Obj)} (hs : ∀ p ∈ news, p ∈ news') : ∀ {v : Value} {d : D}, DIn news v d → DIn news' v d
  | _, _, .none => .none
  | _, _, .bool b => .bool b
  | _, _, .int i t => .int i t
  | _, _, .str x t => .str x t
  | _, _, .bytes t h => .bytes t h
  | _, _, .tuple h r => .tuple (hs _ h) (DAll.mono hs r)
theorem DAll.mono {news news' : List (Addr × Obj)} (hs : ∀ p ∈ news, p ∈ news') : ∀ {vs : List Value} {ds : List D}, DAll news vs ds → DAll news' vs ds
  | _, _, .nil => .nil
  | _, _, .cons h r => .cons (DIn.mono hs h) (DAll.mono hs r)
end
theorem DAll.snoc {news : List (Addr × Obj)} {v : Value} {d : D} : ∀ {vs : List Value} {ds : List D}, DAll news vs ds → DIn news v d → DAll news (vs ++ [v]) (ds ++ [d])
  | _, _, .nil, h => .cons h .nil
  | _, _, .cons k r, h => .cons k (r.snoc h)
theorem DAll.append {news : List (Addr × Obj)} {us : List Value} {es : List D} : ∀ {vs : List Value} {ds : List D}, DAll news vs ds → DAll news us es → DAll news (vs ++ us) (ds ++ es)
  | _, _, .nil, h => h
  | _, _, .cons k r, h => .cons k (r.append h)
theorem DAll.length {news : List (Addr × Obj)} : ∀ {vs : List Value} {ds : List D}, DAll news vs ds → vs.length = ds.length
  | _, _, .nil => rfl
  | _, _, .cons _ r => by rw [List.length_cons, List.length_cons, r.length]

noncomputable def vfold (f : Int) (l : List Int) : Int := l.foldl (fun a o => a * 256 + o) f
theorem vfold_snoc (f : Int) (l : List Int) (o : Int) : vfold f (l ++ [o]) = vfold f l * 256 + o := by simp [vfold]
noncomputable def vsize (k : Int) : Nat := 2 ^ (k.fdiv 64).toNat
theorem vsize_int (k : Int) : (2 : Int) ^ (k.fdiv 64).toNat = (vsize k : Int) := by
  unfold vsize; exact (Int.natCast_pow 2 _).symm
/-- one number -/
noncomputable def vint (ks : List Int) (at_ : Nat) : Option (Int × Nat) :=
  if ks.length ≤ at_ then none
  else if ks.length < at_ + vsize (ks.getD at_ 0) then none
  else some (vfold ((ks.getD at_ 0).fmod 64) ((ks.drop (at_ + 1)).take (vsize (ks.getD at_ 0) - 1)), at_ + vsize (ks.getD at_ 0))
noncomputable def itO {α : Type} (f : α → Option α) : Nat → α → Option α
  | 0, a => some a
  | n + 1, a => (itO f n a).bind f
theorem itO_none {α : Type} {f : α → Option α} {a : α} {i n : Nat} (h : itO f i a = none) (hin : i ≤ n) : itO f n a = none := by
  induction hin with
  | refl => exact h
  | step _ ih => show (itO f _ a).bind f = none; rw [ih]; rfl
noncomputable def nstep (ks : List Int) (st : List Int × Nat) : Option (List Int × Nat) := (vint ks st.2).map fun r => (st.1 ++ [r.1], r.2)
/-- many numbers -/
noncomputable def nums (ks : List Int) (at_ many : Nat) : Option (List Int × Nat) := itO (nstep ks) many ([], at_)
noncomputable def sTail (ks : List Int) (at_ size : Nat) : Option (List Int × Nat) := if ks.length < at_ + size then none else some ((ks.drop at_).take size, at_ + size)
noncomputable def sCounted (ks : List Int) (at_ many : Nat) : Option (List Int × List Int × Nat) :=
  (nums ks at_ (many + 1)).bind fun r => (sTail ks r.2 (r.1.getD many 0).toNat).map fun t => (r.1.take many, t.1, t.2)
noncomputable def sStream (ks : List Int) (at_ : Nat) (told : Int) : Option (D × Nat) :=
  (if told.toNat / 2 % 2 = 1 then sCounted ks at_ (if told.toNat / 4 % 2 = 1 then 2 else 1) else (nums ks at_ (if told.toNat / 4 % 2 = 1 then 2 else 1)).map fun r => (r.1, ks.drop r.2, ks.length)).bind fun r =>
    if 2 ^ 62 ≤ (if told.toNat / 4 % 2 = 1 then r.1.getD 1 0 else 0) + (r.2.1.length : Int) then none
    else some (.tuple [.str (Str.ofString "stream"), .int (r.1.getD 0 0), .int (if told.toNat / 4 % 2 = 1 then r.1.getD 1 0 else 0), .bytes r.2.1, .bool (decide (told.toNat % 2 = 1))], r.2.2)
noncomputable def sGiven (ks : List Int) (at_ : Nat) : Option (D × Nat) :=
  (nums ks at_ 2).bind fun r =>
    if r.1.getD 0 0 < r.1.getD 1 0 then none
    else if ks.length ≤ r.2 then none
    else if ks.getD r.2 0 < 1 ∨ 20 < ks.getD r.2 0 then none
    else (sTail ks (r.2 + 1) ((ks.getD r.2 0).toNat + 16)).map fun t =>
      (.tuple [.str (Str.ofString "new_connection_id"), .int (r.1.getD 0 0), .int (r.1.getD 1 0), .bytes (t.1.take (ks.getD r.2 0).toNat), .bytes (t.1.drop (ks.getD r.2 0).toNat)], t.2)
noncomputable def rstep (ks : List Int) (st : Int × Nat × List D) : Option (Int × Nat × List D) :=
  (nums ks st.2.1 2).bind fun r =>
    if st.1 - r.1.getD 0 0 - 2 - r.1.getD 1 0 < 0 then none
    else some (st.1 - r.1.getD 0 0 - 2 - r.1.getD 1 0, r.2, st.2.2 ++ [.tuple [.int (st.1 - r.1.getD 0 0 - 2 - r.1.getD 1 0), .int (st.1 - r.1.getD 0 0 - 2)]])
noncomputable def sRanges (ks : List Int) (at_ : Nat) : Option (Int × List D × Nat) :=
  (nums ks at_ 4).bind fun r =>
    if r.1.getD 0 0 - r.1.getD 3 0 < 0 then none
    else (itO (rstep ks) (r.1.getD 2 0).toNat (r.1.getD 0 0 - r.1.getD 3 0, r.2, [.tuple [.int (r.1.getD 0 0 - r.1.getD 3 0), .int (r.1.getD 0 0)]])).map fun q => (r.1.getD 1 0, q.2.2, q.2.1)
noncomputable def sAck (ks : List Int) (at_ : Nat) (told : Int) : Option (D × Nat) :=
  (sRanges ks at_).bind fun q => (nums ks q.2.2 (if told = 3 then 3 else 0)).map fun c =>
    (.tuple [.str (Str.ofString "ack"), .int q.1, .tuple q.2.1, if told = 3 then .tuple (c.1.map D.int) else .none], c.2)
noncomputable def plainK (told : Int) : Option (Str × Nat) :=
  if told = 1 then some (Str.ofString "ping", 0) else if told = 4 then some (Str.ofString "reset_stream", 3) else if told = 5 then some (Str.ofString "stop_sending", 2)
  else if told = 16 then some (Str.ofString "max_data", 1) else if told = 17 then some (Str.ofString "max_stream_data", 2) else if told = 20 then some (Str.ofString "data_blocked", 1)
  else if told = 21 then some (Str.ofString "stream_data_blocked", 2) else if told = 25 then some (Str.ofString "retire_connection_id", 1) else if told = 30 then some (Str.ofString "handshake_done", 0) else none
noncomputable def sOther (ks : List Int) (at_ : Nat) (told : Int) : Option (D × Nat) :=
  match plainK told with
  | some p => (nums ks at_ p.2).map fun r => (.tuple (.str p.1 :: r.1.map D.int), r.2)
  | none =>
    if told = 6 then (sCounted ks at_ 1).bind fun r => if 2 ^ 62 ≤ r.1.getD 0 0 + (r.2.1.length : Int) then none else some (.tuple [.str (Str.ofString "crypto"), .int (r.1.getD 0 0), .bytes r.2.1], r.2.2)
    else if told = 7 then (sCounted ks at_ 0).bind fun r => if r.2.1 = [] then none else some (.tuple [.str (Str.ofString "new_token"), .bytes r.2.1], r.2.2)
    else if told = 18 ∨ told = 19 ∨ told = 22 ∨ told = 23 then (nums ks at_ 1).bind fun r => if 2 ^ 60 < r.1.getD 0 0 then none else
      some (.tuple [.str (if told < 20 then Str.ofString "max_streams" else Str.ofString "streams_blocked"), .bool (decide (told = 19 ∨ told = 23)), .int (r.1.getD 0 0)], r.2)
    else if told = 26 ∨ told = 27 then (sTail ks at_ 8).map fun t => (.tuple [.str (if told = 26 then Str.ofString "path_challenge" else Str.ofString "path_response"), .bytes t.1], t.2)
    else if told = 28 then (sCounted ks at_ 2).map fun r => (.tuple [.str (Str.ofString "close"), .int (r.1.getD 0 0), .int (r.1.getD 1 0), .bytes r.2.1], r.2.2)
    else if told = 29 then (sCounted ks at_ 1).map fun r => (.tuple [.str (Str.ofString "close"), .int (r.1.getD 0 0), .none, .bytes r.2.1], r.2.2)
    else none
noncomputable def zskip (ks : List Int) (at_ : Nat) : Nat := at_ + ((ks.drop at_).takeWhile (fun k => decide (k = 0))).length
noncomputable def sBody (ks : List Int) (at_ : Nat) (told : Int) : Option (D × Nat) :=
  if told = 2 ∨ told = 3 then sAck ks at_ told
  else if 8 ≤ told ∧ told < 16 then sStream ks at_ told
  else if told = 24 then sGiven ks at_
  else sOther ks at_ told
/-- one frame: a code, or the frame and the next place -/
noncomputable def sOne (ks : List Int) (at_ : Nat) : Int ⊕ (D × Nat) :=
  match vint ks at_ with
  | none => .inl 7
  | some (told, after) =>
    if (after - at_ > 1 ∧ told < 64) ∨ (after - at_ > 2 ∧ told < 16384) ∨ (after - at_ > 4 ∧ told < 2 ^ 30) then .inl 10
    else if told = 0 then .inr (.tuple [.str (Str.ofString "padding"), .int ((zskip ks after : Int) - at_)], zskip ks after)
    else match sBody ks after told with
      | none => .inl 7
      | some r => .inr r
noncomputable def sGo (ks : List Int) : Nat → Nat → List D → Int ⊕ List D
  | 0, _, acc => .inr acc
  | f + 1, at_, acc => if ks.length ≤ at_ then .inr acc else match sOne ks at_ with
    | .inl c => .inl c
    | .inr r => sGo ks f r.2 (acc ++ [r.1])
noncomputable def sAll (ks : List Int) : Int ⊕ List D := if ks.length = 0 then .inl 10 else sGo ks ks.length 0 []
end
end Mine
namespace Mine
/-! Lp -/
section
open PySem PySem.W PyProof.Rows PySem.Spec PySem.Calls
section
variable {prog : Program} {w : World} {A : Around} {E : Value → Shared → Prop} {s : Shared} {env : Env} {h₀ : Heap} {x : Str} {body : List Stmt} {Q : Flow → Shared → Prop}

theorem fr_ext {L : Addr} {h : Heap} {m m' : Str → Option Value} (F : Fr h₀ L h m) (e : ∀ y, m' y = m y) : Fr h₀ L h m' := by
  have : m' = m := funext e
  rw [this]; exact F

/-- what stands between two turns -/
def LpJ {σ : Type} (ps : σ → List (Str × Value)) (Fa : Nat → σ → List (Addr × Obj) → Prop) (x : Str) (stored : List Str) (m₀ : Str → Option Value) (i : Nat) (m : Str → Option Value) (nx : List (Addr × Obj)) : Prop :=
  ∃ c : σ, Fa i c nx ∧ (∀ p ∈ ps c, m p.1 = some p.2) ∧ (∀ z, z ≠ x → (∀ p ∈ ps c, z ≠ p.1) → stored.contains z = false → m z = m₀ z)

theorem lp_end {σ : Type} {ps : σ → List (Str × Value)} {Fa : Nat → σ → List (Addr × Obj) → Prop} {stored : List Str} {m₀ : Str → Option Value} {i : Nat} (c : σ) (nx : List (Addr × Obj)) {L : Addr} {m' : Str → Option Value} {own news' : List (Addr × Obj)} {s₁ : Shared} {h' : Heap} {tk : Nat}
    (F : Fr h₀ L h' m') (N : News h₀ L h' news') (hn : ∀ p ∈ nx, p ∈ news') (ho : ∀ p ∈ own, p ∈ news') (ha : OwnOff own (nx.map (·.1))) (hk : ∀ p ∈ ps c, m' p.1 = some p.2) (hr : ∀ z, z ≠ x → (∀ p ∈ ps c, z ≠ p.1) → stored.contains z = false → m' z = m₀ z) (hf : Fa i c nx) :
    InvEndG h₀ L (LpJ ps Fa x stored m₀ i) own s₁ { s₁ with heap := h', toks := tk } :=
  InvEndG.intro F N ⟨c, hf, hk, hr⟩ ha hn ho

theorem lp_range {σ : Type} {r : Addr} {a₀ b₀ : Int} {t₀ u₀ v₀ : Tok} {n : Nat} {m₀ : Str → Option Value} {nx₀ : List (Addr × Obj)} (ps : σ → List (Str × Value)) (Fa : Nat → σ → List (Addr × Obj) → Prop) (stored : List Str) (c₀ : σ)
    (hh : A.handled = none) (hr : IsRange s.heap r a₀ b₀ 1 t₀ u₀ v₀) (hsmall : Builtin.Range.small a₀ b₀ 1 = true) (hsz : Builtin.Range.rangeSize a₀ b₀ 1 = (n : Int)) (F : Fr h₀ env.locals s.heap m₀) (N : News h₀ env.locals s.heap nx₀) (hk : ∀ p ∈ ps c₀, m₀ p.1 = some p.2) (hf : Fa 0 c₀ nx₀)
    (turn : ∀ (i : Nat) (c : σ) nx t (u : Str → Option Value) h tk own, i < n → Fa i c nx → OwnOff own (nx.map (·.1)) →
      Fr h₀ env.locals h (fun y => if y = x then some (.int (a₀ + i) t) else kstB (fun z => if stored.contains z then u z else m₀ z) (ps c) y) → News h₀ env.locals h (nx ++ own) →
      wpAny (model prog w) A (execs body env) (InvPostG h₀ env.locals (LpJ ps Fa x stored m₀ (i + 1)) own { s with heap := h, toks := tk } Q) E { s with heap := h, toks := tk })
    (done : ∀ (c : σ) nx (u : Str → Option Value) h tk, Fa n c nx → Fr h₀ env.locals h (fun y => if y = x then u y else kstB (fun z => if stored.contains z then u z else m₀ z) (ps c) y) → News h₀ env.locals h nx → Q .next { s with heap := h, toks := tk }) :
    wpAny (model prog w) A (pyIter (.ref r)) (fun it s₂ => LoopAtV prog w A h₀ env x body Q E it s₂) E s := by
  refine wpAny_pyIter_range hr hsmall ?_
  have W : Walks prog w A s.heap.objs.size [s.heap.objs.size] [s.heap.objs.size] n (fun i v => i < n ∧ ∃ t, v = .int (a₀ + i * 1) t)
      (fun i h => IsRangeIter h s.heap.objs.size (a₀ + (i : Nat) * 1) ((n : Int) - (i : Nat)) 1) := (Walks.range hh _ a₀ 1 n).bound
  refine kdr_loop (LpJ ps Fa x stored m₀) W (fun _ h => h) (fun _ h => h) ?_ ?_ ?_ ?_ (by show IsRangeIter _ _ _ _ _; rw [hsz]; simpa using Heap.get?_push_size _ rfl) (F.push _) (fun p hp => ⟨Heap.get?_push_of_some _ (N p hp).1, (N p hp).2⟩) ⟨c₀, hf, hk, fun _ _ _ _ => rfl⟩ ?_ ?_
  · intro i h hi b hb
    rw [List.mem_singleton.mp hb]
    exact ⟨_, hi⟩
  · intro hm
    exact absurd F.ns.lt ((List.mem_singleton.mp hm) ▸ Nat.lt_irrefl _)
  · intro b hb
    rw [List.mem_singleton.mp hb]
    exact next_is_new F
  · intro p hp hI
    exact absurd (Heap.lt_size (N p hp).1) ((List.mem_singleton.mp hI) ▸ Nat.lt_irrefl _)
  · rintro i v m₁ nx h tk own hi ⟨_, t, rfl⟩ hoff ⟨c, hf', h1, h2⟩ F₁ N₁
    rw [Int.mul_one] at F₁
    exact turn i c nx t m₁ h tk own hi hf' hoff (kst_fr h1 h2 F₁) N₁
  · rintro m₁ nx h tk ⟨c, hf', h1, h2⟩ F₁ N₁
    exact done c nx m₁ h tk hf' (kst_frOut h1 h2 F₁) N₁

theorem lp_bytes {σ : Type} {b : Array UInt8} {ks : List Int} {tb : Tok} {m₀ : Str → Option Value} {nx₀ : List (Addr × Obj)} (ps : σ → List (Str × Value)) (Fa : Nat → σ → List (Addr × Obj) → Prop) (stored : List Str) (c₀ : σ)
    (hh : A.handled = none) (hb : KBw.bInts b = ks) (F : Fr h₀ env.locals s.heap m₀) (N : News h₀ env.locals s.heap nx₀) (hk : ∀ p ∈ ps c₀, m₀ p.1 = some p.2) (hf : Fa 0 c₀ nx₀)
    (turn : ∀ (i : Nat) (c : σ) nx (k : Int) t (u : Str → Option Value) h tk own, ks[i]? = some k → 0 ≤ k → k < 256 → Fa i c nx → OwnOff own (nx.map (·.1)) →
      Fr h₀ env.locals h (fun y => if y = x then some (.int k t) else kstB (fun z => if stored.contains z then u z else m₀ z) (ps c) y) → News h₀ env.locals h (nx ++ own) →
      wpAny (model prog w) A (execs body env) (InvPostG h₀ env.locals (LpJ ps Fa x stored m₀ (i + 1)) own { s with heap := h, toks := tk } Q) E { s with heap := h, toks := tk })
    (done : ∀ (c : σ) nx (u : Str → Option Value) h tk, Fa ks.length c nx → Fr h₀ env.locals h (fun y => if y = x then u y else kstB (fun z => if stored.contains z then u z else m₀ z) (ps c) y) → News h₀ env.locals h nx → Q .next { s with heap := h, toks := tk }) :
    wpAny (model prog w) A (pyIter (.bytes b tb)) (fun it s₂ => LoopAtV prog w A h₀ env x body Q E it s₂) E s := by
  subst hb
  refine KBw.pyIter_bytes ?_
  have W := KBw.walks (prog := prog) (w := w) hh s.heap.objs.size b tb
  refine kdr_loop (LpJ ps Fa x stored m₀) W (fun _ h => h) (fun _ h => h) ?_ ?_ ?_ ?_ ⟨_, Heap.get?_push_size _ rfl, rfl, rfl⟩ (F.push _) (fun p hp => ⟨Heap.get?_push_of_some _ (N p hp).1, (N p hp).2⟩) ⟨c₀, hf, hk, fun _ _ _ _ => rfl⟩ ?_ ?_
  · intro i h hi b hb
    rw [List.mem_singleton.mp hb]
    obtain ⟨o, ho, _⟩ := hi
    exact ⟨o, ho⟩
  · intro hm
    exact absurd F.ns.lt ((List.mem_singleton.mp hm) ▸ Nat.lt_irrefl _)
  · intro b hb
    rw [List.mem_singleton.mp hb]
    exact next_is_new F
  · intro p hp hI
    exact absurd (Heap.lt_size (N p hp).1) ((List.mem_singleton.mp hI) ▸ Nat.lt_irrefl _)
  · rintro i v m₁ nx h tk own hi ⟨n, u, hn, rfl⟩ hoff ⟨c, hf', h1, h2⟩ F₁ N₁
    have hn' := KBw.ints_get hn
    have hbn := KBw.ints_in (List.mem_of_getElem? hn')
    exact turn i c nx _ u m₁ h tk own hn' hbn.1 hbn.2 hf' hoff (kst_fr h1 h2 F₁) N₁
  · rintro m₁ nx h tk ⟨c, hf', h1, h2⟩ F₁ N₁
    rw [← KBw.ints_length b] at hf'
    exact done c nx m₁ h tk hf' (kst_frOut h1 h2 F₁) N₁
end
section
variable {prog : Program} {w : World} {A : Around} {E : Value → Shared → Prop} {s : Shared} {h₀ : Heap} {L : Addr} {m : Str → Option Value}
theorem append_1 {l : Addr} {vs : List Value} {n : Nat} {v : Value} {rest : List (Addr × Obj)} {Q : Value → Shared → Prop} (F : Fr h₀ L s.heap m) (N : News h₀ L s.heap ((l, listOf vs.toArray n) :: rest)) (hr : ∀ p ∈ rest, p.1 ≠ l) (hz : vs.length ≤ 100000)
    (h : ∀ h', Fr h₀ L h' m → News h₀ L h' ((l, listOf (vs ++ [v]).toArray (n + 1)) :: rest) → Q .none { s with heap := h' }) : wpAny (model prog w) A (call (.builtin "list.append") [.ref l, v]) Q E s := by
  have hs : vs.toArray.size ≤ sizeLine := by rw [List.size_toArray, sizeLine_eq]; omega
  refine append_K (its := vs.toArray) (n := n) (news' := (l, listOf (vs ++ [v]).toArray (n + 1)) :: rest) F N ?_ h hs
  rw [List.push_toArray]
  exact .head hr
end
theorem stop_bool {M : Model} {A : Around} {E : Value → Shared → Prop} {s : Shared} {env : Env} {o : BoolOp} {b : List Expr} {p q : Pos} {t e : List Stmt} {Q : Flow → Shared → Prop}
    (h : wpAny M A (StopT (exec (.If (.BoolOp o b p) t e q) env)) Q E s) : wpAny M A (exec (.If (.BoolOp o b p) t e q) env) Q E s := h
theorem stop_chain {M : Model} {A : Around} {E : Value → Shared → Prop} {s : Shared} {env : Env} {o1 o2 : CmpOp} {l c1 c2 : Expr} {p q : Pos} {t e : List Stmt} {Q : Flow → Shared → Prop}
    (h : wpAny M A (StopT (exec (.If (.Compare l [o1, o2] [c1, c2] p) t e q) env)) Q E s) : wpAny M A (exec (.If (.Compare l [o1, o2] [c1, c2] p) t e q) env) Q E s := h
theorem let_around {α : Type} {M : Model} {A : Around} {t : Sem α} {Q : α → Shared → Prop} {E : Value → Shared → Prop} {s : Shared} (h : let A1 := A; wpAny M A1 t Q E s) : wpAny M A t Q E s := h
theorem let_goal {α : Type} {M : Model} {A : Around} {t : Sem α} {Q : α → Shared → Prop} {E : Value → Shared → Prop} {s : Shared} (h : let A1 := A; let Q1 := Q; let E1 := E; wpAny M A1 t Q1 E1 s) : wpAny M A t Q E s := h
theorem let_post {α : Type} {M : Model} {A : Around} {t : Sem α} {Q : α → Shared → Prop} {E : Value → Shared → Prop} {s : Shared} (h : let Q1 := Q; wpAny M A t Q1 E s) : wpAny M A t Q E s := h
theorem let_execs {M : Model} {A : Around} {E : Value → Shared → Prop} {s : Shared} {env : Env} {st : Stmt} {rest : List Stmt} {Q : Flow → Shared → Prop}
    (h : let K : Flow → Shared → Prop := fun f s' => match f with | .next => wpAny M A (execs rest env) Q E s' | f => Q f s'; wpAny M A (exec st env) K E s) : wpAny M A (execs (st :: rest) env) Q E s := wpAny_execs_cons h
theorem last_execs {M : Model} {A : Around} {E : Value → Shared → Prop} {s : Shared} {env : Env} {st : Stmt} {Q : Flow → Shared → Prop}
    (h : wpAny M A (exec st env) Q E s) : wpAny M A (execs [st] env) Q E s :=
  wpAny_execs_cons (wpAny_mono h (fun f s' q => by cases f <;> first | exact wpAny_execs_nil q | exact q) (fun _ _ e => e))
theorem if_pure {M : Model} {A : Around} {E : Value → Shared → Prop} {s : Shared} {env : Env} {test : Expr} {body orelse : List Stmt} {pos : Pos} {Q : Flow → Shared → Prop} (c : Bool)
    (h1 : wpAny M A (isTrue test env (eval test env)) (fun b s₂ => b = c ∧ ∃ t, s₂ = { s with toks := t }) E s)
    (h2 : ∀ t, c = true → wpAny M A (execs body env) Q E { s with toks := t }) (h3 : ∀ t, c = false → wpAny M A (execs orelse env) Q E { s with toks := t }) :
    wpAny M A (exec (.If test body orelse pos) env) Q E s := by
  refine wpAny_If (wpAny_mono h1 (fun b s₂ hb => ?_) fun _ _ e => e)
  obtain ⟨rfl, t, rfl⟩ := hb
  cases b with
  | true => exact h2 t rfl
  | false => exact h3 t rfl
theorem ints_snoc {vs : List Value} {l : List Int} {n : Int} {t : Tok} (h : IntsAre vs l) : IntsAre (vs ++ [.int n t]) (l ++ [n]) := by
  induction h with
  | nil => exact .cons n t .nil
  | cons k u _ ih => exact .cons k u ih
theorem nums_length {ks : List Int} {at_ : Nat} : ∀ {i : Nat} {l : List Int} {e : Nat}, nums ks at_ i = some (l, e) → l.length = i
  | 0, l, e, h => by
    have : ([], at_) = (l, e) := Option.some.inj h
    rw [← (Prod.mk.inj this).1]; rfl
  | i + 1, l, e, h => by
    have h' : (itO (nstep ks) i ([], at_)).bind (nstep ks) = some (l, e) := h
    obtain ⟨⟨l', e'⟩, h1, h2⟩ := Option.bind_eq_some_iff.mp h'
    obtain ⟨⟨n, e''⟩, _, h3⟩ := Option.map_eq_some_iff.mp h2
    have := (Prod.mk.inj h3).1
    rw [← this, List.length_append, nums_length h1]; rfl
theorem clipNat (n k : Nat) : clipAt n (k : Int) = min k n := clipAt_nat n k
section
variable {prog : Program} {w : World} {A : Around} {E : Value → Shared → Prop} {s : Shared} {env : Env} {h₀ : Heap} {test : Expr} {body : List Stmt} {Q : Flow → Shared → Prop}
/-- a turn of a while has ended -/
def WEnd {σ : Type} (h₀ : Heap) (L : Addr) (ps : σ → List (Str × Value)) (Fa : σ → List (Addr × Obj) → Prop) (μ : σ → Nat) (stored : List Str) (m₀ : Str → Option Value) (n : Nat) (s s₃ : Shared) : Prop :=
  ∃ c' h' tk' m' nx', s₃ = { s with heap := h', toks := tk' } ∧ Fr h₀ L h' m' ∧ News h₀ L h' nx' ∧ Fa c' nx' ∧ (∀ p ∈ ps c', m' p.1 = some p.2) ∧ (∀ z, (∀ p ∈ ps c', z ≠ p.1) → stored.contains z = false → m' z = m₀ z) ∧ μ c' < n
def WPost (Q : Flow → Shared → Prop) (En : Shared → Prop) (f : Flow) (s₃ : Shared) : Prop := match f with
  | .next => En s₃
  | .cont => En s₃
  | .brk => Q .next s₃
  | .ret v => Q (.ret v) s₃
theorem wl_fr {L : Addr} {h : Heap} {ps : List (Str × Value)} {stored : List Str} {m₀ m₁ : Str → Option Value} (h1 : ∀ p ∈ ps, m₁ p.1 = some p.2) (h2 : ∀ z, (∀ p ∈ ps, z ≠ p.1) → stored.contains z = false → m₁ z = m₀ z)
    (F : Fr h₀ L h m₁) : Fr h₀ L h (fun y => kstB (fun z => if stored.contains z then m₁ z else m₀ z) ps y) := by
  refine fr_ext F fun y => kstB_eq h1 fun hy => ?_
  by_cases hs : stored.contains y = true
  · rw [if_pos hs]
  · rw [if_neg hs, h2 y hy (by simpa using hs)]
theorem lp_while {σ : Type} {pos : Pos} {m₀ : Str → Option Value} {nx₀ : List (Addr × Obj)} (ps : σ → List (Str × Value)) (Fa : σ → List (Addr × Obj) → Prop) (μ : σ → Nat) (stored : List Str) (c₀ : σ)
    (F : Fr h₀ env.locals s.heap m₀) (N : News h₀ env.locals s.heap nx₀) (hk : ∀ p ∈ ps c₀, m₀ p.1 = some p.2) (hf : Fa c₀ nx₀)
    (turn : ∀ (c : σ) nx (u : Str → Option Value) h tk, Fa c nx → Fr h₀ env.locals h (fun y => kstB (fun z => if stored.contains z then u z else m₀ z) (ps c) y) → News h₀ env.locals h nx →
      let QW : Flow → Shared → Prop := WPost Q (WEnd h₀ env.locals ps Fa μ stored m₀ (μ c) s)
      wpAny (model prog w) A (isTrue test env (eval test env)) (fun b s₂ => if b then wpAny (model prog w) A (execs body env) QW E s₂ else Q .next s₂) E { s with heap := h, toks := tk })
    (hE : PassesOwn (model prog w) A env E := by passes_own) :
    wpAny (model prog w) A (exec (.While test body [] pos) env) Q E s := by
  refine wpAny_While ?_
  refine codeAny_whileLoop (fun n s₁ => ∃ c h tk m₁ nx, s₁ = { s with heap := h, toks := tk } ∧ Fr h₀ env.locals h m₁ ∧ News h₀ env.locals h nx ∧ Fa c nx ∧ (∀ p ∈ ps c, m₁ p.1 = some p.2) ∧ (∀ z, (∀ p ∈ ps c, z ≠ p.1) → stored.contains z = false → m₁ z = m₀ z) ∧ μ c = n) ?_ (μ c₀) ⟨c₀, s.heap, s.toks, m₀, nx₀, rfl, F, N, hf, hk, fun _ _ _ => rfl, rfl⟩
  rintro n s₁ ⟨c, h, tk, m₁, nx, rfl, F₁, N₁, hf₁, h1, h2, rfl⟩
  refine wpAny_mono (turn c nx m₁ h tk hf₁ (wl_fr h1 h2 F₁) N₁) (fun b s₂ hb => ?_) fun e s' he => hE e s' he
  cases b with
  | false =>
    simp only [Bool.false_eq_true, if_false] at hb ⊢
    exact wpAny_pure (a := Flow.next) hb
  | true =>
    simp only [if_true] at hb ⊢
    refine wpAny_mono hb (fun f s₃ hfp => ?_) fun e s' he => hE e s' he
    have fin : WEnd h₀ env.locals ps Fa μ stored m₀ (μ c) s s₃ → ∃ m, m < μ c ∧ ∃ c h tk m₁ nx, s₃ = { s with heap := h, toks := tk } ∧ Fr h₀ env.locals h m₁ ∧ News h₀ env.locals h nx ∧ Fa c nx ∧ (∀ p ∈ ps c, m₁ p.1 = some p.2) ∧ (∀ z, (∀ p ∈ ps c, z ≠ p.1) → stored.contains z = false → m₁ z = m₀ z) ∧ μ c = m := by
      rintro ⟨c', h', tk', m', nx', e, F', N', hf', k1, k2, hlt⟩
      exact ⟨μ c', hlt, c', h', tk', m', nx', e, F', N', hf', k1, k2, rfl⟩
    cases f with
    | ret v => exact hfp
    | brk => exact hfp
    | next => exact fin hfp
    | cont => exact fin hfp
end
end
end Mine
namespace Mine
/-! Pu -/
section
open PySem PySem.W PyProof.Rows PySem.Spec PySem.Calls
def Oct (ks : List Int) : Prop := ∀ k ∈ ks, 0 ≤ k ∧ k < 256
theorem oct_of {b : Array UInt8} {ks : List Int} (hb : KBw.bInts b = ks) : Oct ks := by
  subst hb; exact fun k hk => KBw.ints_in hk
theorem Oct.getD {ks : List Int} (h : Oct ks) (i : Nat) : 0 ≤ ks.getD i 0 ∧ ks.getD i 0 < 256 := by
  rw [List.getD_eq_getElem?_getD]
  cases hi : ks[i]? with
  | none => simp
  | some k => simpa using h k (List.mem_of_getElem? hi)
theorem Oct.take {ks : List Int} (h : Oct ks) (i : Nat) : Oct (ks.take i) := fun k hk => h k (List.mem_of_mem_take hk)
theorem Oct.drop {ks : List Int} (h : Oct ks) (i : Nat) : Oct (ks.drop i) := fun k hk => h k (List.mem_of_mem_drop hk)
theorem vfold_bound : ∀ (l : List Int) (f B : Int), Oct l → 0 ≤ f → f < B → 0 ≤ vfold f l ∧ vfold f l < B * 256 ^ l.length
  | [], f, B, _, h0, h1 => by simp [vfold]; omega
  | o :: l, f, B, h, h0, h1 => by
    have ho := h o (.head _)
    have ih := vfold_bound l (f * 256 + o) (B * 256) (fun k hk => h k (.tail _ hk)) (by omega) (by omega)
    refine ⟨ih.1, ?_⟩
    have e : B * 256 * 256 ^ l.length = B * 256 ^ (o :: l).length := by
      rw [List.length_cons, Int.pow_succ, Int.mul_assoc, Int.mul_comm 256]
    rw [← e]; exact ih.2
theorem vsize_cases {k : Int} (h0 : 0 ≤ k) (h1 : k < 256) : (k.fdiv 64 = 0 ∧ vsize k = 1) ∨ (k.fdiv 64 = 1 ∧ vsize k = 2) ∨ (k.fdiv 64 = 2 ∧ vsize k = 4) ∨ (k.fdiv 64 = 3 ∧ vsize k = 8) := by
  have hd : k.fdiv 64 = k / 64 := Int.fdiv_eq_ediv_of_nonneg k (by decide)
  have : k / 64 = 0 ∨ k / 64 = 1 ∨ k / 64 = 2 ∨ k / 64 = 3 := by omega
  unfold vsize
  rw [hd]
  rcases this with h | h | h | h <;> rw [h] <;> simp
theorem vsize_bound {k : Int} (h0 : 0 ≤ k) (h1 : k < 256) : 1 ≤ vsize k ∧ vsize k ≤ 8 := by
  rcases vsize_cases h0 h1 with h | h | h | h <;> omega
theorem vint_bound {ks : List Int} {at_ e : Nat} {n : Int} (ho : Oct ks) (h : vint ks at_ = some (n, e)) : 0 ≤ n ∧ n < 2 ^ 62 ∧ at_ < e ∧ e ≤ ks.length ∧ e = at_ + vsize (ks.getD at_ 0) ∧ at_ < ks.length := by
  unfold vint at h
  split at h
  · cases h
  · split at h
    · cases h
    · rename_i h1 h2
      have hk := ho.getD at_
      have hv := vsize_bound hk.1 hk.2
      obtain ⟨rfl, rfl⟩ := Prod.mk.inj (Option.some.inj h)
      have hm : 0 ≤ (ks.getD at_ 0).fmod 64 ∧ (ks.getD at_ 0).fmod 64 < 64 := by
        rw [Int.fmod_eq_emod_of_nonneg _ (by decide)]; omega
      have hb := vfold_bound ((ks.drop (at_ + 1)).take (vsize (ks.getD at_ 0) - 1)) _ 64 ((ho.drop _).take _) hm.1 hm.2
      refine ⟨hb.1, ?_, by omega, by omega, rfl, by omega⟩
      have hl : ((ks.drop (at_ + 1)).take (vsize (ks.getD at_ 0) - 1)).length ≤ 7 := by
        rw [List.length_take]; omega
      refine Int.lt_of_lt_of_le hb.2 ?_
      have : ∀ j : Nat, j ≤ 7 → (64 : Int) * 256 ^ j ≤ 2 ^ 62 := by
        decide
      exact this _ hl
theorem nums_bound {ks : List Int} {at_ : Nat} (ho : Oct ks) (hat : at_ ≤ ks.length) : ∀ {i : Nat} {l : List Int} {e : Nat}, nums ks at_ i = some (l, e) → (∀ n ∈ l, 0 ≤ n ∧ n < 2 ^ 62) ∧ at_ ≤ e ∧ e ≤ ks.length
  | 0, l, e, h => by
    have : ([], at_) = (l, e) := Option.some.inj h
    obtain ⟨rfl, rfl⟩ := Prod.mk.inj this
    exact ⟨fun n hn => (nomatch hn), Nat.le_refl _, hat⟩
  | i + 1, l, e, h => by
    have h' : (itO (nstep ks) i ([], at_)).bind (nstep ks) = some (l, e) := h
    obtain ⟨⟨l', e'⟩, h1, h2⟩ := Option.bind_eq_some_iff.mp h'
    obtain ⟨⟨n, e''⟩, h4, h3⟩ := Option.map_eq_some_iff.mp h2
    obtain ⟨rfl, rfl⟩ := Prod.mk.inj h3
    have ih := nums_bound ho hat h1
    have hb := vint_bound ho h4
    refine ⟨fun k hk => ?_, ?_, hb.2.2.2.1⟩
    · rcases List.mem_append.mp hk with hk | hk
      · exact ih.1 k hk
      · rw [List.mem_singleton.mp hk]; exact ⟨hb.1, hb.2.1⟩
    · have := ih.2.1; have := hb.2.2.1; dsimp only at *; omega
theorem getD_of {l : List Int} {P : Int → Prop} (h : ∀ n ∈ l, P n) (h0 : P 0) (i : Nat) : P (l.getD i 0) := by
  rw [List.getD_eq_getElem?_getD]
  cases hi : l[i]? with
  | none => simpa using h0
  | some k => simpa using h k (List.mem_of_getElem? hi)
theorem nums_vals {ks : List Int} {at_ : Nat} (ho : Oct ks) : ∀ {i : Nat} {l : List Int} {e : Nat}, nums ks at_ i = some (l, e) → ∀ n ∈ l, 0 ≤ n ∧ n < 2 ^ 62
  | 0, l, e, h => by
    have : ([], at_) = (l, e) := Option.some.inj h
    obtain ⟨rfl, rfl⟩ := Prod.mk.inj this
    exact fun n hn => (nomatch hn)
  | i + 1, l, e, h => by
    have h' : (itO (nstep ks) i ([], at_)).bind (nstep ks) = some (l, e) := h
    obtain ⟨⟨l', e'⟩, h1, h2⟩ := Option.bind_eq_some_iff.mp h'
    obtain ⟨⟨n, e''⟩, h4, h3⟩ := Option.map_eq_some_iff.mp h2
    obtain ⟨rfl, rfl⟩ := Prod.mk.inj h3
    have ih := nums_vals ho h1
    have hb := vint_bound ho h4
    intro k hk
    rcases List.mem_append.mp hk with hk | hk
    · exact ih k hk
    · rw [List.mem_singleton.mp hk]; exact ⟨hb.1, hb.2.1⟩
theorem nums_getD {ks : List Int} {at_ i e : Nat} {l : List Int} (ho : Oct ks) (h : nums ks at_ i = some (l, e)) (j : Nat) : 0 ≤ l.getD j 0 ∧ l.getD j 0 < 2 ^ 62 :=
  getD_of (P := fun n => 0 ≤ n ∧ n < 2 ^ 62) (nums_vals ho h) (by decide) j
theorem nums_next {ks : List Int} {at_ i e e2 : Nat} {l : List Int} {n : Int} (h : nums ks at_ i = some (l, e)) (hv : vint ks e = some (n, e2)) : nums ks at_ (i + 1) = some (l ++ [n], e2) := by
  show (itO _ _ _).bind _ = _
  have hP' : itO (nstep ks) i ([], at_) = some (l, e) := h
  rw [hP']; show (vint ks e).map _ = _; rw [hv]; rfl
theorem nums_stop {ks : List Int} {at_ i e j : Nat} {l : List Int} (h : nums ks at_ i = some (l, e)) (hv : vint ks e = none) (hj : i < j) : nums ks at_ j = none := by
  have hx : nums ks at_ (i + 1) = none := by
    show (itO _ _ _).bind _ = none
    have hP' : itO (nstep ks) i ([], at_) = some (l, e) := h
    rw [hP']; show (vint ks e).map _ = none; rw [hv]; rfl
  exact itO_none hx hj
theorem nums_zero {ks : List Int} {at_ : Nat} : nums ks at_ 0 = some ([], at_) := rfl
theorem sGiven_eq {ks : List Int} {at_ e : Nat} {l : List Int} (hv : nums ks at_ 2 = some (l, e)) : sGiven ks at_ =
    if l.getD 0 0 < l.getD 1 0 then none
    else if ks.length ≤ e then none
    else if ks.getD e 0 < 1 ∨ 20 < ks.getD e 0 then none
    else (sTail ks (e + 1) ((ks.getD e 0).toNat + 16)).map fun t =>
      (.tuple [.str (Str.ofString "new_connection_id"), .int (l.getD 0 0), .int (l.getD 1 0), .bytes (t.1.take (ks.getD e 0).toNat), .bytes (t.1.drop (ks.getD e 0).toNat)], t.2) := by
  unfold sGiven; rw [hv]; rfl
theorem sTail_none {ks : List Int} {at_ sz : Nat} (h : ks.length < at_ + sz) : sTail ks at_ sz = none := if_pos h
theorem sTail_some {ks : List Int} {at_ sz : Nat} (h : ¬ ks.length < at_ + sz) : sTail ks at_ sz = some ((ks.drop at_).take sz, at_ + sz) := if_neg h
theorem tail_sub {at_ sz k : Nat} (h : at_ + sz ≤ k) : min (at_ + sz) k - min at_ k = sz := by
  rw [Nat.min_eq_left h, Nat.min_eq_left (Nat.le_trans (Nat.le_add_right _ _) h), Nat.add_sub_cancel_left]
theorem sub_self2 {e k : Nat} : min (k - min e k) (k - min e k) = k - e := by
  rw [Nat.min_self]
  rcases Nat.le_total e k with h | h
  · rw [Nat.min_eq_left h]
  · rw [Nat.min_eq_right h, Nat.sub_self, Nat.sub_eq_zero_of_le h]
theorem big62 {x : Int} : 4611686018427387903 < x ↔ 2 ^ 62 ≤ x := Int.lt_iff_add_one_le
theorem few {a b i e e2 k : Nat} (h : b = 0 + 1 + i ∧ e + 2 * i ≤ e2 ∧ e2 ≤ k) (hk : k ≤ 100) (hl : a = b) : a ≤ 101 := by omega
/-- whatever comes of it bears P -/
def OA {α : Type} (P : α → Prop) (o : Option α) : Prop := ∀ x, o = some x → P x
theorem oa_none {α : Type} {P : α → Prop} : OA P none := fun _ h => nomatch h
theorem oa_some {α : Type} {P : α → Prop} {x : α} (h : P x) : OA P (some x) := fun _ q => Option.some.inj q ▸ h
theorem oa_ite {α : Type} {P : α → Prop} {c : Prop} [Decidable c] {a b : Option α} (h1 : c → OA P a) (h2 : ¬ c → OA P b) : OA P (if c then a else b) := by
  by_cases h : c
  · rw [if_pos h]; exact h1 h
  · rw [if_neg h]; exact h2 h
theorem oa_bind {α β : Type} {P : β → Prop} {o : Option α} {f : α → Option β} (h : ∀ x, o = some x → OA P (f x)) : OA P (o.bind f) := fun y hy =>
  let ⟨x, h1, h2⟩ := Option.bind_eq_some_iff.mp hy
  h x h1 y h2
theorem oa_map {α β : Type} {P : β → Prop} {o : Option α} {f : α → β} (h : ∀ x, o = some x → P (f x)) : OA P (o.map f) := fun _ hy =>
  let ⟨x, h1, h2⟩ := Option.map_eq_some_iff.mp hy
  h2 ▸ h x h1
theorem oa_body {P : D × Nat → Prop} {ks : List Int} {at_ : Nat} {told : Int} (h1 : OA P (sAck ks at_ told)) (h2 : OA P (sStream ks at_ told)) (h3 : OA P (sGiven ks at_)) (h4 : OA P (sOther ks at_ told)) : OA P (sBody ks at_ told) :=
  oa_ite (fun _ => h1) fun _ => oa_ite (fun _ => h2) fun _ => oa_ite (fun _ => h3) fun _ => h4
theorem one_cases {ks : List Int} {at_ e : Nat} {d : D} (h : sOne ks at_ = .inr (d, e)) : ∃ told after, vint ks at_ = some (told, after) ∧
    ((d = .tuple [.str (Str.ofString "padding"), .int ((zskip ks after : Int) - at_)] ∧ e = zskip ks after) ∨ sBody ks after told = some (d, e)) := by
  unfold sOne at h
  cases hv : vint ks at_ with
  | none => rw [hv] at h; cases h
  | some p =>
    refine ⟨p.1, p.2, rfl, ?_⟩
    rw [hv] at h
    dsimp only at h
    by_cases h1 : (p.2 - at_ > 1 ∧ p.1 < 64) ∨ (p.2 - at_ > 2 ∧ p.1 < 16384) ∨ (p.2 - at_ > 4 ∧ p.1 < 2 ^ 30)
    · rw [if_pos h1] at h; cases h
    · rw [if_neg h1] at h
      by_cases h2 : p.1 = 0
      · rw [if_pos h2] at h; cases h; exact .inl ⟨rfl, rfl⟩
      · rw [if_neg h2] at h
        cases hb : sBody ks p.2 p.1 with
        | none => rw [hb] at h; cases h
        | some r => rw [hb] at h; cases h; exact .inr rfl
theorem oct8 {P : Int → Prop} {told : Int} (h0 : 8 ≤ told) (h1 : told < 16) (h : ∀ j, j < 8 → P (8 + (j : Nat))) : P told := by
  have := h (told - 8).toNat (by omega)
  rwa [show (8 : Int) + ((told - 8).toNat : Nat) = told by omega] at this
theorem bit4 {told : Int} (h0 : 8 ≤ told) (h1 : told < 16) : Builtin.bitAnd told 4 ≠ 0 ↔ told.toNat / 4 % 2 = 1 :=
  oct8 (P := fun told => Builtin.bitAnd told 4 ≠ 0 ↔ told.toNat / 4 % 2 = 1) h0 h1 (by decide +kernel)
theorem bit2 {told : Int} (h0 : 8 ≤ told) (h1 : told < 16) : Builtin.bitAnd told 2 ≠ 0 ↔ told.toNat / 2 % 2 = 1 :=
  oct8 (P := fun told => Builtin.bitAnd told 2 ≠ 0 ↔ told.toNat / 2 % 2 = 1) h0 h1 (by decide +kernel)
theorem sCounted_inv {ks l o : List Int} {at_ many e : Nat} (h : sCounted ks at_ many = some (l, o, e)) : ∃ l' e', nums ks at_ (many + 1) = some (l', e') ∧ ¬ ks.length < e' + (l'.getD many 0).toNat ∧ l = l'.take many ∧ o = (ks.drop e').take (l'.getD many 0).toNat ∧ e = e' + (l'.getD many 0).toNat := by
  unfold sCounted at h
  obtain ⟨⟨l', e'⟩, h1, h2⟩ := Option.bind_eq_some_iff.mp h
  obtain ⟨⟨o', e''⟩, h3, h4⟩ := Option.map_eq_some_iff.mp h2
  unfold sTail at h3
  split at h3
  · cases h3
  · rename_i h5
    have h6 := Option.some.inj h3
    have h7 := Prod.mk.inj h4
    have h8 := Prod.mk.inj h7.2
    have h9 := Prod.mk.inj h6
    exact ⟨l', e', h1, h5, h7.1.symm, by rw [← h8.1, ← h9.1], by rw [← h8.2, ← h9.2]⟩
theorem sCounted_len {ks l o : List Int} {at_ many e : Nat} (h : sCounted ks at_ many = some (l, o, e)) : l.length = many := by
  obtain ⟨l', e', h1, _, rfl, _⟩ := sCounted_inv h
  have := nums_length h1
  rw [List.length_take]; omega
theorem sCounted_getD {ks l o : List Int} {at_ many e : Nat} (ho : Oct ks) (h : sCounted ks at_ many = some (l, o, e)) (j : Nat) : 0 ≤ l.getD j 0 ∧ l.getD j 0 < 2 ^ 62 := by
  obtain ⟨l', e', h1, _, rfl, _⟩ := sCounted_inv h
  exact getD_of (P := fun n => 0 ≤ n ∧ n < 2 ^ 62) (fun n hn => nums_vals ho h1 n (List.mem_of_mem_take hn)) (by decide) j
theorem sCounted_olen {ks l o : List Int} {at_ many e : Nat} (h : sCounted ks at_ many = some (l, o, e)) : o.length ≤ ks.length := by
  obtain ⟨l', e', h1, _, _, rfl, _⟩ := sCounted_inv h
  rw [List.length_take, List.length_drop]; omega
noncomputable def sStreamTo (told : Int) (r : List Int × List Int × Nat) : Option (D × Nat) :=
    if 2 ^ 62 ≤ (if told.toNat / 4 % 2 = 1 then r.1.getD 1 0 else 0) + (r.2.1.length : Int) then none
    else some (.tuple [.str (Str.ofString "stream"), .int (r.1.getD 0 0), .int (if told.toNat / 4 % 2 = 1 then r.1.getD 1 0 else 0), .bytes r.2.1, .bool (decide (told.toNat % 2 = 1))], r.2.2)
theorem sStream_c {ks : List Int} {at_ : Nat} {told : Int} (h2 : told.toNat / 2 % 2 = 1) : sStream ks at_ told =
   (sCounted ks at_ (if told.toNat / 4 % 2 = 1 then 2 else 1)).bind (sStreamTo told) := by
  unfold sStream; rw [if_pos h2]; rfl
theorem sStream_n {ks : List Int} {at_ : Nat} {told : Int} (h2 : ¬ told.toNat / 2 % 2 = 1) : sStream ks at_ told =
   ((nums ks at_ (if told.toNat / 4 % 2 = 1 then 2 else 1)).map fun r => (r.1, ks.drop r.2, ks.length)).bind (sStreamTo told) := by
  unfold sStream; rw [if_neg h2]; rfl
theorem sStreamTo_none {told off : Int} {l o : List Int} {e : Nat} (hoff : (if told.toNat / 4 % 2 = 1 then l.getD 1 0 else 0) = off) (hA : 2 ^ 62 ≤ off + (o.length : Int)) : sStreamTo told (l, o, e) = none := by
  unfold sStreamTo; dsimp only; rw [hoff, if_pos hA]
theorem sStreamTo_some {told off : Int} {l o : List Int} {e : Nat} (hoff : (if told.toNat / 4 % 2 = 1 then l.getD 1 0 else 0) = off) (hA : ¬ 2 ^ 62 ≤ off + (o.length : Int)) :
    sStreamTo told (l, o, e) = some (.tuple [.str (Str.ofString "stream"), .int (l.getD 0 0), .int off, .bytes o, .bool (decide (told.toNat % 2 = 1))], e) := by
  unfold sStreamTo; dsimp only; rw [hoff, if_neg hA]
theorem bit1 {told : Int} (h0 : 0 ≤ told) : (told.fmod 2 == 1) = decide (told.toNat % 2 = 1) := by
  rw [Int.fmod_eq_emod_of_nonneg _ (by decide)]
  by_cases h : told.toNat % 2 = 1
  · rw [decide_eq_true h, beq_iff_eq]; omega
  · rw [decide_eq_false h, beq_eq_false_iff_ne]; omega
/-- where a frame and the next place are handed on -/
def OutP (Q : Value → Shared → Prop) (h₀ : Heap) (L : Addr) (m : Str → Option Value) (news : List (Addr × Obj)) (gs : Array GenState) (dr : Drawn) (os : OsState) (d : D) (e : Nat) : Prop :=
  ∀ x v u tl h' tk', DIn tl v d → Fr h₀ L h' m → News h₀ L h' ((x, tupO [v, .int (e : Int) u] 0) :: (tl ++ news)) → (∀ p ∈ tl, p.1 < x ∧ ∀ q ∈ news, q.1 < p.1) → (∀ q ∈ news, q.1 < x) → Q (.ref x) ⟨h', gs, dr, tk', os⟩
theorem fin_flat {Q : Value → Shared → Prop} {h₀ : Heap} {L : Addr} {m : Str → Option Value} {news : List (Addr × Obj)} {gs : Array GenState} {dr : Drawn} {os : OsState} {ds : List D} {e : Nat} {x y : Addr} {vs : List Value} {u : Tok} {rest : List (Addr × Obj)} {h' : Heap} {tk' : Nat}
    (hQ : OutP Q h₀ L m news gs dr os (.tuple ds) e) (lF : Fr h₀ L h' m) (lN : News h₀ L h' ((x, tupO [.ref y, .int (e : Int) u] 0) :: (y, tupO vs 0) :: rest)) (hsub : ∀ p ∈ news, p ∈ rest) (hD : DAll [] vs ds) (hyx : y < x) (hny : ∀ q ∈ news, q.1 < y) :
    Q (.ref x) ⟨h', gs, dr, tk', os⟩ := by
  refine hQ x (.ref y) u [(y, tupO vs 0)] h' tk' (.tuple (.head _) (hD.mono (fun p (hp : p ∈ ([] : List (Addr × Obj))) => by cases hp))) lF (fun p hp => lN p ?_) ?_ fun q hq => Nat.lt_trans (hny q hq) hyx
  · rcases List.mem_cons.mp hp with rfl | hp
    · exact .head _
    · rcases List.mem_cons.mp hp with rfl | hp
      · exact .tail _ (.head _)
      · exact .tail _ (.tail _ (hsub p hp))
  · intro p hp
    rw [List.mem_singleton.mp hp]
    exact ⟨hyx, hny⟩
theorem rstep_inv {ks : List Int} {low low' : Int} {e e' : Nat} {ds ds' : List D} (h : rstep ks (low, e, ds) = some (low', e', ds')) :
    ∃ l, nums ks e 2 = some (l, e') ∧ ds'.length = ds.length + 1 := by
  unfold rstep at h
  obtain ⟨⟨l, e2⟩, h1, h2⟩ := Option.bind_eq_some_iff.mp h
  dsimp only at h1 h2
  split at h2
  · cases h2
  · have := Prod.mk.inj (Option.some.inj h2)
    have h3 := Prod.mk.inj this.2
    refine ⟨l, by rw [h1, h3.1], by rw [← h3.2, List.length_append]; rfl⟩
theorem nums_two_grow {ks : List Int} (ho : Oct ks) {e e' : Nat} {l : List Int} (h : nums ks e 2 = some (l, e')) : e + 2 ≤ e' ∧ e' ≤ ks.length := by
  have h' : (itO (nstep ks) 1 ([], e)).bind (nstep ks) = some (l, e') := h
  obtain ⟨⟨l1, e1⟩, h1, h2⟩ := Option.bind_eq_some_iff.mp h'
  obtain ⟨⟨n, e2⟩, h4, h3⟩ := Option.map_eq_some_iff.mp h2
  obtain ⟨rfl, rfl⟩ := Prod.mk.inj h3
  have b1 := vint_bound ho h4
  have h1' : (itO (nstep ks) 0 ([], e)).bind (nstep ks) = some (l1, e1) := h1
  obtain ⟨⟨l0, e0⟩, h5, h6⟩ := Option.bind_eq_some_iff.mp h1'
  obtain ⟨rfl, rfl⟩ := Prod.mk.inj (Option.some.inj h5)
  obtain ⟨⟨n', e2'⟩, h7, h8⟩ := Option.map_eq_some_iff.mp h6
  obtain ⟨rfl, rfl⟩ := Prod.mk.inj h8
  have b2 := vint_bound ho h7
  dsimp only at *
  omega
theorem rstep_bound {ks : List Int} (ho : Oct ks) {st : Int × Nat × List D} (h0 : st.2.1 ≤ ks.length) : ∀ {i : Nat} {low : Int} {e : Nat} {ds : List D}, itO (rstep ks) i st = some (low, e, ds) → ds.length = st.2.2.length + i ∧ st.2.1 + 2 * i ≤ e ∧ e ≤ ks.length
  | 0, low, e, ds, h => by
    have := Option.some.inj h
    subst this
    exact ⟨rfl, Nat.le_refl _, h0⟩
  | i + 1, low, e, ds, h => by
    have h' : (itO (rstep ks) i st).bind (rstep ks) = some (low, e, ds) := h
    obtain ⟨⟨low1, e1, ds1⟩, h1, h2⟩ := Option.bind_eq_some_iff.mp h'
    obtain ⟨l, h3, h4⟩ := rstep_inv h2
    have ih := rstep_bound ho h0 h1
    have g := nums_two_grow ho h3
    omega
theorem rstep_go {ks : List Int} {low : Int} {e e' : Nat} {ds : List D} {p q : Int} (h : nums ks e 2 = some ([p, q], e')) (hl : ¬ low - p - 2 - q < 0) : rstep ks (low, e, ds) = some (low - p - 2 - q, e', ds ++ [.tuple [.int (low - p - 2 - q), .int (low - p - 2)]]) := by
  unfold rstep; dsimp only; rw [h]; exact if_neg hl
theorem rstep_low {ks : List Int} {low : Int} {e e' : Nat} {ds : List D} {p q : Int} (h : nums ks e 2 = some ([p, q], e')) (hl : low - p - 2 - q < 0) : rstep ks (low, e, ds) = none := by
  unfold rstep; dsimp only; rw [h]; exact if_pos hl
theorem rstep_end {ks : List Int} {low : Int} {e : Nat} {ds : List D} (h : nums ks e 2 = none) : rstep ks (low, e, ds) = none := by
  unfold rstep; dsimp only; rw [h]; rfl
theorem itO_next {α : Type} {f : α → Option α} {a b : α} {i : Nat} (h : itO f i a = some b) : itO f (i + 1) a = f b := by
  show (itO f i a).bind f = f b; rw [h]; rfl
theorem sRanges_eq {ks : List Int} {at_ e : Nat} {high delay more first : Int} (hv : nums ks at_ 4 = some ([high, delay, more, first], e)) : sRanges ks at_ =
    if high - first < 0 then none else (itO (rstep ks) more.toNat (high - first, e, [.tuple [.int (high - first), .int high]])).map fun q => (delay, q.2.2, q.2.1) := by
  unfold sRanges; rw [hv]; rfl
theorem ints_dall {led : List (Addr × Obj)} {vs : List Value} {l : List Int} (h : IntsAre vs l) : DAll led vs (l.map D.int) := by
  induction h with
  | nil => exact .nil
  | cons n t _ ih => exact .cons (.int n t) ih
theorem fin_ack {Q : Value → Shared → Prop} {h₀ : Heap} {L : Addr} {m : Str → Option Value} {news : List (Addr × Obj)} {gs : Array GenState} {dr : Drawn} {os : OsState} {ds : List D} {e : Nat} {x y : Addr} {vs : List Value} {u : Tok} {rest tl : List (Addr × Obj)} {h' : Heap} {tk' : Nat}
    (hQ : OutP Q h₀ L m news gs dr os (.tuple ds) e) (lF : Fr h₀ L h' m) (lN : News h₀ L h' ((x, tupO [.ref y, .int (e : Int) u] 0) :: (y, tupO vs 0) :: rest)) (htl : ∀ p ∈ tl, p ∈ rest) (hsub : ∀ p ∈ news, p ∈ rest) (hD : DAll tl vs ds) (hyx : y < x)
    (ho : ∀ p ∈ tl, p.1 < x ∧ ∀ q ∈ news, q.1 < p.1) (hny : ∀ q ∈ news, q.1 < y) : Q (.ref x) ⟨h', gs, dr, tk', os⟩ := by
  refine hQ x (.ref y) u ((y, tupO vs 0) :: tl) h' tk' (.tuple (.head _) (hD.mono fun _ h => .tail _ h)) lF (fun p hp => lN p ?_) ?_ fun q hq => Nat.lt_trans (hny q hq) hyx
  · rcases List.mem_cons.mp hp with rfl | hp
    · exact .head _
    · rcases List.mem_append.mp hp with hp | hp
      · rcases List.mem_cons.mp hp with rfl | hp
        · exact .tail _ (.head _)
        · exact .tail _ (.tail _ (htl p hp))
      · exact .tail _ (.tail _ (hsub p hp))
  · intro p hp
    rcases List.mem_cons.mp hp with rfl | hp
    · exact ⟨hyx, hny⟩
    · exact ho p hp
theorem zskip_more {ks : List Int} {z : Nat} (h : z < ks.length) (h0 : ks.getD z 0 = 0) : zskip ks z = zskip ks (z + 1) := by
  unfold zskip
  have e : ks.drop z = ks.getD z 0 :: ks.drop (z + 1) := by
    rw [List.drop_eq_getElem_cons h, List.getD_eq_getElem?_getD, List.getElem?_eq_getElem h]; rfl
  rw [e, h0, List.takeWhile_cons, if_pos (by rfl), List.length_cons]; omega
theorem zskip_stop {ks : List Int} {z : Nat} (h : ¬ (z < ks.length ∧ ks.getD z 0 = 0)) : zskip ks z = z := by
  unfold zskip
  by_cases hz : z < ks.length
  · have e : ks.drop z = ks.getD z 0 :: ks.drop (z + 1) := by
      rw [List.drop_eq_getElem_cons hz, List.getD_eq_getElem?_getD, List.getElem?_eq_getElem hz]; rfl
    have hk : ¬ ks.getD z 0 = 0 := fun q => h ⟨hz, q⟩
    rw [e, List.takeWhile_cons, if_neg (by simpa using hk)]; rfl
  · rw [List.drop_eq_nil_of_le (by omega)]; rfl
theorem sOne_none {ks : List Int} {at_ : Nat} (h : vint ks at_ = none) : sOne ks at_ = .inl 7 := by unfold sOne; rw [h]
theorem sOne_long {ks : List Int} {at_ e : Nat} {told : Int} (h : vint ks at_ = some (told, e)) (hc : (e - at_ > 1 ∧ told < 64) ∨ (e - at_ > 2 ∧ told < 16384) ∨ (e - at_ > 4 ∧ told < 2 ^ 30)) : sOne ks at_ = .inl 10 := by
  unfold sOne; rw [h]; exact if_pos hc
theorem sOne_pad {ks : List Int} {at_ e : Nat} (h : vint ks at_ = some (0, e)) (hc : ¬ ((e - at_ > 1 ∧ (0 : Int) < 64) ∨ (e - at_ > 2 ∧ (0 : Int) < 16384) ∨ (e - at_ > 4 ∧ (0 : Int) < 2 ^ 30))) :
    sOne ks at_ = .inr (.tuple [.str (Str.ofString "padding"), .int ((zskip ks e : Int) - at_)], zskip ks e) := by
  unfold sOne; rw [h]; exact (if_neg hc).trans (if_pos rfl)
theorem sOne_body {ks : List Int} {at_ e : Nat} {told : Int} (h : vint ks at_ = some (told, e)) (hc : ¬ ((e - at_ > 1 ∧ told < 64) ∨ (e - at_ > 2 ∧ told < 16384) ∨ (e - at_ > 4 ∧ told < 2 ^ 30))) (h0 : told ≠ 0) :
    sOne ks at_ = match sBody ks e told with | none => .inl 7 | some r => .inr r := by
  unfold sOne; rw [h]; exact (if_neg hc).trans (if_neg h0)
end
end Mine
namespace Mine
/-! Pv -/
section
open PySem PySem.W PyProof.Rows
theorem sizes_at {k : Int} (h0 : 0 ≤ k) (h1 : k < 256) (a b c d : Tok) : ∃ t, ([Value.int 1 a, Value.int 2 b, Value.int 4 c, Value.int 8 d] : List Value)[(k.fdiv 64).toNat]? = some (Value.int (vsize k) t) ∧ seqIndex? (k.fdiv 64) 4 = some (k.fdiv 64).toNat ∧ 0 ≤ k.fdiv 64 ∧ k.fdiv 64 < 4 := by
  rcases vsize_cases h0 h1 with h | h | h | h <;> (rw [h.1, h.2]; exact ⟨_, rfl, rfl, by decide, by decide⟩)
theorem vfold_split : ∀ (l : List Int) (f : Int), vfold f l = f * 256 ^ l.length + vfold 0 l
  | [], f => by simp [vfold]
  | o :: l, f => by
    have e1 : vfold f (o :: l) = vfold (f * 256 + o) l := rfl
    have e2 : vfold 0 (o :: l) = vfold (0 * 256 + o) l := rfl
    rw [e1, e2, vfold_split l (f * 256 + o), vfold_split l (0 * 256 + o), List.length_cons, Int.pow_succ]
    grind
theorem and_mask {x : Int} (p : Nat) (h : 0 ≤ x) : Builtin.bitAnd x (1 * 2 ^ p - 1) = x % 2 ^ p := by
  have hp : (0 : Int) < 2 ^ p := Int.pow_pos (by decide)
  obtain ⟨n, rfl⟩ := Int.eq_ofNat_of_zero_le h
  rw [bitAnd_pp h (by omega)]
  have e : ((1 : Int) * 2 ^ p - 1).toNat = 2 ^ p - 1 := by
    have : (2 : Int) ^ p = ((2 ^ p : Nat) : Int) := (Int.natCast_pow 2 p).symm
    rw [this]; omega
  rw [e, Int.toNat_natCast, Nat.and_two_pow_sub_one_eq_mod]
  simp
theorem vint_mask {ks : List Int} {at_ : Nat} (ho : Oct ks) (hl : at_ + vsize (ks.getD at_ 0) ≤ ks.length) :
    Builtin.bitAnd (vfold 0 ((ks.drop at_).take (vsize (ks.getD at_ 0)))) (1 * 2 ^ ((8 : Int) * (vsize (ks.getD at_ 0) : Int) - 2).toNat - 1) = vfold ((ks.getD at_ 0).fmod 64) ((ks.drop (at_ + 1)).take (vsize (ks.getD at_ 0) - 1)) := by
  have hk := ho.getD at_
  have hv := vsize_bound hk.1 hk.2
  have hlt : at_ < ks.length := by omega
  have hd : ks.drop at_ = ks.getD at_ 0 :: ks.drop (at_ + 1) := by
    rw [List.drop_eq_getElem_cons hlt]; congr 1; simp [List.getD, hlt]
  generalize hk0 : ks.getD at_ 0 = k at *
  generalize hs : vsize k = s at *
  obtain ⟨s, rfl⟩ : ∃ q, s = q + 1 := ⟨s - 1, by omega⟩
  rw [hd, List.take_succ_cons, Nat.add_sub_cancel]
  have ho' : Oct ((ks.drop (at_ + 1)).take s) := (ho.drop _).take _
  have hlen : ((ks.drop (at_ + 1)).take s).length = s := by rw [List.length_take, List.length_drop]; omega
  generalize (ks.drop (at_ + 1)).take s = l at *
  have e1 : vfold 0 (k :: l) = vfold k l := by show vfold (0 * 256 + k) l = _; congr 1; omega
  have hb := vfold_bound l 0 1 ho' (by decide) (by decide)
  rw [hlen] at hb
  have hm : k.fmod 64 = k % 64 := Int.fmod_eq_emod_of_nonneg _ (by decide)
  have hp : (8 * ((s + 1 : Nat) : Int) - 2).toNat = 6 + 8 * s := by omega
  have h256 : (2 : Int) ^ (6 + 8 * s) = 64 * 256 ^ s := by rw [Int.pow_add, Int.pow_mul]; rfl
  have hpos : (0 : Int) < 256 ^ s := Int.pow_pos (by decide)
  rw [e1, hp, vfold_split l k, vfold_split l (k.fmod 64), hlen, hm]
  have hK : 0 ≤ k * 256 ^ s := Int.mul_nonneg hk.1 (by omega)
  rw [and_mask _ (by omega), h256]
  have e : k * 256 ^ s + vfold 0 l = (k % 64 * 256 ^ s + vfold 0 l) + 64 * 256 ^ s * (k / 64) := by
    have := Int.mul_ediv_add_emod k 64
    grind
  rw [e, Int.add_mul_emod_self_left]
  refine Int.emod_eq_of_lt ?_ ?_
  · have : 0 ≤ k % 64 * 256 ^ s := Int.mul_nonneg (by omega) (by omega)
    omega
  · have : k % 64 * 256 ^ s ≤ 63 * 256 ^ s := Int.mul_le_mul_of_nonneg_right (by omega) (by omega)
    omega
theorem vint_fit {ks : List Int} {at_ e : Nat} {n : Int} (ho : Oct ks) (h : vint ks at_ = some (n, e)) : (e = at_ + 1 ∧ n < 64) ∨ (e = at_ + 2 ∧ n < 16384) ∨ (e = at_ + 4 ∧ n < 1073741824) ∨ e = at_ + 8 := by
  have hk := ho.getD at_
  have hm : 0 ≤ (ks.getD at_ 0).fmod 64 ∧ (ks.getD at_ 0).fmod 64 < 64 := by rw [Int.fmod_eq_emod_of_nonneg _ (by decide)]; omega
  have hb := vfold_bound ((ks.drop (at_ + 1)).take (vsize (ks.getD at_ 0) - 1)) _ 64 ((ho.drop _).take _) hm.1 hm.2
  have hl := (vint_bound ho h).2.2.2
  unfold vint at h
  split at h
  · cases h
  · split at h
    · cases h
    · simp only [Option.some.injEq, Prod.mk.injEq] at h
      obtain ⟨h1, h2⟩ := h
      rw [h1] at hb
      have hlen : ((ks.drop (at_ + 1)).take (vsize (ks.getD at_ 0) - 1)).length = vsize (ks.getD at_ 0) - 1 := by rw [List.length_take, List.length_drop]; omega
      rw [hlen] at hb
      rcases vsize_cases hk.1 hk.2 with c | c | c | c <;> rw [c.2] at hb h2
      · exact .inl ⟨h2.symm, by simpa using hb.2⟩
      · exact .inr (.inl ⟨h2.symm, by simpa using hb.2⟩)
      · exact .inr (.inr (.inl ⟨h2.symm, by simpa using hb.2⟩))
      · exact .inr (.inr (.inr h2.symm))
end
end Mine
namespace Mine
/-! Pw -/
section
open PySem PySem.W PyProof.Rows
section
variable {ks : List Int} {at_ e : Nat} {told : Int} {d : D}
theorem cnt_le {l o : List Int} {many : Nat} (ho : Oct ks) (hat : at_ ≤ ks.length) (h : sCounted ks at_ many = some (l, o, e)) : at_ ≤ e := by
  obtain ⟨l', e', h1, h2, _, _, h5⟩ := sCounted_inv h
  have := nums_bound ho hat h1
  omega
theorem streamTo_e {r : List Int × List Int × Nat} (h : sStreamTo told r = some (d, e)) : e = r.2.2 := by
  unfold sStreamTo at h
  by_cases hc : (2 : Int) ^ 62 ≤ (if told.toNat / 4 % 2 = 1 then r.1.getD 1 0 else 0) + (r.2.1.length : Int)
  · rw [if_pos hc] at h; cases h
  · rw [if_neg hc] at h; cases h; rfl
theorem stream_le (ho : Oct ks) (hat : at_ ≤ ks.length) (h : sStream ks at_ told = some (d, e)) : at_ ≤ e := by
  by_cases h2 : told.toNat / 2 % 2 = 1
  · rw [sStream_c h2] at h
    obtain ⟨⟨l, o, e'⟩, h1, h3⟩ := Option.bind_eq_some_iff.mp h
    rw [streamTo_e h3]
    exact cnt_le ho hat h1
  · rw [sStream_n h2] at h
    obtain ⟨⟨l, o, e'⟩, h1, h3⟩ := Option.bind_eq_some_iff.mp h
    rw [streamTo_e h3]
    obtain ⟨q, _, h4⟩ := Option.map_eq_some_iff.mp h1
    cases h4
    exact hat
theorem tail_e {sz : Nat} {t : List Int × Nat} (h : sTail ks at_ sz = some t) : t.2 = at_ + sz :=
  oa_ite (P := fun t : List Int × Nat => t.2 = at_ + sz) (fun _ => oa_none) (fun _ => oa_some rfl) t h
theorem given_oa (ho : Oct ks) (hat : at_ ≤ ks.length) : OA (fun r => at_ ≤ r.2) (sGiven ks at_) :=
  oa_bind fun r hr => oa_ite (fun _ => oa_none) fun _ => oa_ite (fun _ => oa_none) fun _ => oa_ite (fun _ => oa_none) fun _ => oa_map fun t ht => by
    show at_ ≤ t.2
    rw [tail_e ht]
    exact Nat.le_trans (nums_bound ho hat hr).2.1 (Nat.le_trans (Nat.le_succ _) (Nat.le_add_right _ _))
theorem ranges_oa (ho : Oct ks) (hat : at_ ≤ ks.length) : OA (fun q => at_ ≤ q.2.2 ∧ q.2.2 ≤ ks.length) (sRanges ks at_) :=
  oa_bind fun r hr => oa_ite (fun _ => oa_none) fun _ => oa_map fun q hq => by
    have h4 := nums_bound ho hat hr
    have h5 := rstep_bound ho h4.2.2 hq
    exact ⟨Nat.le_trans h4.2.1 (Nat.le_trans (Nat.le_add_right _ _) h5.2.1), h5.2.2⟩
theorem ack_oa (ho : Oct ks) (hat : at_ ≤ ks.length) : OA (fun r => at_ ≤ r.2) (sAck ks at_ told) :=
  oa_bind fun q hq => oa_map fun _ hc =>
    have h := ranges_oa ho hat q hq
    Nat.le_trans h.1 (nums_bound ho h.2 hc).2.1
theorem other_oa (ho : Oct ks) (hat : at_ ≤ ks.length) : OA (fun r => at_ ≤ r.2) (sOther ks at_ told) := by
  unfold sOther
  cases plainK told with
  | some p => exact oa_map fun r hr => (nums_bound ho hat hr).2.1
  | none =>
    exact oa_ite (fun _ => oa_bind fun r hr => oa_ite (fun _ => oa_none) fun _ => oa_some (cnt_le ho hat hr)) fun _ =>
      oa_ite (fun _ => oa_bind fun r hr => oa_ite (fun _ => oa_none) fun _ => oa_some (cnt_le ho hat hr)) fun _ =>
      oa_ite (fun _ => oa_bind fun r hr => oa_ite (fun _ => oa_none) fun _ => oa_some (nums_bound ho hat hr).2.1) fun _ =>
      oa_ite (fun _ => oa_map fun t ht => (tail_e ht).symm ▸ Nat.le_add_right _ _) fun _ =>
      oa_ite (fun _ => oa_map fun r hr => cnt_le ho hat hr) fun _ =>
      oa_ite (fun _ => oa_map fun r hr => cnt_le ho hat hr) fun _ => oa_none
theorem one_lt (ho : Oct ks) (h : sOne ks at_ = .inr (d, e)) : at_ < e := by
  obtain ⟨told, after, hv, h⟩ := one_cases h
  have hb := vint_bound ho hv
  rcases h with ⟨_, rfl⟩ | h
  · exact Nat.lt_of_lt_of_le hb.2.2.1 (Nat.le_add_right _ _)
  · have hl := hb.2.2.2.1
    exact Nat.lt_of_lt_of_le hb.2.2.1 (oa_body (ack_oa ho hl) (fun r hr => stream_le ho hl hr) (given_oa ho hl) (other_oa ho hl) _ h)
theorem go_end {f : Nat} {acc : List D} (h : ks.length ≤ at_) : sGo ks f at_ acc = .inr acc := by
  cases f with
  | zero => rfl
  | succ f => unfold sGo; rw [if_pos h]
theorem go_inl {f : Nat} {acc : List D} {c : Int} (hf : ks.length ≤ f + at_) (hat : at_ < ks.length) (h : sOne ks at_ = .inl c) : sGo ks f at_ acc = .inl c := by
  cases f with
  | zero => omega
  | succ f => unfold sGo; rw [if_neg (by omega), h]
theorem go_inr {f : Nat} {acc : List D} (ho : Oct ks) (hf : ks.length ≤ f + at_) (hat : at_ < ks.length) (h : sOne ks at_ = .inr (d, e)) : ∃ f', ks.length ≤ f' + e ∧ sGo ks f at_ acc = sGo ks f' e (acc ++ [d]) := by
  cases f with
  | zero => omega
  | succ f =>
    have := one_lt ho h
    refine ⟨f, by omega, ?_⟩
    rw [sGo, if_neg (by omega), h]
/-- what stands between two frames -/
def At (ks : List Int) (at_ : Nat) (acc : List D) : Prop := ∃ f, ks.length ≤ f + at_ ∧ sAll ks = sGo ks f at_ acc ∧ acc.length ≤ at_
theorem at_zero (h : ks.length ≠ 0) : At ks 0 [] := ⟨ks.length, Nat.le_refl _, by unfold sAll; rw [if_neg h], Nat.le_refl _⟩
theorem At.end_ {acc : List D} (h : At ks at_ acc) (hat : ks.length ≤ at_) : sAll ks = .inr acc := by
  obtain ⟨f, h1, h2, _⟩ := h
  rw [h2, go_end hat]
theorem At.stop {acc : List D} {c : Int} (h : At ks at_ acc) (hat : at_ < ks.length) (ho : sOne ks at_ = .inl c) : sAll ks = .inl c := by
  obtain ⟨f, h1, h2, _⟩ := h
  rw [h2, go_inl h1 hat ho]
theorem At.next {acc : List D} (ho : Oct ks) (h : At ks at_ acc) (hat : at_ < ks.length) (hd : sOne ks at_ = .inr (d, e)) : At ks e (acc ++ [d]) := by
  obtain ⟨f, h1, h2, h3⟩ := h
  obtain ⟨f', h4, h5⟩ := go_inr (acc := acc) ho h1 hat hd
  have := one_lt ho hd
  exact ⟨f', h4, h2.trans h5, by rw [List.length_append, List.length_singleton]; omega⟩
end
end
end Mine
namespace Mine
/-! Bn -/
section
open PySem PySem.W PyProof.Rows
section
variable {prog : Program} {w : World} {A : Around} {E : Value → Shared → Prop} {s : Shared}
theorem bm_no_bytesI : typeLookup (.type "int") "__bytes__" = pure none := by rw [typeLookup_type, builtinLookup_eq_fast]; kernel_rfl
theorem bm_indexI : ∃ n, typeLookup (.type "int") "__index__" = pure (some n) := ⟨.builtin "int.__index__", by rw [typeLookup_type, builtinLookup_eq_fast]; kernel_rfl⟩
theorem bn_new {n : Int} {u : Tok} {Q : Value → Shared → Prop} (h0 : 0 ≤ n) (h1 : n ≤ 100)
    (hQ : ∀ t k, Q (.bytes (Array.replicate n.toNat 0) t) { s with toks := k }) :
    codeAny (model prog w) A (.call (.builtin "bytes.__new__") ⟨[.type "bytes", .int n u], []⟩) (wants Q E) s := by
  refine codeAny_of_tree ?_
  show wpAny _ A.in1 (do checkBuiltinCall "bytes.__new__" ⟨[.type "bytes", .int n u], []⟩; again (.builtin "bytes.__new__" ⟨[.type "bytes", .int n u], []⟩)) _ _ s
  refine wpAny_bind (wpAny_of_eq (F.bm_newCall _) (wpAny_pure ⟨plainId_quiet F.bm_plain _, codeAny_builtin F.bm_entry ?_⟩))
  rw [Around.under_plainId F.bm_plain _]
  have hT : s.TypeIs (.int n u) "int" := rfl
  unfold Builtin.«bytes.__new__»
  refine wpAny_bind (wpAny_of_eq (a := true) rfl ?_)
  refine bm_if_false rfl ?_
  refine wpAny_bind (wpAny_of_eq F.bm_sub ?_)
  refine bm_if_false rfl ?_
  refine wpAny_bind (wpAny_of_eq (F.bm_bind _) ?_)
  refine wpAny_bind (wpAny_of_eq (a := ()) rfl ?_)
  refine wpAny_bind (wpAny_of_eq (a := ()) rfl ?_)
  refine bm_if_false rfl ?_
  refine wpAny_bind (wpAny_specialOf hT bm_no_bytesI ?_)
  refine wpAny_bind (wpAny_bind ?_)
  refine wpAny_of_eq (a := (none : Option Str)) rfl ?_
  refine wpAny_pure ?_
  refine bm_if_false rfl ?_
  obtain ⟨nm, hnm⟩ := bm_indexI
  refine wpAny_bind (wpAny_specialOf hT hnm ?_)
  refine bm_if_false rfl ?_
  refine wpAny_bind (wpAny_attempt (wpAny_of_eq (rfl : asIndex (.int n u) = pure n) ?_))
  dsimp only
  refine bm_if_false (by simp [Builtin.Bytes.fitsIndex]; omega) ?_
  rw [if_neg (show ¬ n < 0 by omega), if_neg (show ¬ n > 2 ^ 63 - 34 by omega)]
  refine bm_if_false (by simp [Builtin.Bytes.tooLong, sizeLine_eq]; omega) ?_
  refine wpAny_bind (wpAny_rule ?_)
  refine wpAny_bind (wpAny_mkBytes ?_ (by rw [Array.size_replicate, sizeLine_eq]; omega))
  show wpAny _ _ (if (Value.type "bytes" == Value.type "bytes") = true then _ else _) _ _ _
  refine bm_if_true (by decide) ?_
  first
    | exact wpAny_pure (hQ _ _)
    | exact wpAny_bind (wpAny_pure (wpAny_pure (hQ _ _)))
theorem call_bytes_n {n : Int} {u : Tok} {Q : Value → Shared → Prop} (h0 : 0 ≤ n) (h1 : n ≤ 100)
    (hQ : ∀ t k, Q (.bytes (Array.replicate n.toNat 0) t) { s with toks := k }) : wpAny (model prog w) A (call (.type "bytes") [.int n u]) Q E s := by
  refine callType_codes (Q₁ := fun obj s₁ => s₁.TypeIs obj "bytes" ∧ Q obj s₁) F.bm_called (F.bm_typeCall _) F.entry_object_init
    (bn_new h0 h1 fun t k => ⟨PySem.W.typeIs_bytes _ _ _, hQ t k⟩) fun obj s₁ h₁ => ?_
  exact ⟨h₁.1, F.args_object_init_2 obj _, object_init_meets F.bm_called.init.lookup F.bm_called.made (by decide) prog w A.in1 _ s₁ ⟨h₁.1, rfl, h₁.2⟩⟩
theorem call_bytes_16 {u : Tok} {Q : Value → Shared → Prop} (hQ : ∀ t k, Q (.bytes [0, 0, 0, 0, 0, 0, 0, 0, 0, 0, 0, 0, 0, 0, 0, 0].toArray t) { s with toks := k }) : wpAny (model prog w) A (call (.type "bytes") [.int 16 u]) Q E s := call_bytes_n (by decide) (by decide) hQ
theorem call_bytes_7 {u : Tok} {Q : Value → Shared → Prop} (hQ : ∀ t k, Q (.bytes [0, 0, 0, 0, 0, 0, 0].toArray t) { s with toks := k }) : wpAny (model prog w) A (call (.type "bytes") [.int 7 u]) Q E s := call_bytes_n (by decide) (by decide) hQ
end
end
end Mine
namespace Mine
/-! Eq -/
section
open PySem PySem.W PyProof.Rows
mutual
noncomputable def dDeep : D → Nat
  | .tuple ds => dDeeps ds + 1
  | _ => 0
noncomputable def dDeeps : List D → Nat
  | [] => 0
  | d :: ds => max (dDeep d) (dDeeps ds)
end
theorem dDeeps_le {n : Nat} : ∀ {ds : List D}, (∀ d ∈ ds, dDeep d ≤ n) → dDeeps ds ≤ n
  | [], _ => Nat.zero_le _
  | d :: ds, h => by
    rw [dDeeps]
    exact Nat.max_le.mpr ⟨h d (.head _), dDeeps_le fun e he => h e (.tail _ he)⟩
theorem dDeeps_mem {d : D} : ∀ {ds : List D}, d ∈ ds → dDeep d ≤ dDeeps ds
  | _ :: _, .head _ => by rw [dDeeps]; exact Nat.le_max_left _ _
  | _ :: _, .tail _ h => by rw [dDeeps]; exact Nat.le_trans (dDeeps_mem h) (Nat.le_max_right _ _)
theorem DAll.at_ {news : List (Addr × Obj)} : ∀ {vs : List Value} {ds : List D}, DAll news vs ds → ∀ (j : Nat) (h1 : j < vs.length) (h2 : j < ds.length), DIn news vs[j] ds[j]
  | _, _, .cons k _, 0, _, _ => k
  | _, _, .cons _ r, j + 1, h1, h2 => r.at_ j (Nat.lt_of_succ_lt_succ h1) (Nat.lt_of_succ_lt_succ h2)
theorem map_inj {α β : Type} {f : α → β} (hf : ∀ x y, f x = f y → x = y) : ∀ {l r : List α}, l.map f = r.map f → l = r
  | [], [], _ => rfl
  | [], _ :: _, h => by cases h
  | _ :: _, [], h => by cases h
  | a :: l, b :: r, h => by
    rw [List.map_cons, List.map_cons] at h
    injection h with h1 h2
    rw [hf _ _ h1, map_inj hf h2]
theorem bInts_eq {b c : Array UInt8} (h : KBw.bInts b = KBw.bInts c) : b.toList = c.toList := by
  unfold KBw.bInts at h
  have : ∀ x y : UInt8, (x.toNat : Int) = (y.toNat : Int) → x = y := fun x y q => UInt8.toNat_inj.mp (Int.ofNat.inj q)
  exact map_inj this h
theorem eq_in : ∀ (n : Nat) {d : D}, dDeep d ≤ n → ∀ {A : Around} {s : Shared} {n1 n2 : List (Addr × Obj)} {v u : Value}, (∀ p ∈ n1, s.heap.get? p.1 = some p.2) → (∀ p ∈ n2, s.heap.get? p.1 = some p.2) → DIn n1 v d → DIn n2 u d → A.units + n < cLine → SeqAt.EqAt A s v u true := by
  intro n
  induction n with
  | zero =>
    intro d hd A s n1 n2 v u h1 h2 a b hu
    cases a with
    | none => cases b; exact SeqAt.EqAt.same _
    | bool x => cases b; exact SeqAt.EqAt.same _
    | int i t => cases b; simpa using SeqAt.EqAt.int_int (A := A) (s := s) i _ i _
    | str x t => cases b; simpa using SeqAt.EqAt.str_str (A := A) (s := s) x _ x _
    | bytes t hb =>
      cases b with
      | bytes t2 hb2 =>
        intro prog w E Q hq
        exact eqBool_bytes (by rw [decide_eq_true (bInts_eq (hb.trans hb2.symm))]; exact hq)
    | tuple hm r => rw [dDeep] at hd; omega
  | succ n ih =>
    intro d hd A s n1 n2 v u h1 h2 a b hu
    cases a with
    | none => cases b; exact SeqAt.EqAt.same _
    | bool x => cases b; exact SeqAt.EqAt.same _
    | int i t => cases b; simpa using SeqAt.EqAt.int_int (A := A) (s := s) i _ i _
    | str x t => cases b; simpa using SeqAt.EqAt.str_str (A := A) (s := s) x _ x _
    | bytes t hb =>
      cases b with
      | bytes t2 hb2 =>
        intro prog w E Q hq
        exact eqBool_bytes (by rw [decide_eq_true (bInts_eq (hb.trans hb2.symm))]; exact hq)
    | @tuple p vs ds hm r =>
      cases b with
      | @tuple q us _ hm2 r2 =>
        rw [dDeep] at hd
        by_cases hpq : p = q
        · subst hpq; exact SeqAt.EqAt.same _
        · have l1 := r.length
          have l2 := r2.length
          have := SeqAt.RcAt.tuples (A := A) (s := s) (l := p) (b := q) (items := vs.toArray) (items2 := us.toArray) (e := fun _ => true) ⟨_, h1 _ hm, rfl, _, rfl⟩ ⟨_, h2 _ hm2, rfl, _, rfl⟩ (by omega) (fun j k1 k2 => by
            have k1' : j < vs.length := by simpa using k1
            have k2' : j < us.length := by simpa using k2
            have hj := dDeeps_mem (List.getElem_mem (l := ds) (n := j) (by omega))
            exact ih (by omega) h1 h2 (r.at_ j k1' (by omega)) (r2.at_ j k2' (by omega)) (by show A.units + 1 + n < _; omega))
          rw [show ((List.range (min vs.toArray.size us.toArray.size)).all (fun _ => true) && vs.toArray.size == us.toArray.size) = true by simp [l1, l2]] at this
          exact SeqAt.EqAt.of_refs hpq this
theorem ne_same {prog : Program} {w : World} {A : Around} {E : Value → Shared → Prop} {s : Shared} {a b : Addr} {n1 n2 : List (Addr × Obj)} {xs ys : List Value} {ka kb : Nat} {ds : List D} {Q : Value → Shared → Prop}
    (ha : s.heap.get? a = some (listOf xs.toArray ka)) (hb : s.heap.get? b = some (listOf ys.toArray kb)) (Da : DAll n1 xs ds) (Db : DAll n2 ys ds) (h1 : ∀ p ∈ n1, s.heap.get? p.1 = some p.2) (h2 : ∀ p ∈ n2, s.heap.get? p.1 = some p.2)
    (hd : ∀ d ∈ ds, dDeep d ≤ 4) (hu : A.units + 8 < cLine) (h : Q (.bool false) s) : wpAny (model prog w) A (compareOp .NotEq (.ref a) (.ref b)) Q E s := by
  have l1 := Da.length
  have l2 := Db.length
  have := SeqAt.RcNeAt.lists (A := A) (s := s) (l := a) (b := b) (items := xs.toArray) (items2 := ys.toArray) (e := fun _ => true) ⟨_, ha, rfl, _, rfl⟩ ⟨_, hb, rfl, _, rfl⟩ (by simp [l1, l2]) (by omega) (fun j k1 k2 => by
    have k1' : j < xs.length := by simpa using k1
    have k2' : j < ys.length := by simpa using k2
    exact eq_in 4 (hd _ (List.getElem_mem (l := ds) (n := j) (by omega))) h1 h2 (Da.at_ j k1' (by omega)) (Db.at_ j k2' (by omega)) (by show A.units + 1 + 4 < _; omega))
  rw [show (!(List.range xs.toArray.size).all (fun _ => true)) = false by simp] at this
  exact this prog w E Q h
/-! ### how deep a frame is -/
theorem deep_tuple {ds : List D} {n : Nat} (h : ∀ d ∈ ds, dDeep d ≤ n) : dDeep (.tuple ds) ≤ n + 1 := by rw [dDeep]; exact Nat.succ_le_succ (dDeeps_le h)
theorem deep_ints (l : List Int) : ∀ d ∈ l.map D.int, dDeep d ≤ 0 := by
  intro d hd
  obtain ⟨i, _, rfl⟩ := List.mem_map.mp hd
  simp [dDeep]
theorem deep_pair {a b : Int} : dDeep (.tuple [.int a, .int b]) ≤ 1 := by simp [dDeep, dDeeps]
theorem deep_sing {a b : Int} : ∀ d ∈ [D.tuple [.int a, .int b]], dDeep d ≤ 1 := fun _ hd => List.mem_singleton.mp hd ▸ deep_pair
theorem deep_rstep {ks : List Int} {st : Int × Nat × List D} (hs : ∀ d ∈ st.2.2, dDeep d ≤ 1) : ∀ (n : Nat), OA (fun st' => ∀ d ∈ st'.2.2, dDeep d ≤ 1) (itO (rstep ks) n st)
  | 0 => oa_some hs
  | n + 1 => oa_bind fun mid hm => oa_bind fun _ _ => oa_ite (fun _ => oa_none) fun _ => oa_some fun d hd =>
    (List.mem_append.mp hd).elim (deep_rstep hs n mid hm d) fun hd => List.mem_singleton.mp hd ▸ deep_pair
theorem deep_ranges {ks : List Int} {at_ : Nat} : OA (fun q => ∀ d ∈ q.2.1, dDeep d ≤ 1) (sRanges ks at_) :=
  oa_bind fun _ _ => oa_ite (fun _ => oa_none) fun _ => oa_map fun q hq => deep_rstep (by exact deep_sing) _ q hq
theorem deep_ack {ks : List Int} {at_ : Nat} {told : Int} : OA (fun r => dDeep r.1 ≤ 4) (sAck ks at_ told) :=
  oa_bind fun q hq => oa_map fun c _ => deep_tuple (n := 3) fun x hx => by
    have h1 : dDeep (.tuple q.2.1) ≤ 3 := Nat.le_trans (deep_tuple (deep_ranges q hq)) (by decide)
    have h2 : dDeep (if told = 3 then .tuple (c.1.map D.int) else .none) ≤ 3 := by
      by_cases h : told = 3
      · rw [if_pos h]; exact Nat.le_trans (deep_tuple (deep_ints _)) (by decide)
      · rw [if_neg h]; exact Nat.zero_le _
    cases hx with
    | head => exact Nat.zero_le _
    | tail _ hx => cases hx with
      | head => exact Nat.zero_le _
      | tail _ hx => cases hx with
        | head => exact h1
        | tail _ hx => rw [List.mem_singleton.mp hx]; exact h2
noncomputable def flatD : D → Bool
  | .tuple _ => false
  | _ => true
theorem deep_flat {ds : List D} (h : ds.all flatD = true) : dDeep (.tuple ds) ≤ 4 := by
  refine Nat.le_trans (deep_tuple (n := 0) fun d hd => ?_) (by omega)
  have := List.all_eq_true.mp h d hd
  cases d <;> first | (simp [dDeep]; done) | cases this
theorem flat_ints (l : List Int) : (l.map D.int).all flatD = true := List.all_eq_true.mpr fun d hd => by obtain ⟨i, _, rfl⟩ := List.mem_map.mp hd; rfl
theorem deep_stream {ks : List Int} {at_ e : Nat} {told : Int} {d : D} (h : sStream ks at_ told = some (d, e)) : dDeep d ≤ 4 := by
  unfold sStream at h
  obtain ⟨r, _, h⟩ := Option.bind_eq_some_iff.mp h
  by_cases hc : (2 : Int) ^ 62 ≤ (if told.toNat / 4 % 2 = 1 then r.1.getD 1 0 else 0) + (r.2.1.length : Int)
  · rw [if_pos hc] at h; cases h
  · rw [if_neg hc] at h; cases h; exact deep_flat rfl
theorem deep_given {ks : List Int} {at_ : Nat} : OA (fun r => dDeep r.1 ≤ 4) (sGiven ks at_) :=
  oa_bind fun _ _ => oa_ite (fun _ => oa_none) fun _ => oa_ite (fun _ => oa_none) fun _ => oa_ite (fun _ => oa_none) fun _ => oa_map fun _ _ => deep_flat rfl
theorem deep_other {ks : List Int} {at_ : Nat} {told : Int} : OA (fun r => dDeep r.1 ≤ 4) (sOther ks at_ told) := by
  unfold sOther
  cases plainK told with
  | some p => exact oa_map fun r _ => deep_flat (by rw [List.all_cons, flat_ints]; rfl)
  | none =>
    exact oa_ite (fun _ => oa_bind fun _ _ => oa_ite (fun _ => oa_none) fun _ => oa_some (deep_flat rfl)) fun _ =>
      oa_ite (fun _ => oa_bind fun _ _ => oa_ite (fun _ => oa_none) fun _ => oa_some (deep_flat rfl)) fun _ =>
      oa_ite (fun _ => oa_bind fun _ _ => oa_ite (fun _ => oa_none) fun _ => oa_some (deep_flat rfl)) fun _ =>
      oa_ite (fun _ => oa_map fun _ _ => deep_flat rfl) fun _ =>
      oa_ite (fun _ => oa_map fun _ _ => deep_flat rfl) fun _ =>
      oa_ite (fun _ => oa_map fun _ _ => deep_flat rfl) fun _ => oa_none
theorem deep_one {ks : List Int} {at_ e : Nat} {d : D} (h : sOne ks at_ = .inr (d, e)) : dDeep d ≤ 4 := by
  obtain ⟨told, after, _, h⟩ := one_cases h
  rcases h with ⟨rfl, _⟩ | h
  · exact deep_flat rfl
  · exact oa_body deep_ack (fun r hr => deep_stream (e := r.2) hr) deep_given deep_other _ h
theorem deep_go {ks : List Int} : ∀ (f : Nat) {at_ : Nat} {acc ds : List D}, sGo ks f at_ acc = .inr ds → (∀ d ∈ acc, dDeep d ≤ 4) → ∀ d ∈ ds, dDeep d ≤ 4
  | 0, _, _, _, h, ha => by cases h; exact ha
  | f + 1, at_, acc, ds, h, ha => by
    unfold sGo at h
    split at h
    · cases h; exact ha
    split at h
    · cases h
    · rename_i r hr
      refine deep_go f h fun d hd => ?_
      rcases List.mem_append.mp hd with hd | hd
      · exact ha d hd
      · rw [List.mem_singleton.mp hd]; exact deep_one (e := r.2) hr
theorem deep_all {ks : List Int} {ds : List D} (h : sAll ks = .inr ds) : ∀ d ∈ ds, dDeep d ≤ 4 := by
  unfold sAll at h
  split at h
  · cases h
  · exact deep_go _ h fun d hd => by cases hd
end
end Mine
namespace Mine
/-! Fl -/
section
open PySem PySem.W PyProof.Rows
/-! ### an exception under way: its class, its own dict, the mark in its traceback -/
def Tr (B : Heap) (e : Addr) (C : Value) (dd : Option Addr) (cx fl : Value) (h : Heap) : Prop :=
  ∃ oe vs T oT ts, h.get? e = some oe ∧ oe.cls = C ∧ oe.dict = dd ∧ oe.data = .fields vs ∧ vs[1]? = some (.ref T) ∧ vs[2]? = some cx ∧ B.get? T = none ∧ T ≠ e ∧ h.get? T = some oT ∧ oT.data = .fields ts ∧ ts[3]? = some fl
def Fly (B : Heap) (l : List Env) (e : Addr) (C : Value) (dd : Option Addr) (cx fl : Value) (h : Heap) : Prop :=
  B.StaysIn h ∧ B.get? e = none ∧ h.FunFrames B l ∧ Tr B e C dd cx fl h
theorem dict_mapFields (o : Obj) (f : Array Value → Array Value) : (Obj.mapFields f o).dict = o.dict := by
  obtain ⟨c, d, dt, sl⟩ := o
  cases dt <;> rfl
section
variable {M : Model} {A : Around} {E : Value → Shared → Prop} {s : Shared} {B : Heap} {env : Env} {outer : List Env} {l : List Env} {L e : Addr} {C : Value} {dd : Option Addr} {cx fl : Value}
theorem fly_entry {oe : Obj} {vs : Array Value} {head : Value} {hadNext : Bool} {Q : Unit → Shared → Prop}
    (hfr : A.frames = some (env :: outer)) (hl : s.heap.FunFrames B (env :: outer)) (hf : env.frame = some L)
    (he : s.heap.get? e = some oe) (hkb : B.StaysIn s.heap) (hen : B.get? e = none) (hd : oe.data = .fields vs) (hsz : 1 < vs.size) (h2 : vs[2]? = some cx)
    (h : ∀ h', Fly B (env :: outer) e oe.cls oe.dict cx (rawInt L) h' → s.heap.UpToSlots h' → Q () { s with heap := h' }) :
    wpAny M A (do let a ← frameOf env; let pl ← entryPlaceOf L hadNext; let b ← EntryCells.newEntry head a .none (rawInt L) .none pl; setField (.ref e) 1 b) Q E s := by
  have offE : e ∉ (env :: outer).filterMap (·.frame) := fun hm => by
    obtain ⟨_, o, ho, hnf⟩ := hl.mem hm
    rw [he] at ho; injection ho with ho; subst ho; exact hnf vs hd
  refine wpAny_bind (wpAny_frameOf_fun hfr hl hf fun h₁ hs₁ => ?_)
  refine wpAny_bind (wpAny_entryPlaceOf fun pl hpl => ?_)
  unfold EntryCells.newEntry newFields
  refine wpAny_bind (wpAny_newObj_type ?_ (hpl.sizeOk5 _ _ _ _ _))
  generalize hTo : ({ cls := .type "traceback", dict := none, data := .fields ([head, .ref L, .none, rawInt L, .none] ++ (if pl.isEmpty then List.replicate 6 Value.none else pl)).toArray } : Obj) = To
  have hTod : To.data = .fields ([head, .ref L, .none, rawInt L, .none] ++ (if pl.isEmpty then List.replicate 6 Value.none else pl)).toArray := by rw [← hTo]
  have he₁ : h₁.get? e = some oe := (hs₁.2.1 e offE).trans he
  have kb₁ : B.StaysIn h₁ := fun b o hbo => (hs₁.2.1 b fun hm => by rw [(hl.mem hm).1] at hbo; cases hbo).trans (hkb b o hbo)
  have he₂ := Heap.get?_push_of_some (h := h₁) To he₁
  refine wpAny_setField he₂ hd hsz (h _ ?_ ?_)
  all_goals have hTe : h₁.objs.size ≠ e := Nat.ne_of_gt (Heap.lt_size he₁)
  all_goals have hd₃ := Obj.data_mapFields hd (·.setIfInBounds 1 (Value.ref h₁.objs.size))
  all_goals have he₃ := Heap.get?_update_self (Obj.mapFields (·.setIfInBounds 1 (Value.ref h₁.objs.size))) he₂ (Obj.isFreed_of_fields hd₃)
  all_goals have hT₃ := (Heap.get?_update_other (h₁.push To) (Obj.mapFields (·.setIfInBounds 1 (Value.ref h₁.objs.size))) (Ne.symm hTe)).trans (Heap.get?_push_size h₁ (by rw [← hTo]; rfl))
  all_goals have keep : ∀ b o, b ≠ e → h₁.get? b = some o → ((h₁.push To).update e (Obj.mapFields (·.setIfInBounds 1 (Value.ref h₁.objs.size)))).get? b = some o := (fun b o hbe hb => (Heap.get?_update_other _ _ (Ne.symm hbe)).trans (Heap.get?_push_of_some _ hb))
  all_goals have noRec : ∀ b o, s.heap.get? b = some o → (∀ vs, o.data ≠ .fields vs) → b ≠ e := (fun b o hb hnf q => by rw [q, he] at hb; injection hb with hb; subst hb; exact hnf vs hd)
  · refine ⟨fun b o hbo => keep b o (fun q => by rw [q, hen] at hbo; cases hbo) (kb₁ b o hbo), hen, hl.of_keeps fun b o hb hnf => ?_, ?_⟩
    · obtain ⟨sl, hs⟩ := hs₁.2.2 b o hb
      exact ⟨_, keep b _ (noRec b o hb hnf) hs, rfl⟩
    · exact ⟨_, _, h₁.objs.size, _, _, he₃, Obj.cls_mapFields _ _, dict_mapFields _ _, hd₃, by simp [hsz], by rw [Array.getElem?_setIfInBounds_ne (by decide)]; exact h2, kb₁.fresh, hTe, hT₃, hTod, by first | (simp; done) | (rcases hpl with rfl | ⟨_, _, _, _, _, _, _, rfl⟩ <;> simp)⟩
  · intro b o hb hnf
    obtain ⟨sl, hs⟩ := hs₁.2.2 b o hb
    exact ⟨sl, keep b _ (noRec b o hb hnf) hs⟩
theorem fly_mark {T : Addr} {oe oT : Obj} {vs ts : Array Value} {x : Value} {Q : Unit → Shared → Prop} (hkb : B.StaysIn s.heap) (hen : B.get? e = none) (hl : s.heap.FunFrames B l)
    (he : s.heap.get? e = some oe) (hd : oe.data = .fields vs) (h1 : vs[1]? = some (.ref T)) (h2 : vs[2]? = some cx) (hnT : B.get? T = none) (hTe : T ≠ e) (hT : s.heap.get? T = some oT) (hdT : oT.data = .fields ts) (h3 : ts[3]? = some fl)
    (h : ∀ h', Fly B l e oe.cls oe.dict cx x h' → h'.get? e = some oe → s.heap.UpToSlots h' → Q () { s with heap := h' }) : wpAny M A (setField (.ref T) 3 x) Q E s := by
  have hsz3 : 3 < ts.size := (Array.getElem?_eq_some_iff.mp h3).1
  have other : ∀ b, b ≠ T → (s.heap.update T (Obj.mapFields (·.setIfInBounds 3 x))).get? b = s.heap.get? b := fun b hb => Heap.get?_update_other _ _ (Ne.symm hb)
  have noRec : ∀ b o, s.heap.get? b = some o → (∀ vs, o.data ≠ .fields vs) → b ≠ T := fun b o hb hnf q => by
    rw [q, hT] at hb; injection hb with hb; subst hb; exact hnf ts hdT
  refine wpAny_setField hT hdT hsz3 (h _ ⟨fun b o hbo => (other b fun q => by rw [q, hnT] at hbo; cases hbo).trans (hkb b o hbo), hen, hl.of_keeps fun b o hb hnf => ⟨o, (other b (noRec b o hb hnf)).trans hb, rfl⟩, ?_⟩
    ((other e (Ne.symm hTe)).trans he) fun b o hb hnf => ⟨o.slots, (other b (noRec b o hb hnf)).trans hb⟩)
  exact ⟨oe, vs, T, _, _, (other e (Ne.symm hTe)).trans he, rfl, rfl, hd, h1, h2, hnT, hTe, Heap.get?_update_self _ hT (Obj.isFreed_of_fields (Obj.data_mapFields hdT _)), Obj.data_mapFields hdT _, by simp [hsz3]⟩
theorem fly_set {fr : Option Addr} {Q : Unit → Shared → Prop} (R : Fly B l e C dd cx fl s.heap) (h : ∀ h', Fly B l e C dd cx (fr.elim .none fun f => rawInt f) h' → s.heap.UpToSlots h' → Q () { s with heap := h' }) :
    wpAny M A (setFlight (.ref e) fr) Q E s := by
  obtain ⟨hkb, hen, hl, oe, vs, T, oT, ts, he, rfl, rfl, hd, h1, h2, hnT, hTe, hT, hdT, h3⟩ := R
  unfold setFlight
  refine wpAny_bind (wpAny_field he hd h1 ?_)
  rw [if_pos (show (Value.ref T != Value.none) = true from by simp)]
  exact fly_mark hkb hen hl he hd h1 h2 hnT hTe hT hdT h3 fun h' R' _ U => h h' R' U
theorem fly_note_first {oe : Obj} {vs : Array Value} {Q : Unit → Shared → Prop} (hfr : A.frames = some (env :: outer)) (hl : s.heap.FunFrames B (env :: outer)) (hf : env.frame = some L)
    (he : s.heap.get? e = some oe) (hkb : B.StaysIn s.heap) (hen : B.get? e = none) (hd : oe.data = .fields vs) (h1 : vs[1]? = some .none) (h2 : vs[2]? = some cx)
    (h : ∀ h', Fly B (env :: outer) e oe.cls oe.dict cx (rawInt L) h' → s.heap.UpToSlots h' → Q () { s with heap := h' }) : wpAny M A (noteFrame (.ref e) env) Q E s := by
  unfold noteFrame
  simp only [hf]
  refine wpAny_bind (wpAny_field he hd h1 ?_)
  rw [if_neg (by decide)]
  exact fly_entry hfr hl hf he hkb hen hd (Array.getElem?_eq_some_iff.mp h1).1 h2 h
theorem fly_note {Q : Unit → Shared → Prop} (hfr : A.frames = some (env :: outer)) (hf : env.frame = some L) (R : Fly B (env :: outer) e C dd cx .none s.heap)
    (h : ∀ h', Fly B (env :: outer) e C dd cx (rawInt L) h' → s.heap.UpToSlots h' → Q () { s with heap := h' }) : wpAny M A (noteFrame (.ref e) env) Q E s := by
  obtain ⟨hkb, hen, hl, oe, vs, T, oT, ts, he, rfl, rfl, hd, h1, h2, hnT, hTe, hT, hdT, h3⟩ := R
  unfold noteFrame
  simp only [hf]
  refine wpAny_bind (wpAny_field he hd h1 ?_)
  rw [if_pos (show (Value.ref T != Value.none) = true from by simp)]
  refine wpAny_bind (wpAny_field hT hdT h3 ?_)
  rw [if_neg (show ¬ ((Value.none == rawInt L) = true) from by simp [rawInt])]
  refine wpAny_bind (fly_mark hkb hen hl he hd h1 h2 hnT hTe hT hdT h3 fun h₁ R₁ he₁ U₁ => ?_)
  exact fly_entry hfr R₁.2.2.1 hf he₁ R₁.1 hen hd (Array.getElem?_eq_some_iff.mp h1).1 h2 fun h' R' U' => h h' R' (U₁.trans U')
theorem fly_note_again {Q : Unit → Shared → Prop} (hf : env.frame = some L) (R : Fly B l e C dd cx (rawInt L) s.heap) (h : Q () s) : wpAny M A (noteFrame (.ref e) env) Q E s := by
  obtain ⟨hkb, hen, hl, oe, vs, T, oT, ts, he, rfl, rfl, hd, h1, h2, hnT, hTe, hT, hdT, h3⟩ := R
  unfold noteFrame
  simp only [hf]
  refine wpAny_bind (wpAny_field he hd h1 ?_)
  rw [if_pos (show (Value.ref T != Value.none) = true from by simp)]
  refine wpAny_bind (wpAny_field hT hdT h3 ?_)
  rw [if_pos (by simp)]
  exact wpAny_pure h
end
end
end Mine
namespace Mine
/-! Th -/
section
open PySem PySem.W PyProof.Rows
/-- what a callee leaves that raised: g is the ground that it stood on, kp what has not been touched -/
def Thrown (base g : Heap) (l : List Env) (e : Addr) (C : Value) (dd : Option Addr) (cx : Value) (kp : List (Addr × Obj)) (h : Heap) : Prop :=
  (∃ B, base.StaysIn B ∧ (∀ b o, g.get? b = some o → b ∉ l.filterMap (·.frame) → B.get? b = some o) ∧ (∀ q ∈ kp, B.get? q.1 = some q.2) ∧ Fly B l e C dd cx .none h) ∧ g.UpToSlots h ∧ ∀ q ∈ kp, g.get? q.1 = none
theorem Thrown.less {base g : Heap} {l : List Env} {e : Addr} {C : Value} {dd : Option Addr} {cx : Value} {kp kp' : List (Addr × Obj)} {h : Heap} (R : Thrown base g l e C dd cx kp h) (hs : ∀ q ∈ kp', q ∈ kp) : Thrown base g l e C dd cx kp' h :=
  let ⟨⟨B, h1, h2, h3, h4⟩, h5, h6⟩ := R
  ⟨⟨B, h1, h2, fun q hq => h3 q (hs q hq), h4⟩, h5, fun q hq => h6 q (hs q hq)⟩
section
variable {M : Model} {A : Around} {E : Value → Shared → Prop} {s' : Shared} {base g g₂ : Heap} {outer : List Env} {L a e : Addr} {m : Str → Option Value} {name : Str} {scope : Scope} {cd C cx : Value} {dd : Option Addr} {Q : Unit → Shared → Prop} {kp : List (Addr × Obj)}
theorem throw_first {oe : Obj} {vs : Array Value} (K : Below A base outer g) (F : Fr g L s'.heap m) (N : News g L s'.heap ((e, oe) :: kp)) (hd : oe.data = .fields vs) (h1 : vs[1]? = some .none) (h2 : vs[2]? = some cx) (hne : ∀ q ∈ kp, q.1 ≠ e)
    (hQ : ∀ h', Thrown base g outer e oe.cls oe.dict cx kp h' → Q () { s' with heap := h' }) (hk : scope.kind = .function := by rfl) :
    wpAny M (A.deeper (envOf name scope L a cd)) (leaving (envOf name scope L a cd) (.ref e)) Q E s' := by
  have K' := K.push (name := name) (a := a) (cd := cd) F hk
  have hes := (N _ (.head _)).1
  have hen := (N _ (.head _)).2.2
  generalize hfs : (envOf name scope L a cd :: outer).filterMap (·.frame) = fs at *
  have hin : ∀ env ∈ (envOf name scope L a cd :: outer), ∀ b, env.frame = some b → b ∈ e :: fs := fun env he b hb => .tail _ (hfs ▸ List.mem_filterMap.mpr ⟨env, he, hb⟩)
  have bn : ∀ b ∈ fs, base.get? b = none := fun b hb => (K'.frames.mem (hfs ▸ hb)).1
  have st : base.StaysIn (hideAll s'.heap (e :: fs)) := fun b o q => hideAll_get _ (K'.stays b o q) fun hm => by
    rcases List.mem_cons.mp hm with rfl | hm
    · have := K.stays _ _ q
      rw [hen] at this; cases this
    · rw [bn b hm] at q; cases q
  have sg : ∀ b o, g.get? b = some o → b ∉ outer.filterMap (·.frame) → (hideAll s'.heap (e :: fs)).get? b = some o := fun b o q nm => hideAll_get _ (F.keep b o q) fun hm => by
    rcases List.mem_cons.mp hm with rfl | hm
    · rw [hen] at q; cases q
    · rw [← hfs] at hm
      rcases kts_mem hm with z | z
      · rw [z, kts_self F] at q; cases q
      · exact nm z
  have sk : ∀ q ∈ kp, (hideAll s'.heap (e :: fs)).get? q.1 = some q.2 := fun q hq => hideAll_get _ (N q (.tail _ hq)).1 fun hm => by
    rcases List.mem_cons.mp hm with z | hm
    · exact hne q hq z
    · rw [← hfs] at hm
      rcases kts_mem hm with z | z
      · exact (N q (.tail _ hq)).2.1 z
      · obtain ⟨_, o, ho, _⟩ := K.frames.mem z
        rw [(N q (.tail _ hq)).2.2] at ho; cases ho
  have fr : s'.heap.FunFrames (hideAll s'.heap (e :: fs)) (envOf name scope L a cd :: outer) := funFrames_hide K'.frames hin
  unfold leaving
  refine wpAny_bind (fly_note_first (B := hideAll s'.heap (e :: fs)) K'.stack fr rfl hes (fun b o q => of_hideAll _ q) (hideAll_none _ (.head _)) hd h1 h2 fun h₁ R₁ U₁ => ?_)
  refine fly_set (fr := none) R₁ fun h₂ R₂ U₂ => ?_
  obtain ⟨k1, k2, ⟨_, _, k3⟩, k4⟩ := R₂
  exact hQ h₂ ⟨⟨_, st, sg, sk, k1, k2, k3, k4⟩, (Heap.UpToSlots.of_keeps F.keep).trans (U₁.trans U₂), fun q hq => (N q (.tail _ hq)).2.2⟩
theorem throw_next (K : Below A base outer g) (F : Fr g L g₂ m) (R : Thrown base g₂ (envOf name scope L a cd :: outer) e C dd cx kp s'.heap)
    (hQ : ∀ h', Thrown base g outer e C dd cx kp h' → Q () { s' with heap := h' }) :
    wpAny M (A.deeper (envOf name scope L a cd)) (leaving (envOf name scope L a cd) (.ref e)) Q E s' := by
  obtain ⟨⟨B, hB, hg, hkp, hfl⟩, hU, hkn⟩ := R
  unfold leaving
  refine wpAny_bind (fly_note (Around.frames_deeper K.stack) rfl hfl fun h₁ R₁ U₁ => ?_)
  refine fly_set (fr := none) R₁ fun h₂ R₂ U₂ => ?_
  obtain ⟨k1, k2, ⟨_, _, k3⟩, k4⟩ := R₂
  refine hQ h₂ ⟨⟨B, hB, fun b o q nm => hg b o (F.keep b o q) (fun hm => ?_), hkp, k1, k2, k3, k4⟩, (Heap.UpToSlots.of_keeps F.keep).trans (hU.trans (U₁.trans U₂)), fun q hq => kts_none F.keep (hkn q hq)⟩
  rcases kts_mem hm with z | z
  · rw [z, kts_self F] at q; cases q
  · exact nm z
end
end
end Mine
namespace Mine
/-! Xs -/
section
open PySem PySem.W PyProof.Rows Builtin Builtin.ObjectAttr
/-- a dict object that tells just these names -/
def OD (o : Obj) (mA : Str → Option Value) : Prop := ∃ es ep, o.data = .dict es ep ∧ StrKeys es ∧ UniqKeys es ∧ ∀ name, nsFind es name = mA name
theorem OD.ns1 {h : Heap} {a : Addr} {o : Obj} {mA : Str → Option Value} (x : OD o mA) (e : h.get? a = some o) : h.Ns1 a mA := let ⟨es, ep, r⟩ := x; ⟨o, es, ep, e, r⟩
theorem OD.of {h : Heap} {a : Addr} {mA : Str → Option Value} (x : h.Ns1 a mA) : ∃ o, h.get? a = some o ∧ OD o mA := let ⟨o, es, ep, e, r⟩ := x; ⟨o, e, es, ep, r⟩
section
variable {prog : Program} {w : World} {A : Around} {E : Value → Shared → Prop} {h : Heap} {g : Array GenState} {d : Drawn} {t : Nat} {os : OsState}
variable {nm q : Str} {C N x : Addr} {bs bm : List Value} {sn : List Str} {sub : List Value} {ab : Bool} {col : Option Bool} {dd : Option Addr} {k0 k1 k2 k3 k5 : Option Value} {B newId sa owner : String}
  {mN : Str → Option Value} {name : Str} {v : Value}
theorem put0_entry {tk : Tok} {o : Obj} {Q : Fin → Shared → Prop} (SF : StoreFacts B bm sa owner)
    (hC : h.get? C = some (excClassObj nm q C N bs bm true sn sub ab col dd k0 k1 k2 k3 k5 newId)) (hn : h.Ns N mN) (hna : mN name = none)
    (hB : typeLookup (.type B) name = pure none) (hx : h.get? x = some o) (hc : o.cls = .ref C) (hnc : ∀ c, o.data ≠ .cls c) (hdn : o.dict = none)
    (hq : ∀ h' od tk', h'.get? x = some { o with dict := some h.objs.size } → h'.get? h.objs.size = some od → OD od (fun y => if y = name then some v else none) →
      (∀ b ob, b ≠ x → h.get? b = some ob → h'.get? b = some ob) → Q (.done (.ret .none)) ⟨h', g, d, tk', os⟩) :
    wpAny (model prog w) A (Builtin.«object.__setattr__» ⟨[.ref x, .str name tk, v], []⟩) Q E ⟨h, g, d, t, os⟩ := by
  have hpass := SF.passes (.ref x)
  unfold Builtin.«object.__setattr__»
  repeat (first | rw [refuse_eq] | (rw [refuseLoop_ref, hpass]) | (with_reducible refine wpAny_loadPart_at hx ?_; rw [hc]) | with_reducible refine wpAny_mroOf_exc hC ?_ | (with_reducible refine wpAny_typeLookup_exc hC hn SF.mro hB ?_; rw [hna]) | wp_step)
  rw [hdn, if_neg (by simp [typeHasDict])]
  split
  · rename_i q
    cases q
  split
  · rename_i c q
    exact absurd q (hnc c)
  have hxs : x ≠ h.objs.size := Nat.ne_of_lt (Heap.lt_size hx)
  generalize hD : ({ cls := .type "dict", data := .dict #[] } : Obj) = Do
  have hx₁ : (h.push Do).get? x = some o := Heap.get?_push_of_some _ hx
  refine wpAny_bind (wpAny_alloc' (wpAny_bind (wpAny_update' hx₁ (wpAny_pure ?_))))
  generalize hU : (h.push Do).update x (fun o => { cls := o.cls, dict := some h.objs.size, data := o.data, slots := o.slots }) = U
  have hxU : U.get? x = some { o with dict := some h.objs.size } := by
    rw [← hU]
    refine Heap.get?_update_self _ hx₁ ?_
    have hfr := (Heap.get?_some_iff.mp hx).2
    obtain ⟨oc, od, odt, osl⟩ := o
    cases odt <;> first | rfl | exact hfr
  have hdU : U.get? h.objs.size = some Do := by
    rw [← hU]
    exact (Heap.get?_update_ne _ _ _ _ hxs.symm).trans (Heap.get?_push_at rfl (by rw [← hD]; rfl))
  have hoU : ∀ b ob, b ≠ x → h.get? b = some ob → U.get? b = some ob := fun b ob hb e => by
    rw [← hU]
    exact (Heap.get?_update_ne _ _ _ _ hb).trans (Heap.get?_push_of_some _ e)
  have hnd : U.Ns h.objs.size (fun _ => none) := ⟨_, #[], _, hdU, by rw [← hD], fun e he => absurd he (by simp), fun _ => rfl⟩
  show wpAny _ _ (storeInDict h.objs.size (.str name tk) name v) _ _ _
  unfold storeInDict newKeyGuard
  refine wpAny_bind (wpAny_pure (wpAny_bind (wpAny_nsSet1 (Heap.Ns1.of_empty hnd) fun h' hn' hs => ?_)))
  obtain ⟨oD, esD, epD, hoD, hdD, hcD⟩ := hn'.count (Within.cons name v Within.nil)
  refine wpAny_bind (wpAny_lookBehind hoD (by rw [hdD]; exact pastItsLine_dict (Nat.le_trans hcD (by rw [List.length_cons, List.length_nil, sizeLine_eq]; omega))) ?_)
  wp_walk
  obtain ⟨od, e1, e2⟩ := OD.of hn'
  exact hq h' od _ ((hs.2 x hxs).trans hxU) e1 e2 fun b ob hb e => (hs.2 b (Nat.ne_of_lt (Heap.lt_size e))).trans (hoU b ob hb e)
theorem put0_attr {o : Obj} {Q : Unit → Shared → Prop} (SF : StoreFacts B bm sa owner)
    (hC : h.get? C = some (excClassObj nm q C N bs bm true sn sub ab col dd k0 k1 k2 k3 k5 newId)) (hn : h.Ns N mN) (hns : mN "__setattr__" = none) (hna : mN name = none)
    (hB : typeLookup (.type B) name = pure none) (hx : h.get? x = some o) (hc : o.cls = .ref C) (hnc : ∀ c, o.data ≠ .cls c) (hdn : o.dict = none)
    (hq : ∀ h' od tk', h'.get? x = some { o with dict := some h.objs.size } → h'.get? h.objs.size = some od → OD od (fun y => if y = name then some v else none) →
      (∀ b ob, b ≠ x → h.get? b = some ob → h'.get? b = some ob) → Q () ⟨h', g, d, tk', os⟩) :
    wpAny (model prog w) A (setAttr (.ref x) name v) Q E ⟨h, g, d, t, os⟩ := by
  have f3 := SF.slot.bind (.ref x)
  unfold setAttr callSpecial? specialOf
  repeat (any_goals (first | assumption | (with_reducible refine wpAny_loadPart_at hx ?_; rw [hc]) | (with_reducible refine wpAny_typeLookup_exc hC hn SF.mro SF.slot.lookup ?_; rw [hns]) | wp_step))
  refine codeAny_call_builtin SF.slot.plain SF.entry (wpAny_check_sa SF hC hx hc (put0_entry SF hC hn hna hB hx hc hnc hdn fun h' od tk' a1 a2 a3 a4 => ?_))
  repeat (any_goals (first | assumption | wp_step))
  exact hq h' od tk' a1 a2 a3 a4
end
end
end Mine
namespace Mine
/-! Bl -/
section
open PySem PySem.W PyProof.Rows PySem.Spec PySem.Calls
inductive Consts : List Expr → List Int → Prop
  | nil : Consts [] []
  | cons (n : Int) (k : Nat) (pos : Pos) {es : List Expr} {ns : List Int} : Consts es ns → Consts (.Constant (.int n) k pos :: es) (n :: ns)
section
variable {M : Model} {A : Around} {E : Value → Shared → Prop} {env : Env} {pos : Pos}
theorem spliced_consts : ∀ {es : List Expr} {ns : List Int}, Consts es ns → ∀ {s : Shared} {Q : List Value → Shared → Prop}, (∀ vs t, IntsAre vs ns → Q vs { s with toks := t }) → wpAny M A (spliced (backTo pos (starEach es env))) Q E s
  | _, _, .nil, s, _, h => args_nil (h [] s.toks .nil)
  | _, _, .cons n _ _ r, s, _, h => args_cons (wpAny_Constant_int (spliced_consts r fun vs t hv => h (.int n s.toks :: vs) t (.cons n s.toks hv)))
end
section
variable {prog : Program} {w : World} {A : Around} {E : Value → Shared → Prop} {s : Shared} {h₀ : Heap} {L a : Addr} {m mg mb : Str → Option Value} {news : List (Addr × Obj)} {K : Frag} {cn : Str} {cs : Scope} {ccd : Value} {cl : List (Str × Addr)} {p : Program} {loose : List Str} {mean : ExcName → Option Value}
theorem bytes_lit {es : List Expr} {ns : List Int} {p1 p2 p3 : Pos} {Q : Value → Shared → Prop} (F : Fr h₀ L s.heap m) (N : News h₀ L s.heap news) (X : K.In h₀) (T : Top p loose mean mg mb h₀) (hx : nsIn K mainGlobals (Str.ofString "bytes") = some none) (hb : bootBuiltins (Str.ofString "bytes") = some (.type "bytes"))
    (c : Consts es ns) (hr : ∀ n ∈ ns, 0 ≤ n ∧ n < 256) (hz : ns.length ≤ 100) (hh : A.handled = none) (hk : cs.kind = .function) (hkind : (envX cn cs L a ccd cl).kindOf (Str.ofString "bytes") = some .globalImplicit)
    (h : ∀ h' t k, Fr h₀ L h' m → News h₀ L h' news → Q (.bytes (ns.map fun n => n.toNat.toUInt8).toArray t) ⟨h', s.gens, s.drawn, k, s.os⟩) :
    wpAny (model prog w) A (eval (.Call (.Name (Str.ofString "bytes") p1) [.List es p2] [] p3) (envX cn cs L a ccd cl)) Q E s := by
  refine Call_ ?_
  refine nameX_B F X (topRead_of T) hx hb (by decide) ?_ hk hkind (by decide)
  refine PyProof.Rows.callWith_type1 ?_
  refine args_cons ?_
  refine List_ ?_
  refine spliced_consts c fun vs t hv => ?_
  have hl := hv.length
  refine newList_K (vs := vs) F N (fun l h1 F1 N1 l1 => ?_) (by rw [sizeLine_eq]; omega)
  refine args_nil ?_
  exact bytes_K F1 N1 (News.isList N1 (.head _)) hv hr (by rw [sizeLine_eq]; omega) hh fun h2 t2 k2 F2 N2 _ => h h2 t2 k2 F2 (cb_drop N2 fun p hp => .tail _ hp)
/-- an expression that tells few octets and leaves the ledger as it was -/
def BT (prog : Program) (w : World) (A : Around) (E : Value → Shared → Prop) (h₀ : Heap) (L : Addr) (m : Str → Option Value) (news : List (Addr × Obj)) (env : Env) (e : Expr) : Prop :=
  (∀ rest, starEach (e :: rest) env = (false, eval e env) :: starEach rest env) ∧ ∀ (s : Shared) (Q : Value → Shared → Prop), Fr h₀ L s.heap m → News h₀ L s.heap news →
    (∀ h' b t k, 1 ≤ b.size → b.size ≤ 30 → Fr h₀ L h' m → News h₀ L h' news → Q (.bytes b t) ⟨h', s.gens, s.drawn, k, s.os⟩) → wpAny (model prog w) A (eval e env) Q E s
theorem all_cons {P : Expr → Prop} {e : Expr} {l : List Expr} (h : P e) (k : ∀ x ∈ l, P x) : ∀ x ∈ e :: l, P x := fun x hx => by
  rcases List.mem_cons.mp hx with rfl | hx
  · exact h
  · exact k x hx
theorem all_lit {P : Expr → Prop} {l es : List Expr} {x : Str} {p1 p2 p3 : Pos} (h : P (.Call (.Name x p1) [.List es p2] [] p3)) (k : ∀ e ∈ l, P e) : ∀ e ∈ (.Call (.Name x p1) [.List es p2] [] p3) :: l, P e := all_cons h k
theorem all_cat {P : Expr → Prop} {l es : List Expr} {x y : Str} {n : Int} {j : Nat} {p1 p2 p3 p4 p5 p6 p7 : Pos} (h : P (.BinOp (.Call (.Name x p1) [.List es p2] [] p3) .Add (.Call (.Name y p4) [.Constant (.int n) j p5] [] p6) p7)) (k : ∀ e ∈ l, P e) :
    ∀ e ∈ (.BinOp (.Call (.Name x p1) [.List es p2] [] p3) .Add (.Call (.Name y p4) [.Constant (.int n) j p5] [] p6) p7) :: l, P e := all_cons h k
theorem sub_nilP {P : Expr → Prop} : ∀ x ∈ ([] : List Expr), P x := fun _ h => nomatch h
theorem spliced_bt {env : Env} {pos : Pos} : ∀ {es : List Expr}, (∀ e ∈ es, BT prog w A E h₀ L m news env e) → ∀ (s : Shared) (Q : List Value → Shared → Prop), Fr h₀ L s.heap m → News h₀ L s.heap news →
    (∀ vs h' k, vs.length = es.length → (∀ v ∈ vs, ∃ b t, v = Value.bytes b t ∧ 1 ≤ b.size ∧ b.size ≤ 30) → Fr h₀ L h' m → News h₀ L h' news → Q vs ⟨h', s.gens, s.drawn, k, s.os⟩) →
    wpAny (model prog w) A (spliced (backTo pos (starEach es env))) Q E s
  | [], _, s, Q, F, N, h => args_nil (h [] s.heap s.toks rfl (fun v hv => nomatch hv) F N)
  | e :: es, hall, s, Q, F, N, h => by
    refine args_cons ((hall e (.head _)).2 s _ F N fun h1 b t k b1 b2 F1 N1 => ?_) ((hall e (.head _)).1 es)
    refine spliced_bt (fun x hx => hall x (.tail _ hx)) ⟨h1, s.gens, s.drawn, k, s.os⟩ _ F1 N1 fun vs h2 k2 hl hv F2 N2 => h (.bytes b t :: vs) h2 k2 (by rw [List.length_cons, List.length_cons, hl]) (fun v hm => ?_) F2 N2
    rcases List.mem_cons.mp hm with rfl | hm
    · exact ⟨b, t, rfl, b1, b2⟩
    · exact hv v hm
theorem bt_lit (X : K.In h₀) (T : Top p loose mean mg mb h₀) (hx : nsIn K mainGlobals (Str.ofString "bytes") = some none) (hb : bootBuiltins (Str.ofString "bytes") = some (.type "bytes")) (hh : A.handled = none) (hk : cs.kind = .function) (hkind : (envX cn cs L a ccd cl).kindOf (Str.ofString "bytes") = some .globalImplicit)
    {es : List Expr} {ns : List Int} {p1 p2 p3 : Pos} (c : Consts es ns) (hr : (ns.all fun n => decide (0 ≤ n) && decide (n < 256)) = true) (hz : (Nat.ble 1 ns.length && Nat.ble ns.length 30) = true) :
    BT prog w A E h₀ L m news (envX cn cs L a ccd cl) (.Call (.Name (Str.ofString "bytes") p1) [.List es p2] [] p3) := by
  have hz' := Bool.and_eq_true_iff.mp hz
  have z1 := Nat.le_of_ble_eq_true hz'.1
  have z2 := Nat.le_of_ble_eq_true hz'.2
  refine ⟨fun _ => rfl, fun s Q F N h => bytes_lit F N X T hx hb c (fun n hn => ?_) (by omega) hh hk hkind fun h' t k F' N' => h h' _ t k ?_ ?_ F' N'⟩
  · have := Bool.and_eq_true_iff.mp (List.all_eq_true.mp hr n hn)
    exact ⟨of_decide_eq_true this.1, of_decide_eq_true this.2⟩
  · rw [List.size_toArray, List.length_map]; exact z1
  · rw [List.size_toArray, List.length_map]; exact z2
theorem bt_cat (X : K.In h₀) (T : Top p loose mean mg mb h₀) (hx : nsIn K mainGlobals (Str.ofString "bytes") = some none) (hb : bootBuiltins (Str.ofString "bytes") = some (.type "bytes")) (hh : A.handled = none) (hk : cs.kind = .function) (hkind : (envX cn cs L a ccd cl).kindOf (Str.ofString "bytes") = some .globalImplicit)
    {es : List Expr} {ns : List Int} {n : Int} {j : Nat} {p1 p2 p3 p4 p5 p6 p7 : Pos} (c : Consts es ns) (hr : (ns.all fun n => decide (0 ≤ n) && decide (n < 256)) = true) (hz : (Nat.ble 1 ns.length && Nat.ble (ns.length + n.toNat) 30) = true) (hn : decide (0 ≤ n) = true) :
    BT prog w A E h₀ L m news (envX cn cs L a ccd cl) (.BinOp (.Call (.Name (Str.ofString "bytes") p1) [.List es p2] [] p3) .Add (.Call (.Name (Str.ofString "bytes") p4) [.Constant (.int n) j p5] [] p6) p7) := by
  have hz' := Bool.and_eq_true_iff.mp hz
  have z1 := Nat.le_of_ble_eq_true hz'.1
  have z2 := Nat.le_of_ble_eq_true hz'.2
  have hn' := of_decide_eq_true hn
  refine ⟨fun _ => rfl, fun s Q F N h => ?_⟩
  refine wpAny_BinOp (bytes_lit F N X T hx hb c (fun n hn => ?_) (by omega) hh hk hkind fun h' t k F' N' => ?_)
  · have := Bool.and_eq_true_iff.mp (List.all_eq_true.mp hr n hn)
    exact ⟨of_decide_eq_true this.1, of_decide_eq_true this.2⟩
  · refine Call_ ?_
    refine nameX_B F' X (topRead_of T) hx hb (by decide) ?_ hk hkind (by decide)
    refine PyProof.Rows.callWith_type1 (args_cons (wpAny_Constant_int (args_nil ?_)))
    refine call_bytes_n hn' (by omega) fun t2 k2 => ?_
    have e : ((List.map (fun n : Int => n.toNat.toUInt8) ns).toArray ++ Array.replicate n.toNat (0 : UInt8)).size = ns.length + n.toNat := by
      rw [Array.size_append, List.size_toArray, List.length_map, Array.size_replicate]
    refine KBy.add_bytes (by rw [List.size_toArray, List.length_map, Array.size_replicate]; omega) fun t3 k3 => ?_
    exact h h' _ t3 k3 (by rw [e]; omega) (by rw [e]; omega) F' N'
end
section
variable {M : Model} {A : Around} {E : Value → Shared → Prop} {s : Shared} {env : Env} {h₀ : Heap} {L : Addr} {m : Str → Option Value} {news : List (Addr × Obj)}
/-- a pair that is written out, in one step, its tokens untold -/
theorem tup_si {x : Str} {n : Int} {j j2 k : Nat} {p1 p2 p3 : Pos} {Q : Value → Shared → Prop} (F : Fr h₀ L s.heap m) (N : News h₀ L s.heap news)
    (h : ∀ l h' t u v, Fr h₀ L h' m → News h₀ L h' ((l, tupO [.str x t, .int n u] 0) :: news) → (∀ p ∈ news, p.1 < l) → Q (.ref l) ⟨h', s.gens, s.drawn, v, s.os⟩) :
    wpAny M A (eval (.Tuple [.Constant (.str x) j p1, .Constant (.int n) j2 p2] k p3) env) Q E s := by
  refine Tuple_ ?_
  refine args_cons (wpAny_Constant_str (args_cons (wpAny_Constant_int (args_nil ?_))))
  refine kup_newTuple F N (fun D h' F' N' l' => h D h' _ _ _ F' N' l') (by show 2 ≤ sizeLine; decide)
/-- the same; what it laid stays a name, with an equation of its own -/
theorem tup_sx {x : Str} {n : Int} {j j2 k : Nat} {p1 p2 p3 : Pos} {Q : Value → Shared → Prop} (F : Fr h₀ L s.heap m) (N : News h₀ L s.heap news)
    (h : ∀ l O h' t u v, O = tupO [.str x t, .int n u] 0 → Fr h₀ L h' m → News h₀ L h' ((l, O) :: news) → (∀ p ∈ news, p.1 < l) → Q (.ref l) ⟨h', s.gens, s.drawn, v, s.os⟩) :
    wpAny M A (eval (.Tuple [.Constant (.str x) j p1, .Constant (.int n) j2 p2] k p3) env) Q E s :=
  tup_si F N fun l h' t u v F' N' q => h l _ h' t u v rfl F' N' q
end
end
end Mine
namespace Mine
/-! Xi -/
section
open PySem PySem.W PyProof.Rows PySem.Spec PySem.Calls
section
variable {prog : Program} {w : World} {A : Around} {E : Value → Shared → Prop} {s : Shared} {K : Frag} {h₀ : Heap} {L : Addr} {m : PySem.Str → Option Value}
theorem exc_getm {pl : Sem Bool} {Q : Value × List Value → Shared → Prop} (F : Fr h₀ L s.heap m) (X₀ : K.In h₀)
    (e : findCls K (.type "Exception") (.type "type") (PySem.Str.ofString "__init__") = some (.val (.builtin "Exception.__init__")))
    (h : Q (.builtin "Exception.__init__", []) { s with toks := s.toks + 1 }) :
    wpAny (model prog w) A (getMethod (.type "Exception") (PySem.Str.ofString "__init__") pl) Q E s := by
  have X := X₀.keeps F.keep
  have hstub : opaqueClassAbove (.type "Exception") = pure none := by unfold opaqueClassAbove; dsimp only; rw [show Manifest.isStub "Exception" = false by decide +kernel]; rfl
  have ht : typeOf (.type "Exception") = pure (.type "type") := by first | rfl | kernel_rfl
  have L0 : Looks (model prog w) s.heap (typeOf (.type "Exception")) (.type "type") := Looks.of_pure ht
  have hg : findIn K (.type "type") "__getattribute__" = some (some (.builtin "type.__getattribute__")) := type_tga
  unfold getMethod specialOf
  refine wpAny_bind (wpAny_bind (L0.here ((looks_findIn X hg).here ?_)))
  dsimp only
  rw [if_pos canon_tga]
  refine wpAny_bind (wpAny_mono (Q := fun v => Q (v, [])) (E := E) ?_ (fun _ _ z => wpAny_pure z) fun _ _ z => z)
  have LO : Looks (model prog w) s.heap (opaqueClassAbove (.type "Exception")) none := Looks.of_pure hstub
  exact cls_open X LO L0 hg (looks_hook X (r := none) (by rfl)) (by show subIn K _ _ = _; rfl) e (wpAny_pure (by show wpAny _ _ (handedOut _) _ _ _; rw [handedOut_of (by decide +kernel)]; exact wpAny_pure h))
end
section
variable {prog : Program} {w : World} {A : Around} {E : Value → Shared → Prop} {h : Heap} {g : Array GenState} {d : Drawn} {t : Nat} {os : OsState}
variable {nm q : Str} {C N x : Addr} {bs bm : List Value} {sn : List Str} {sub : List Value} {ab : Bool} {col : Option Bool} {dd : Option Addr} {k0 k1 k2 k3 k5 : Option Value} {B newId initId : String}
theorem check_init {M : Model} {o : Obj} {rest : List Value} {Q : Unit → Shared → Prop} (FE : ExcBaseFacts B newId initId bm)
    (hC : h.get? C = some (excClassObj nm q C N bs bm true sn sub ab col dd k0 k1 k2 k3 k5 newId)) (hx : h.get? x = some o) (hc : o.cls = .ref C) (hq : Q () ⟨h, g, d, t, os⟩) :
    wpAny M A (checkBuiltinCall initId ⟨.ref x :: rest, []⟩) Q E ⟨h, g, d, t, os⟩ := by
  have hcB : (Value.ref C :: bm).contains (.type B) = true := by rw [List.contains_cons, FE.hasB, Bool.or_true]
  have hshort := FE.noStar
  simp only [checkBuiltinCall, FE.initKind, FE.initSplit, FE.initRow]
  refine wpAny_bind ?_
  unfold isInstance
  repeat (first | (with_reducible refine wpAny_loadPart_at hx ?_; rw [hc]) | (with_reducible refine wpAny_isSubtype_exc hC ?_; rw [hcB]) | wp_step)
  refine wpAny_onRaise ?_
  rw [show ∀ (a b : String) (n : Nat), Bind.check ⟨.positional, "*", B, .self, [⟨"args", .varPos, false⟩]⟩ a b n (List.map (fun x => x.fst) ({ pos := .ref x :: rest } : Args).kw) = pure () from fun a b n => check_star_args _ _ _ _ _ _]
  exact wpAny_pure hq
theorem init_run {o : Obj} {vs : Array Value} {t0 : Addr} {rest : List Value} {Q : Value → Shared → Prop} (FE : ExcBaseFacts B newId initId bm)
    (hC : h.get? C = some (excClassObj nm q C N bs bm true sn sub ab col dd k0 k1 k2 k3 k5 newId)) (hx : h.get? x = some o) (hc : o.cls = .ref C) (hd : o.data = .fields vs) (h0 : vs[0]? = some (.ref t0)) (hrest : rest.length ≤ sizeLine)
    (hq : ∀ h', h'.get? x = some (o.mapFields (·.setIfInBounds 0 (.ref h.objs.size))) → (∀ b ob, b ≠ x → h.get? b = some ob → h'.get? b = some ob) → Q .none ⟨h', g, d, t, os⟩) :
    wpAny (model prog w) A (call (.builtin initId) (.ref x :: rest)) Q E ⟨h, g, d, t, os⟩ := by
  refine wpAny_call (codeAny_call_builtin FE.init.plain FE.initEntry (check_init FE hC hx hc ?_))
  unfold Builtin.«BaseException.__init__»
  have hx₁ : (h.push { cls := .type "tuple", data := .seq rest.toArray }).get? x = some o := Heap.get?_push_of_some _ hx
  have hsz : 0 < vs.size := (Array.getElem?_eq_some_iff.mp h0).1
  wp_walk
  rw [hd]
  refine wpAny_pure ?_
  rw [h0]
  refine wpAny_pure ?_
  refine wpAny_bind (wpAny_setField hx₁ hd hsz ?_)
  refine wpAny_bind (wpAny_holding (wpAny_point ?_))
  wp_walk
  refine hq _ (Heap.get?_update_self _ hx₁ (Obj.isFreed_of_fields (Obj.data_mapFields hd _))) fun b ob hb e => (Heap.get?_update_other _ _ (Ne.symm hb)).trans (Heap.get?_push_of_some _ e)
end
end
end Mine
namespace Mine
section
open PySem PySem.W PyProof.Rows PySem.Spec PySem.Calls
local macro_rules | `(tactic| k_steps) => `(tactic| repeat' (first | (k_unfold; (try dsimp only)) | walk1 | (dsimp only; walk1) | (leave1; try dsimp only) | (change LeaveK _ _ _ _ _ _ _; (try dsimp only); walk1) | fail "no step"))
local macro_rules | `(tactic| k_lt $h) => `(tactic| (replace $h := allLt_of $h; dsimp only [AllLt] at $h:ident))
local macro_rules | `(tactic| walk_at $s:str) => if ["pyIter bytes", "pyIter ref", "call ref", "call builtin:list.append", "exec Raise some none", "call type:tuple", "compareOp In int ref", "exec While", "eval ListComp", "compareOp NotEq ref ref", "setItem ref int", "exec Try"].contains s.getString then `(tactic| refine stop_ ?_)
  else if s.getString = "execs cons" then
    let x := Lean.mkIdent `Kx
    let y := Lean.mkIdent `Ky
    let z := Lean.mkIdent `Kz
    `(tactic| ((with_reducible refine (?_ : wpAny _ _ _ _ _ _)); (try clear $z); (try clear $y); (try clear $x); first | with_reducible refine last_execs ?_ | (with_reducible refine let_execs ?_; first | ((fail_if_success have hK := $x); intro $x:ident) | ((fail_if_success have hK := $y); intro $y:ident) | intro $z:ident)))
  else if ["exec For Name Subscript cons nil", "exec For Name Call cons nil", "exec For Name Name cons nil"].contains s.getString then `(tactic| (k_here; (rename Fr _ _ _ _ => lF'); with_unfolding_all refine' For_invVF lF' ?k1 ?k2 ?_; (case k1 => exact rfl); (case k2 => exact rfl); k_whole))
  else if s.getString = "eval Dict" then `(tactic| (k_here; k_dflt (refine' kdn_int ?q ?F ?N ?b ?a ?l ?e ?n ?_; (case q => rfl); (case F => k_asm); (case N => first | k_asm | exact News.nil); (case b => exact Top.nolimit (by k_asm)); (case a => rfl); (case l => rfl); (case e => exact List.cons_ne_nil _ _); (case n => exact Nat.le_of_ble_eq_true rfl)); intro d' h' o' F' N' l1 lo' hd'; (try k_lt l1)))
  else if s.getString = "ite" then `(tactic| (k_here; k_openite; first
    | (refine ite_pos (by with_reducible assumption) ?_)
    | (refine ite_neg (by with_reducible assumption) ?_)
    | (refine ite_isFalse (by with_reducible assumption) ?_)
    | (k_spoken; first | (refine ite_pos (by law_clear; (try simp only [decide_eq_true_eq, decide_eq_false_iff_not, Bool.not_eq_true] at *); omega) ?_; walk_say "PRUNED by the facts") | (refine ite_neg (by law_clear; (try simp only [decide_eq_true_eq, decide_eq_false_iff_not, Bool.not_eq_true] at *); omega) ?_; walk_say "PRUNED by the facts"))
    | with_reducible refine ite_tt ?_ | with_reducible refine ite_ff ?_ | ((with_reducible refine split_ine ?_ ?_) <;> intro _) | ((with_reducible refine split_ieq ?_ ?_) <;> intro _) | with_reducible refine split_not ?_
    | (refine split_dec ?_ ?_ <;> intro _) | (refine split_bool ?_ ?_ <;> intro _)))
  else if s.getString = "execs nil" then `(tactic| (with_reducible refine wpAny_execs_nil ?_))
  else if s.getString = "LeaveK" then `(tactic| (k_here; refine' leaveK_ ?k1 ?k2 ?_; (case k1 => k_asm); (case k2 => k_asm); intro kF kN; try dsimp only))
  else Lean.Macro.throwUnsupported
/-! V2 -/
section
section
variable {w : World} {mean : ExcName → Option Value} {mg mb : Str → Option Value} {A₀ : Around} {base h₀ : Heap} {outer : List Env} {L : Addr} {m : Str → Option Value} {news : List (Addr × Obj)} {h : Heap} {gs : Array GenState} {dr : Drawn} {tk : Nat} {os : OsState} {cs : Scope}
    {dp un : Nat} {gd : Option (List Code)} {cn : Str} {a : Addr} {ccd : Value} {cl : List (Str × Addr)} {Q E : Value → Shared → Prop}
theorem c_lvarint (B : Below A₀ base outer h₀) (F : Fr h₀ L h m) (X : (Mine.hd.heap_39 w.params).In h₀) (N : News h₀ L h news) (T : Top0 mean mg mb h₀) (hk : cs.kind = .function) (hd : dp + 1 < recursionLimit) (hu : un + 8 < cLine)
    {b : Array UInt8} {ks : List Int} {tb ta : Tok} {at_ : Nat} (hb : KBw.bInts b = ks) (hbl : ks.length ≤ 100)
    (hn : vint ks at_ = none → ∀ h' tk', Fr h₀ L h' m → News h₀ L h' news → Q .none ⟨h', gs, dr, tk', os⟩)
    (hs : ∀ n e, vint ks at_ = some (n, e) → ∀ x t u h' tk', Fr h₀ L h' m → News h₀ L h' ((x, tupO [.int n t, .int (e : Int) u] 0) :: news) → (∀ p ∈ news, p.1 < x) → Q (.ref x) ⟨h', gs, dr, tk', os⟩) :
    wpAny (model Challenge.rw_no0080_01.row.prog w) (ktrTop dp un gd cn cs L a ccd cl outer) (call (.ref 274) [.bytes b tb, .int (at_ : Int) ta]) Q E ⟨h, gs, dr, tk, os⟩ := by
  refine wpAny_call ?_
  refine' code_def (binds := [(Str.ofString "data", .bytes b tb), (Str.ofString "at", .int (at_ : Int) ta)]) B F X N T rfl rfl hk ?k6 ?k7 ?k8 ?k9 ?kB ?_ ?c2 ?c3 ?c4 ?c5
  (( (case k6 => k_is); (case k7 => k_is); (case k8 => exact room0 (by assumption)); (case k9 => exact BindsTo.of_eq rfl); (case c5 => decide); (case kB => exact locs rfl); (case c2 => exact rfl); (case c3 => exact rfl); (case c4 => exact rfl)))
  intro g' L' h' FG' F' N' B' X' T'
  k_fold
  refine let_goal ?_
  intro A1 Q1 E1
  k_steps
  · refine hn ?_ _ _ (by assumption) (by assumption)
    unfold vint; rw [if_pos (by omega)]
  · refine hn ?_ _ _ (by assumption) (by assumption)
    unfold vint; rw [if_neg (by omega), if_pos (by simp only [Int.toNat_natCast, vsize_int] at *; omega)]
  · unfold StopT
    dsimp only at *
    simp only [Int.toNat_natCast, vsize_int] at *
    rename Fr _ _ _ _ => lF'
    rename News _ _ _ _ => lN'
    rename ¬ ((ks.length : Int) ≤ _) => hA
    rename ¬ ((ks.length : Int) < _) => hB
    have hv : vint ks at_ = some (vfold ((ks.getD at_ 0).fmod 64) ((ks.drop (at_ + 1)).take (vsize (ks.getD at_ 0) - 1)), at_ + vsize (ks.getD at_ 0)) := by
      unfold vint; rw [if_neg (fun q => hA (Int.ofNat_le.mpr q)), if_neg (fun q => hB (Int.ofNat_lt.mpr q))]
    rename KBw.bInts (KBy.picked _ _ _) = _ => hc
    have hcl : clipAt ks.length ((at_ : Int) + 1) = at_ + 1 := by
      rw [show (at_ : Int) + 1 = ((at_ + 1 : Nat) : Int) from rfl, clipAt_nat, Nat.min_eq_left (Int.ofNat_lt.mp (Int.not_le.mp hA))]
    have hcr : clipAt ks.length ((at_ : Int) + (vsize (ks.getD at_ 0) : Int)) = at_ + vsize (ks.getD at_ 0) := by
      rw [← Int.natCast_add, clipAt_nat, Nat.min_eq_left (Int.ofNat_le.mp (Int.not_lt.mp hB))]
    rw [hcl, hcr, Nat.add_sub_add_left] at hc
    refine' lp_bytes (σ := Int × Tok) (fun c => [(Str.ofString "found", .int c.1 c.2)]) (fun i c nx => nx = news ∧ c.1 = vfold ((ks.getD at_ 0).fmod 64) (((ks.drop (at_ + 1)).take (vsize (ks.getD at_ 0) - 1)).take i)) [Str.ofString "octet"] (_, _) rfl hc lF' lN' ?kk ?kf ?turn ?done
    case kk => intro p hp; rw [List.mem_singleton.mp hp]; exact rfl
    case kf => exact ⟨rfl, rfl⟩
    case turn =>
      clear lF' lN'
      rintro i c nx k t u h tk own hki hn0 hn1 ⟨rfl, hP⟩ hoff F'' N''
      k_fold
      refine let_post ?_
      intro Qt
      k_steps
      refine' lp_end (_, _) _ (by assumption) (by assumption) (fun p hp => List.mem_append.mpr (.inl hp)) (fun p hp => List.mem_append.mpr (.inr hp)) hoff ?hk ?hr ?hp
      case hk => intro p hp; rw [List.mem_singleton.mp hp]; exact rfl
      case hr => ((intro z h1 h2 h3; (simp only [List.forall_mem_cons, List.not_mem_nil, false_implies, implies_true, and_true, ne_eq] at h2); (simp only [List.contains_cons, List.contains_nil, Bool.or_false, Bool.or_eq_false_iff, beq_eq_false_iff_ne, ne_eq] at h3); (simp [kstB, h1, h2, h3]; done)))
      case hp => exact ⟨rfl, by rw [List.take_add_one, hki]; show _ = vfold _ (_ ++ [k]); rw [vfold_snoc, ← hP]⟩
    case done =>
      clear lF' lN'
      rintro c nx u h tk ⟨rfl, hP⟩ F'' N''
      rw [List.take_length] at hP
      dsimp only
      k_steps
      rename Fr h₀ _ _ _ => lF'
      rename News h₀ _ _ _ => lN'
      rename ∀ p ∈ nx, p.1 < _ => lL
      rw [hP, ← Int.natCast_add] at lN'
      exact hs _ _ hv _ _ _ _ _ lF' lN' lL

theorem c_ltail (B : Below A₀ base outer h₀) (F : Fr h₀ L h m) (X : (Mine.hd.heap_39 w.params).In h₀) (N : News h₀ L h news) (T : Top0 mean mg mb h₀) (hk : cs.kind = .function) (hd : dp + 1 < recursionLimit) (hu : un + 8 < cLine)
    {b : Array UInt8} {ks : List Int} {tb ta ts : Tok} {at_ sz : Nat} (hb : KBw.bInts b = ks) (hbl : ks.length ≤ 100)
    (hn : ks.length < at_ + sz → ∀ h' tk', Fr h₀ L h' m → News h₀ L h' news → Q .none ⟨h', gs, dr, tk', os⟩)
    (hs : ¬ ks.length < at_ + sz → ∀ c, KBw.bInts c = (ks.drop at_).take sz → ∀ x t u h' tk', Fr h₀ L h' m → News h₀ L h' ((x, tupO [.bytes c t, .int ((at_ + sz : Nat) : Int) u] 0) :: news) → (∀ p ∈ news, p.1 < x) → Q (.ref x) ⟨h', gs, dr, tk', os⟩) :
    wpAny (model Challenge.rw_no0080_01.row.prog w) (ktrTop dp un gd cn cs L a ccd cl outer) (call (.ref 295) [.bytes b tb, .int (at_ : Int) ta, .int (sz : Int) ts]) Q E ⟨h, gs, dr, tk, os⟩ := by
  refine wpAny_call ?_
  refine' code_def (binds := [(Str.ofString "data", .bytes b tb), (Str.ofString "at", .int (at_ : Int) ta), (Str.ofString "size", .int (sz : Int) ts)]) B F X N T rfl rfl hk ?k6 ?k7 ?k8 ?k9 ?kB ?_ ?c2 ?c3 ?c4 ?c5
  (( (case k6 => k_is); (case k7 => k_is); (case k8 => exact room0 (by assumption)); (case k9 => exact BindsTo.of_eq rfl); (case c5 => decide); (case kB => exact locs rfl); (case c2 => exact rfl); (case c3 => exact rfl); (case c4 => exact rfl)))
  intro g' L' h' FG' F' N' B' X' T'
  k_fold
  refine let_goal ?_
  intro A1 Q1 E1
  k_steps
  · refine hn (by omega) _ _ (by assumption) (by assumption)
  · dsimp only at *
    rename Fr h₀ _ _ _ => lF'
    rename News h₀ _ _ _ => lN'
    rename ∀ p ∈ news, p.1 < _ => lL
    rename KBw.bInts (KBy.picked _ _ _) = _ => hc
    rename ¬ ((ks.length : Int) < _) => hB
    have hB' : at_ + sz ≤ ks.length := Int.ofNat_le.mp (Int.not_lt.mp hB)
    rw [← Int.natCast_add, clipNat, tail_sub hB', Nat.min_eq_left (Nat.le_trans (Nat.le_add_right _ _) hB')] at hc
    rw [← Int.natCast_add] at lN'
    exact hs (Nat.not_lt.mpr hB') _ hc _ _ _ _ _ lF' lN' lL

theorem c_lnumbers (B : Below A₀ base outer h₀) (F : Fr h₀ L h m) (X : (Mine.hd.heap_39 w.params).In h₀) (N : News h₀ L h news) (T : Top0 mean mg mb h₀) (hk : cs.kind = .function) (hd : dp + 2 < recursionLimit) (hu : un + 16 < cLine)
    {b : Array UInt8} {ks : List Int} {tb ta tm : Tok} {at_ many : Nat} (hb : KBw.bInts b = ks) (hbl : ks.length ≤ 100) (hm : many ≤ 1000)
    (hn : nums ks at_ many = none → ∀ h' tk', Fr h₀ L h' m → News h₀ L h' news → Q .none ⟨h', gs, dr, tk', os⟩)
    (hs : ∀ l e, nums ks at_ many = some (l, e) → ∀ x y vs n u h' tk', IntsAre vs l → Fr h₀ L h' m → News h₀ L h' ((x, tupO [.ref y, .int (e : Int) u] 0) :: (y, listOf vs.toArray n) :: news) → (∀ p ∈ news, p.1 < y) → y < x → Q (.ref x) ⟨h', gs, dr, tk', os⟩) :
    wpAny (model Challenge.rw_no0080_01.row.prog w) (ktrTop dp un gd cn cs L a ccd cl outer) (call (.ref 281) [.bytes b tb, .int (at_ : Int) ta, .int (many : Int) tm]) Q E ⟨h, gs, dr, tk, os⟩ := by
  refine wpAny_call ?_
  refine' code_def (binds := [(Str.ofString "data", .bytes b tb), (Str.ofString "at", .int (at_ : Int) ta), (Str.ofString "many", .int (many : Int) tm)]) B F X N T rfl rfl hk ?k6 ?k7 ?k8 ?k9 ?kB ?_ ?c2 ?c3 ?c4 ?c5
  (( (case k6 => k_is); (case k7 => k_is); (case k8 => exact room0 (by assumption)); (case k9 => exact BindsTo.of_eq rfl); (case c5 => decide); (case kB => exact locs rfl); (case c2 => exact rfl); (case c3 => exact rfl); (case c4 => exact rfl)))
  intro g' L' h' FG' F' N' B' X' T'
  k_fold
  refine let_goal ?_
  intro A1 Q1 E1
  k_steps
  · unfold StopT
    dsimp only at *
    rename Fr g' _ _ _ => lF'
    rename News g' _ _ _ => lN'
    rename IsRange _ _ _ _ _ _ _ _ => lR
    rename ∀ p ∈ news, p.1 < _ => lL
    rename_i lA h2 h1 F1 N1 h0 tk0 t1 u1 v1 a1
    refine' lp_range (n := many) (σ := List Value × List Int × Nat × Nat × Tok) (fun c => [(Str.ofString "at", .int (c.2.2.1 : Int) c.2.2.2.2)]) (fun i c nx => nx = (lA, listOf c.1.toArray c.2.2.2.1) :: news ∧ IntsAre c.1 c.2.1 ∧ nums ks at_ i = some (c.2.1, c.2.2.1)) [Str.ofString "turn", Str.ofString "one"] ([], [], at_, 0, ta) rfl lR ?hsm ?hsz lF' lN' ?kk ?kf ?turn ?done
    case hsm => exact small_one (by omega) (by omega) (by omega) (by omega)
    case hsz => exact rangeSize_nat _ _
    case kk => intro p hp; rw [List.mem_singleton.mp hp]; exact rfl
    case kf => exact ⟨rfl, .nil, rfl⟩
    case turn =>
      clear lF' lN'
      rintro i ⟨vs, l, e, nn, t0⟩ nx t u h tk own hi ⟨rfl, hI, hP⟩ hoff F'' N''
      k_fold
      refine let_post ?_
      intro Qt
      k_steps
      · unfold StopT
        dsimp only at *
        refine' c_lvarint (by assumption) (by assumption) (by assumption) (by assumption) (by assumption) rfl ?hd ?hu hb hbl ?hn ?hs
        case hd => exact room (k := 1) hd rfl
        case hu => exact roomU (k := 8) hu rfl
        case hn =>
          intro hv h' tk' F'' N''
          try dsimp only
          k_steps
          refine hn ?_ _ _ (by assumption) (cb_drop (by assumption) (by (first | ((repeat' (first | exact sub_refl | exact sub_nil | (refine sub_cons ?_ ?_; focus (((repeat (first | exact List.Mem.head _ | refine List.Mem.tail _ ?_))); done)) | refine sub_tail ?_)); done) | (intro p hp; (try simp only [List.mem_cons, List.mem_append, List.cons_append, List.nil_append, List.append_assoc, List.not_mem_nil, or_false, false_or] at hp ⊢); first | assumption | grind))))
          have hx : nums ks at_ (i + 1) = none := by
            show (itO _ _ _).bind _ = none
            have hP' : itO (nstep ks) i ([], at_) = some (l, e) := hP
            rw [hP']; show (vint ks e).map _ = none; rw [hv]; rfl
          exact itO_none hx hi
        case hs =>
          intro n e2 hv x t u h' tk' F'' N'' lx
          have hP2 : nums ks at_ (i + 1) = some (l ++ [n], e2) := by
            show (itO _ _ _).bind _ = _
            have hP' : itO (nstep ks) i ([], at_) = some (l, e) := hP
            rw [hP']; show (vint ks e).map _ = _; rw [hv]; rfl
          k_steps
          unfold StopT
          try dsimp only at *
          have hl : l.length ≤ 100000 := by have := nums_length hP; omega
          refine' append_1 (vs := vs) (n := nn) (rest := (x, tupO [.int n t, .int (e2 : Int) u] 0) :: (news ++ own)) (by assumption) (cb_drop (by assumption) ?sub) ?hr ?hz ?_
          case sub => (first | ((repeat' (first | exact sub_refl | exact sub_nil | (refine sub_cons ?_ ?_; focus (((repeat (first | exact List.Mem.head _ | refine List.Mem.tail _ ?_))); done)) | refine sub_tail ?_)); done) | (intro p hp; (try simp only [List.mem_cons, List.mem_append, List.cons_append, List.nil_append, List.append_assoc, List.not_mem_nil, or_false, false_or] at hp ⊢); first | assumption | grind))
          case hr =>
            intro p hp
            rcases List.mem_cons.mp hp with rfl | hp
            · exact Nat.ne_of_gt (lx (lA, _) (.head _))
            · rcases List.mem_append.mp hp with hp | hp
              · exact Nat.ne_of_lt (lL p hp)
              · exact hoff p hp _ (.head _)
          case hz => rw [hI.length]; exact hl
          intro h' F'' N''
          k_steps
          refine' lp_end (vs ++ [.int n t], l ++ [n], e2, nn + 1, _) ((lA, listOf (vs ++ [Value.int n t]).toArray (nn + 1)) :: news) (by assumption) (by assumption) ?s1 ?s2 ?ho ?hk ?hr ?hp
          case s1 => (first | ((repeat' (first | exact sub_refl | exact sub_nil | (refine sub_cons ?_ ?_; focus (((repeat (first | exact List.Mem.head _ | refine List.Mem.tail _ ?_))); done)) | refine sub_tail ?_)); done) | (intro p hp; (try simp only [List.mem_cons, List.mem_append, List.cons_append, List.nil_append, List.append_assoc, List.not_mem_nil, or_false, false_or] at hp ⊢); first | assumption | grind))
          case s2 => (first | ((repeat' (first | exact sub_refl | exact sub_nil | (refine sub_cons ?_ ?_; focus (((repeat (first | exact List.Mem.head _ | refine List.Mem.tail _ ?_))); done)) | refine sub_tail ?_)); done) | (intro p hp; (try simp only [List.mem_cons, List.mem_append, List.cons_append, List.nil_append, List.append_assoc, List.not_mem_nil, or_false, false_or] at hp ⊢); first | assumption | grind))
          case ho => exact hoff
          case hk => intro p hp; rw [List.mem_singleton.mp hp]; exact rfl
          case hr => ((intro z h1 h2 h3; (simp only [List.forall_mem_cons, List.not_mem_nil, false_implies, implies_true, and_true, ne_eq] at h2); (simp only [List.contains_cons, List.contains_nil, Bool.or_false, Bool.or_eq_false_iff, beq_eq_false_iff_ne, ne_eq] at h3); (simp [kstB, h1, h2, h3]; done)))
          case hp => exact ⟨rfl, ints_snoc hI, hP2⟩
    case done =>
      clear lF' lN'
      rintro ⟨vs, l, e, nn, t0⟩ nx u h tk ⟨rfl, hI, hP⟩ F'' N''
      try dsimp only
      k_steps
      rename Fr h₀ _ _ _ => lF'
      rename News h₀ _ _ _ => lN'
      rename lA < _ ∧ _ => lL2
      exact hs _ _ hP _ _ _ _ _ _ _ hI lF' lN' lL lL2.1
end
end
/-! V3 -/
section
section
variable {w : World} {mean : ExcName → Option Value} {mg mb : Str → Option Value} {A₀ : Around} {base h₀ : Heap} {outer : List Env} {L : Addr} {m : Str → Option Value} {news : List (Addr × Obj)} {h : Heap} {gs : Array GenState} {dr : Drawn} {tk : Nat} {os : OsState} {cs : Scope}
    {dp un : Nat} {gd : Option (List Code)} {cn : Str} {a : Addr} {ccd : Value} {cl : List (Str × Addr)} {Q E : Value → Shared → Prop}
theorem c_lcounted (B : Below A₀ base outer h₀) (F : Fr h₀ L h m) (X : (Mine.hd.heap_39 w.params).In h₀) (N : News h₀ L h news) (T : Top0 mean mg mb h₀) (hk : cs.kind = .function) (hd : dp + 3 < recursionLimit) (hu : un + 24 < cLine)
    {b : Array UInt8} {ks : List Int} {tb ta tm : Tok} {at_ many : Nat} (hb : KBw.bInts b = ks) (hbl : ks.length ≤ 100) (hm : many ≤ 900)
    (hn : sCounted ks at_ many = none → ∀ h' tk', Fr h₀ L h' m → News h₀ L h' news → Q .none ⟨h', gs, dr, tk', os⟩)
    (hs : ∀ l o e, sCounted ks at_ many = some (l, o, e) → ∀ x y c vs n t u h' tk', IntsAre vs l → KBw.bInts c = o → Fr h₀ L h' m → News h₀ L h' ((x, tupO [.ref y, .bytes c t, .int (e : Int) u] 0) :: (y, listOf vs.toArray n) :: news) → (∀ p ∈ news, p.1 < y) → y < x → Q (.ref x) ⟨h', gs, dr, tk', os⟩) :
    wpAny (model Challenge.rw_no0080_01.row.prog w) (ktrTop dp un gd cn cs L a ccd cl outer) (call (.ref 302) [.bytes b tb, .int (at_ : Int) ta, .int (many : Int) tm]) Q E ⟨h, gs, dr, tk, os⟩ := by
  refine wpAny_call ?_
  refine' code_def (binds := [(Str.ofString "data", .bytes b tb), (Str.ofString "at", .int (at_ : Int) ta), (Str.ofString "many", .int (many : Int) tm)]) B F X N T rfl rfl hk ?k6 ?k7 ?k8 ?k9 ?kB ?_ ?c2 ?c3 ?c4 ?c5
  (( (case k6 => k_is); (case k7 => k_is); (case k8 => exact room0 (by assumption)); (case k9 => exact BindsTo.of_eq rfl); (case c5 => decide); (case kB => exact locs rfl); (case c2 => exact rfl); (case c3 => exact rfl); (case c4 => exact rfl)))
  intro g' L' h' FG' F' N' B' X' T'
  k_fold
  refine let_goal ?_
  intro A1 Q1 E1
  k_steps
  unfold StopT
  try dsimp only at *
  rw [show (many : Int) + 1 = ((many + 1 : Nat) : Int) from rfl]
  refine' c_lnumbers (by assumption) (by assumption) (by assumption) (by assumption) (by assumption) rfl ?hd ?hu hb hbl ?hm ?hn ?hs
  case hd => exact room (k := 2) hd rfl
  case hu => exact roomU (k := 16) hu rfl
  case hm => omega
  case hn =>
    intro hv h' tk' F'' N''
    k_steps
    refine hn ?_ _ _ (by assumption) (by assumption)
    unfold sCounted; rw [hv]; rfl
  case hs =>
    intro l e hv x y vs n u h' tk' hI F'' N'' ly lx
    have hll := nums_length hv
    k_steps
    unfold StopT
    try dsimp only at *
    have hoc := oct_of hb
    have hlast := nums_getD hoc hv many
    rw [show l.getD (-1 + (l.length : Int)).toNat 0 = ((l.getD many 0).toNat : Int) by rw [hll, show (-1 + ((many + 1 : Nat) : Int)).toNat = many by omega]; omega]
    refine' c_ltail (by assumption) (by assumption) (by assumption) (by assumption) (by assumption) rfl ?hd ?hu hb hbl ?hn ?hs
    case hd => exact room (k := 1) hd rfl
    case hu => exact roomU (k := 8) hu rfl
    case hn =>
      intro hv2 h' tk' F'' N''
      k_steps
      refine hn ?_ _ _ (by assumption) (cb_drop (by assumption) (by (first | ((repeat' (first | exact sub_refl | exact sub_nil | (refine sub_cons ?_ ?_; focus (((repeat (first | exact List.Mem.head _ | refine List.Mem.tail _ ?_))); done)) | refine sub_tail ?_)); done) | (intro p hp; (try simp only [List.mem_cons, List.mem_append, List.cons_append, List.nil_append, List.append_assoc, List.not_mem_nil, or_false, false_or] at hp ⊢); first | assumption | grind))))
      unfold sCounted; rw [hv]; show (sTail _ _ _).map _ = none; unfold sTail; rw [if_pos hv2]; rfl
    case hs =>
      intro hv2 c hc x2 t2 u2 h' tk' F'' N'' l2
      k_steps
      rename Fr h₀ _ _ _ => lF'
      rename News h₀ _ _ _ => lN'
      rename _ < _ ∧ x2 < _ ∧ _ => l4
      rename x2 < _ ∧ x < _ ∧ _ => l3
      rename IntsAre _ (l.take _) => hI3
      rw [hll, Nat.add_sub_cancel] at hI3
      refine hs _ _ (e + (l.getD many 0).toNat) ?_ _ _ _ _ 0 t2 u2 _ _ hI3 hc lF' (cb_drop lN' (by (first | ((repeat' (first | exact sub_refl | exact sub_nil | (refine sub_cons ?_ ?_; focus (((repeat (first | exact List.Mem.head _ | refine List.Mem.tail _ ?_))); done)) | refine sub_tail ?_)); done) | (intro p hp; (try simp only [List.mem_cons, List.mem_append, List.cons_append, List.nil_append, List.append_assoc, List.not_mem_nil, or_false, false_or] at hp ⊢); first | assumption | grind)))) (fun p hp => Nat.lt_trans (ly p hp) l3.2.2.1) l4.1
      unfold sCounted; rw [hv]; show (sTail _ _ _).map _ = _; unfold sTail; rw [if_neg hv2]; rfl
end
end
/-! V4a -/
section
section
variable {w : World} {mean : ExcName → Option Value} {mg mb : Str → Option Value} {A₀ : Around} {base h₀ : Heap} {outer : List Env} {L : Addr} {m : Str → Option Value} {news : List (Addr × Obj)} {h : Heap} {gs : Array GenState} {dr : Drawn} {tk : Nat} {os : OsState} {cs : Scope}
    {dp un : Nat} {gd : Option (List Code)} {cn : Str} {a : Addr} {ccd : Value} {cl : List (Str × Addr)} {Q E : Value → Shared → Prop}
theorem c_lstream (B : Below A₀ base outer h₀) (F : Fr h₀ L h m) (X : (Mine.hd.heap_39 w.params).In h₀) (N : News h₀ L h news) (T : Top0 mean mg mb h₀) (hk : cs.kind = .function) (hd : dp + 4 < recursionLimit) (hu : un + 32 < cLine)
    {b : Array UInt8} {ks : List Int} {tb ta tm : Tok} {at_ : Nat} {told : Int} (hb : KBw.bInts b = ks) (hbl : ks.length ≤ 100) (ht0 : 8 ≤ told) (ht1 : told < 16)
    (hn : sStream ks at_ told = none → ∀ h' tk', Fr h₀ L h' m → News h₀ L h' news → Q .none ⟨h', gs, dr, tk', os⟩)
    (hs : ∀ d e, sStream ks at_ told = some (d, e) → OutP Q h₀ L m news gs dr os d e) :
    wpAny (model Challenge.rw_no0080_01.row.prog w) (ktrTop dp un gd cn cs L a ccd cl outer) (call (.ref 309) [.bytes b tb, .int (at_ : Int) ta, .int told tm]) Q E ⟨h, gs, dr, tk, os⟩ := by
  have hoc := oct_of hb
  refine wpAny_call ?_
  refine' code_def (binds := [(Str.ofString "data", .bytes b tb), (Str.ofString "at", .int (at_ : Int) ta), (Str.ofString "told", .int told tm)]) B F X N T rfl rfl hk ?k6 ?k7 ?k8 ?k9 ?kB ?_ ?c2 ?c3 ?c4 ?c5
  (( (case k6 => k_is); (case k7 => k_is); (case k8 => exact room0 (by assumption)); (case k9 => exact BindsTo.of_eq rfl); (case c5 => decide); (case kB => exact locs rfl); (case c2 => exact rfl); (case c3 => exact rfl); (case c4 => exact rfl)))
  intro g' L' h' FG' F' N' B' X' T'
  k_fold
  refine let_goal ?_
  intro A1 Q1 E1
  k_steps
  · unfold StopT
    try dsimp only at *
    rename Builtin.bitAnd told 2 ≠ 0 => h2
    have h2' := (bit2 ht0 ht1).1 h2
    rename Builtin.bitAnd told 4 ≠ 0 => h4
    have h4' := (bit4 ht0 ht1).1 h4
    refine' c_lcounted (many := 2) (by assumption) (by assumption) (by assumption) (by assumption) (by assumption) rfl ?hd ?hu hb hbl ?hm ?hn ?hs
    case hd => exact room (k := 3) hd rfl
    case hu => exact roomU (k := 24) hu rfl
    case hm => omega
    case hn =>
      intro hv h' tk' F'' N''
      k_steps
      exact hn (by rw [sStream_c h2', if_pos h4', hv]; rfl) _ _ (by assumption) (by assumption)
    case hs =>
      intro l o e hv x y c vs n t u h' tk' hI hc F'' N'' ly lx
      have hll : l.length = 2 := sCounted_len hv
      have hb0 : 0 ≤ l.getD 0 0 ∧ l.getD 0 0 < 2 ^ 62 := sCounted_getD hoc hv 0
      have hb1 : 0 ≤ l.getD 1 0 ∧ l.getD 1 0 < 2 ^ 62 := sCounted_getD hoc hv 1
      have hol : o.length ≤ 100 := by have := sCounted_olen hv; omega
      have hoff : (if told.toNat / 4 % 2 = 1 then l.getD 1 0 else 0) = l.getD 1 0 := if_pos h4'
      k_steps
      · rename 2 ^ Int.toNat 62 ≤ _ => hA
        refine hn ?_ _ _ (by assumption) (cb_drop (by assumption) (by (first | ((repeat' (first | exact sub_refl | exact sub_nil | (refine sub_cons ?_ ?_; focus (((repeat (first | exact List.Mem.head _ | refine List.Mem.tail _ ?_))); done)) | refine sub_tail ?_)); done) | (intro p hp; (try simp only [List.mem_cons, List.mem_append, List.cons_append, List.nil_append, List.append_assoc, List.not_mem_nil, or_false, false_or] at hp ⊢); first | assumption | grind))))
        rw [sStream_c h2', if_pos h4', hv]; exact sStreamTo_none hoff hA
      · rename ¬ (2 ^ Int.toNat 62 ≤ _) => hA
        rename Fr h₀ _ _ _ => lF'
        rename News h₀ _ _ _ => lN'
        rename _ < _ ∧ x < _ ∧ _ => l4
        rename x < _ ∧ y < _ ∧ _ => l3
        have hv3 : sStream ks at_ told = some (.tuple [.str (Str.ofString "stream"), .int (l.getD 0 0), .int (l.getD 1 0), .bytes o, .bool (decide (told.toNat % 2 = 1))], e) := by rw [sStream_c h2', if_pos h4', hv]; exact sStreamTo_some hoff hA
        refine fin_flat (hs _ _ hv3) lF' lN' (by (first | ((repeat' (first | exact sub_refl | exact sub_nil | (refine sub_cons ?_ ?_; focus (((repeat (first | exact List.Mem.head _ | refine List.Mem.tail _ ?_))); done)) | refine sub_tail ?_)); done) | (intro p hp; (try simp only [List.mem_cons, List.mem_append, List.cons_append, List.nil_append, List.append_assoc, List.not_mem_nil, or_false, false_or] at hp ⊢); first | assumption | grind))) (.cons (.str _ _) (.cons (.int _ _) (.cons (.int _ _) (.cons (.bytes _ hc) (.cons ?_ .nil))))) l4.1 (fun q hq => Nat.lt_trans (ly q hq) l3.2.1)
        rw [← bit1 (by omega)]; exact .bool _
  · unfold StopT
    try dsimp only at *
    rename Builtin.bitAnd told 2 = 0 => h2
    have h2' : ¬ told.toNat / 2 % 2 = 1 := fun q => (bit2 ht0 ht1).2 q h2
    rename Builtin.bitAnd told 4 ≠ 0 => h4
    have h4' := (bit4 ht0 ht1).1 h4
    refine' c_lnumbers (many := 2) (by assumption) (by assumption) (by assumption) (by assumption) (by assumption) rfl ?hd ?hu hb hbl ?hm ?hn ?hs
    case hd => exact room (k := 2) hd rfl
    case hu => exact roomU (k := 16) hu rfl
    case hm => omega
    case hn =>
      intro hv h' tk' F'' N''
      k_steps
      exact hn (by rw [sStream_n h2', if_pos h4', hv]; rfl) _ _ (by assumption) (by assumption)
    case hs =>
      intro l e hv x y vs n u h' tk' hI F'' N'' ly lx
      have hll : l.length = 2 := nums_length hv
      have hb0 : 0 ≤ l.getD 0 0 ∧ l.getD 0 0 < 2 ^ 62 := nums_getD hoc hv 0
      have hb1 : 0 ≤ l.getD 1 0 ∧ l.getD 1 0 < 2 ^ 62 := nums_getD hoc hv 1
      have hoff : (if told.toNat / 4 % 2 = 1 then l.getD 1 0 else 0) = l.getD 1 0 := if_pos h4'
      k_steps
      · rename 2 ^ Int.toNat 62 ≤ _ => hA
        refine hn ?_ _ _ (by assumption) (cb_drop (by assumption) (by (first | ((repeat' (first | exact sub_refl | exact sub_nil | (refine sub_cons ?_ ?_; focus (((repeat (first | exact List.Mem.head _ | refine List.Mem.tail _ ?_))); done)) | refine sub_tail ?_)); done) | (intro p hp; (try simp only [List.mem_cons, List.mem_append, List.cons_append, List.nil_append, List.append_assoc, List.not_mem_nil, or_false, false_or] at hp ⊢); first | assumption | grind))))
        rw [sStream_n h2', if_pos h4', hv]
        refine sStreamTo_none (l := l) (o := ks.drop e) hoff ?_
        rw [List.length_drop]
        change 2 ^ 62 ≤ l.getD 1 0 + _ at hA
        rwa [sub_self2] at hA
      · rename ¬ (2 ^ Int.toNat 62 ≤ _) => hA
        change ¬ (2 ^ 62 ≤ l.getD 1 0 + _) at hA
        rename KBw.bInts (KBy.picked b _ none) = _ => hc
        rename Fr h₀ _ _ _ => lF'
        rename News h₀ _ _ _ => lN'
        rename _ < _ ∧ _ < _ ∧ x < _ ∧ _ => l4
        rename _ < _ ∧ x < _ ∧ y < _ ∧ _ => l3
        have hc2 : KBw.bInts (KBy.picked b (some ↑e) none) = ks.drop e := by
          rw [hc]
          by_cases hle : e ≤ ks.length
          · rw [Nat.min_eq_left hle]; exact List.take_of_length_le (by rw [List.length_drop]; omega)
          · rw [Nat.min_eq_right (by omega), Nat.sub_self, List.take_zero, List.drop_eq_nil_of_le (by omega)]
        have hv3 : sStream ks at_ told = some (.tuple [.str (Str.ofString "stream"), .int (l.getD 0 0), .int (l.getD 1 0), .bytes (ks.drop e), .bool (decide (told.toNat % 2 = 1))], ks.length) := by
          rw [sStream_n h2', if_pos h4', hv]
          refine sStreamTo_some (l := l) (o := ks.drop e) hoff ?_
          rw [List.length_drop]
          rwa [sub_self2] at hA
        refine fin_flat (hs _ _ hv3) lF' lN' (by (first | ((repeat' (first | exact sub_refl | exact sub_nil | (refine sub_cons ?_ ?_; focus (((repeat (first | exact List.Mem.head _ | refine List.Mem.tail _ ?_))); done)) | refine sub_tail ?_)); done) | (intro p hp; (try simp only [List.mem_cons, List.mem_append, List.cons_append, List.nil_append, List.append_assoc, List.not_mem_nil, or_false, false_or] at hp ⊢); first | assumption | grind))) (.cons (.str _ _) (.cons (.int _ _) (.cons (.int _ _) (.cons (.bytes _ hc2) (.cons ?_ .nil))))) l4.1 (fun q hq => Nat.lt_trans (ly q hq) (Nat.lt_trans lx l3.2.1))
        rw [← bit1 (by omega)]; exact .bool _
  · unfold StopT
    try dsimp only at *
    rename Builtin.bitAnd told 2 ≠ 0 => h2
    have h2' := (bit2 ht0 ht1).1 h2
    rename Builtin.bitAnd told 4 = 0 => h4
    have h4' : ¬ told.toNat / 4 % 2 = 1 := fun q => (bit4 ht0 ht1).2 q h4
    refine' c_lcounted (many := 1) (by assumption) (by assumption) (by assumption) (by assumption) (by assumption) rfl ?hd ?hu hb hbl ?hm ?hn ?hs
    case hd => exact room (k := 3) hd rfl
    case hu => exact roomU (k := 24) hu rfl
    case hm => omega
    case hn =>
      intro hv h' tk' F'' N''
      k_steps
      exact hn (by rw [sStream_c h2', if_neg h4', hv]; rfl) _ _ (by assumption) (by assumption)
    case hs =>
      intro l o e hv x y c vs n t u h' tk' hI hc F'' N'' ly lx
      have hll : l.length = 1 := sCounted_len hv
      have hb0 : 0 ≤ l.getD 0 0 ∧ l.getD 0 0 < 2 ^ 62 := sCounted_getD hoc hv 0
      have hb1 : 0 ≤ l.getD 1 0 ∧ l.getD 1 0 < 2 ^ 62 := sCounted_getD hoc hv 1
      have hol : o.length ≤ 100 := by have := sCounted_olen hv; omega
      have hoff : (if told.toNat / 4 % 2 = 1 then l.getD 1 0 else 0) = 0 := if_neg h4'
      k_steps
      · rename 2 ^ Int.toNat 62 ≤ _ => hA
        refine hn ?_ _ _ (by assumption) (cb_drop (by assumption) (by (first | ((repeat' (first | exact sub_refl | exact sub_nil | (refine sub_cons ?_ ?_; focus (((repeat (first | exact List.Mem.head _ | refine List.Mem.tail _ ?_))); done)) | refine sub_tail ?_)); done) | (intro p hp; (try simp only [List.mem_cons, List.mem_append, List.cons_append, List.nil_append, List.append_assoc, List.not_mem_nil, or_false, false_or] at hp ⊢); first | assumption | grind))))
        rw [sStream_c h2', if_neg h4', hv]; exact sStreamTo_none hoff hA
      · rename ¬ (2 ^ Int.toNat 62 ≤ _) => hA
        rename Fr h₀ _ _ _ => lF'
        rename News h₀ _ _ _ => lN'
        rename _ < _ ∧ x < _ ∧ _ => l4
        rename x < _ ∧ y < _ ∧ _ => l3
        have hv3 : sStream ks at_ told = some (.tuple [.str (Str.ofString "stream"), .int (l.getD 0 0), .int (0), .bytes o, .bool (decide (told.toNat % 2 = 1))], e) := by rw [sStream_c h2', if_neg h4', hv]; exact sStreamTo_some hoff hA
        refine fin_flat (hs _ _ hv3) lF' lN' (by (first | ((repeat' (first | exact sub_refl | exact sub_nil | (refine sub_cons ?_ ?_; focus (((repeat (first | exact List.Mem.head _ | refine List.Mem.tail _ ?_))); done)) | refine sub_tail ?_)); done) | (intro p hp; (try simp only [List.mem_cons, List.mem_append, List.cons_append, List.nil_append, List.append_assoc, List.not_mem_nil, or_false, false_or] at hp ⊢); first | assumption | grind))) (.cons (.str _ _) (.cons (.int _ _) (.cons (.int _ _) (.cons (.bytes _ hc) (.cons ?_ .nil))))) l4.1 (fun q hq => Nat.lt_trans (ly q hq) l3.2.1)
        rw [← bit1 (by omega)]; exact .bool _
  · unfold StopT
    try dsimp only at *
    rename Builtin.bitAnd told 2 = 0 => h2
    have h2' : ¬ told.toNat / 2 % 2 = 1 := fun q => (bit2 ht0 ht1).2 q h2
    rename Builtin.bitAnd told 4 = 0 => h4
    have h4' : ¬ told.toNat / 4 % 2 = 1 := fun q => (bit4 ht0 ht1).2 q h4
    refine' c_lnumbers (many := 1) (by assumption) (by assumption) (by assumption) (by assumption) (by assumption) rfl ?hd ?hu hb hbl ?hm ?hn ?hs
    case hd => exact room (k := 2) hd rfl
    case hu => exact roomU (k := 16) hu rfl
    case hm => omega
    case hn =>
      intro hv h' tk' F'' N''
      k_steps
      exact hn (by rw [sStream_n h2', if_neg h4', hv]; rfl) _ _ (by assumption) (by assumption)
    case hs =>
      intro l e hv x y vs n u h' tk' hI F'' N'' ly lx
      have hll : l.length = 1 := nums_length hv
      have hb0 : 0 ≤ l.getD 0 0 ∧ l.getD 0 0 < 2 ^ 62 := nums_getD hoc hv 0
      have hb1 : 0 ≤ l.getD 1 0 ∧ l.getD 1 0 < 2 ^ 62 := nums_getD hoc hv 1
      have hoff : (if told.toNat / 4 % 2 = 1 then l.getD 1 0 else 0) = 0 := if_neg h4'
      k_steps
      · rename 2 ^ Int.toNat 62 ≤ _ => hA
        refine hn ?_ _ _ (by assumption) (cb_drop (by assumption) (by (first | ((repeat' (first | exact sub_refl | exact sub_nil | (refine sub_cons ?_ ?_; focus (((repeat (first | exact List.Mem.head _ | refine List.Mem.tail _ ?_))); done)) | refine sub_tail ?_)); done) | (intro p hp; (try simp only [List.mem_cons, List.mem_append, List.cons_append, List.nil_append, List.append_assoc, List.not_mem_nil, or_false, false_or] at hp ⊢); first | assumption | grind))))
        rw [sStream_n h2', if_neg h4', hv]
        refine sStreamTo_none (l := l) (o := ks.drop e) hoff ?_
        rw [List.length_drop]
        change 2 ^ 62 ≤ 0 + _ at hA
        rwa [sub_self2] at hA
      · rename ¬ (2 ^ Int.toNat 62 ≤ _) => hA
        change ¬ (2 ^ 62 ≤ 0 + _) at hA
        rename KBw.bInts (KBy.picked b _ none) = _ => hc
        rename Fr h₀ _ _ _ => lF'
        rename News h₀ _ _ _ => lN'
        rename _ < _ ∧ _ < _ ∧ x < _ ∧ _ => l4
        rename _ < _ ∧ x < _ ∧ y < _ ∧ _ => l3
        have hc2 : KBw.bInts (KBy.picked b (some ↑e) none) = ks.drop e := by
          rw [hc]
          by_cases hle : e ≤ ks.length
          · rw [Nat.min_eq_left hle]; exact List.take_of_length_le (by rw [List.length_drop]; omega)
          · rw [Nat.min_eq_right (by omega), Nat.sub_self, List.take_zero, List.drop_eq_nil_of_le (by omega)]
        have hv3 : sStream ks at_ told = some (.tuple [.str (Str.ofString "stream"), .int (l.getD 0 0), .int (0), .bytes (ks.drop e), .bool (decide (told.toNat % 2 = 1))], ks.length) := by
          rw [sStream_n h2', if_neg h4', hv]
          refine sStreamTo_some (l := l) (o := ks.drop e) hoff ?_
          rw [List.length_drop]
          rwa [sub_self2] at hA
        refine fin_flat (hs _ _ hv3) lF' lN' (by (first | ((repeat' (first | exact sub_refl | exact sub_nil | (refine sub_cons ?_ ?_; focus (((repeat (first | exact List.Mem.head _ | refine List.Mem.tail _ ?_))); done)) | refine sub_tail ?_)); done) | (intro p hp; (try simp only [List.mem_cons, List.mem_append, List.cons_append, List.nil_append, List.append_assoc, List.not_mem_nil, or_false, false_or] at hp ⊢); first | assumption | grind))) (.cons (.str _ _) (.cons (.int _ _) (.cons (.int _ _) (.cons (.bytes _ hc2) (.cons ?_ .nil))))) l4.1 (fun q hq => Nat.lt_trans (ly q hq) (Nat.lt_trans lx l3.2.1))
        rw [← bit1 (by omega)]; exact .bool _
end
end
/-! V4b -/
section
section
variable {w : World} {mean : ExcName → Option Value} {mg mb : Str → Option Value} {A₀ : Around} {base h₀ : Heap} {outer : List Env} {L : Addr} {m : Str → Option Value} {news : List (Addr × Obj)} {h : Heap} {gs : Array GenState} {dr : Drawn} {tk : Nat} {os : OsState} {cs : Scope}
    {dp un : Nat} {gd : Option (List Code)} {cn : Str} {a : Addr} {ccd : Value} {cl : List (Str × Addr)} {Q E : Value → Shared → Prop}
theorem c_lgiven (B : Below A₀ base outer h₀) (F : Fr h₀ L h m) (X : (Mine.hd.heap_39 w.params).In h₀) (N : News h₀ L h news) (T : Top0 mean mg mb h₀) (hk : cs.kind = .function) (hd : dp + 4 < recursionLimit) (hu : un + 32 < cLine)
    {b : Array UInt8} {ks : List Int} {tb ta tm : Tok} {at_ : Nat} (hb : KBw.bInts b = ks) (hbl : ks.length ≤ 100)
    (hn : sGiven ks at_ = none → ∀ h' tk', Fr h₀ L h' m → News h₀ L h' news → Q .none ⟨h', gs, dr, tk', os⟩)
    (hs : ∀ d e, sGiven ks at_ = some (d, e) → OutP Q h₀ L m news gs dr os d e) :
    wpAny (model Challenge.rw_no0080_01.row.prog w) (ktrTop dp un gd cn cs L a ccd cl outer) (call (.ref 316) [.bytes b tb, .int (at_ : Int) ta]) Q E ⟨h, gs, dr, tk, os⟩ := by
  refine wpAny_call ?_
  refine' code_def (binds := [(Str.ofString "data", .bytes b tb), (Str.ofString "at", .int (at_ : Int) ta)]) B F X N T rfl rfl hk ?k6 ?k7 ?k8 ?k9 ?kB ?_ ?c2 ?c3 ?c4 ?c5
  (( (case k6 => k_is); (case k7 => k_is); (case k8 => exact room0 (by assumption)); (case k9 => exact BindsTo.of_eq rfl); (case c5 => decide); (case kB => exact locs rfl); (case c2 => exact rfl); (case c3 => exact rfl); (case c4 => exact rfl)))
  intro g' L' h' FG' F' N' B' X' T'
  k_fold
  refine let_goal ?_
  intro A1 Q1 E1
  k_steps
  unfold StopT
  try dsimp only at *
  rw [show (2 : Int) = ((2 : Nat) : Int) from rfl]
  refine' c_lnumbers (by assumption) (by assumption) (by assumption) (by assumption) (by assumption) rfl ?hd ?hu hb hbl ?hm ?hn ?hs
  case hd => exact room (k := 2) hd rfl
  case hu => exact roomU (k := 16) hu rfl
  case hm => omega
  case hn =>
    intro hv h' tk' F'' N''
    k_steps
    refine hn ?_ _ _ (by assumption) (by assumption)
    unfold sGiven; rw [hv]; rfl
  case hs =>
    intro l e hv x y vs n u h' tk' hI F'' N'' ly lx
    have hll := nums_length hv
    have hoc := oct_of hb
    have h0 := nums_getD hoc hv 0
    have h1 := nums_getD hoc hv 1
    have he := hoc.getD e
    k_steps
    · refine hn ?_ _ _ (by assumption) (cb_drop (by assumption) (by (first | ((repeat' (first | exact sub_refl | exact sub_nil | (refine sub_cons ?_ ?_; focus (((repeat (first | exact List.Mem.head _ | refine List.Mem.tail _ ?_))); done)) | refine sub_tail ?_)); done) | (intro p hp; (try simp only [List.mem_cons, List.mem_append, List.cons_append, List.nil_append, List.append_assoc, List.not_mem_nil, or_false, false_or] at hp ⊢); first | assumption | grind))))
      rename l.getD _ 0 < _ => hA
      rw [sGiven_eq hv]; exact if_pos hA
    · refine hn ?_ _ _ (by assumption) (cb_drop (by assumption) (by (first | ((repeat' (first | exact sub_refl | exact sub_nil | (refine sub_cons ?_ ?_; focus (((repeat (first | exact List.Mem.head _ | refine List.Mem.tail _ ?_))); done)) | refine sub_tail ?_)); done) | (intro p hp; (try simp only [List.mem_cons, List.mem_append, List.cons_append, List.nil_append, List.append_assoc, List.not_mem_nil, or_false, false_or] at hp ⊢); first | assumption | grind))))
      rename ¬ (l.getD _ 0 < _) => hA
      rename (ks.length : Int) ≤ _ => hB
      change ¬ (l.getD 0 0 < l.getD 1 0) at hA
      rw [sGiven_eq hv, if_neg hA, if_pos (Int.ofNat_le.mp hB)]
    · unfold StopT
      try dsimp only at *
      rename ¬ (l.getD _ 0 < _) => hA
      rename ¬ ((ks.length : Int) ≤ _) => hB
      change ¬ (l.getD 0 0 < l.getD 1 0) at hA
      simp only [Int.toNat_natCast] at *
      rw [show ks.getD e 0 + 16 = (((ks.getD e 0).toNat + 16 : Nat) : Int) by rw [Int.natCast_add, Int.toNat_of_nonneg he.1]; rfl, show (e : Int) + 1 = ((e + 1 : Nat) : Int) from rfl]
      refine' c_ltail (by assumption) (by assumption) (by assumption) (by assumption) (by assumption) rfl ?hd ?hu hb hbl ?hn ?hs
      case hd => exact room (k := 1) hd rfl
      case hu => exact roomU (k := 8) hu rfl
      case hn =>
        intro hv2 h' tk' F'' N''
        k_steps
        refine hn ?_ _ _ (by assumption) (cb_drop (by assumption) (by (first | ((repeat' (first | exact sub_refl | exact sub_nil | (refine sub_cons ?_ ?_; focus (((repeat (first | exact List.Mem.head _ | refine List.Mem.tail _ ?_))); done)) | refine sub_tail ?_)); done) | (intro p hp; (try simp only [List.mem_cons, List.mem_append, List.cons_append, List.nil_append, List.append_assoc, List.not_mem_nil, or_false, false_or] at hp ⊢); first | assumption | grind))))
        rw [sGiven_eq hv, if_neg hA, if_neg (fun q => hB (Int.ofNat_le.mpr q)), sTail_none hv2]
        split <;> rfl
      case hs =>
        intro hv2 c hc x2 t2 u2 h' tk' F'' N'' l2
        have hcl : (((ks.drop (e + 1)).take ((ks.getD e 0).toNat + 16)).length : Int) = ks.getD e 0 + 16 := by
          rw [List.length_take, List.length_drop, Nat.min_eq_left (Nat.le_sub_of_add_le' (Nat.not_lt.mp hv2)), Int.natCast_add, Int.toNat_of_nonneg he.1]; rfl
        k_steps
        · refine hn ?_ _ _ (by assumption) (cb_drop (by assumption) (by (first | ((repeat' (first | exact sub_refl | exact sub_nil | (refine sub_cons ?_ ?_; focus (((repeat (first | exact List.Mem.head _ | refine List.Mem.tail _ ?_))); done)) | refine sub_tail ?_)); done) | (intro p hp; (try simp only [List.mem_cons, List.mem_append, List.cons_append, List.nil_append, List.append_assoc, List.not_mem_nil, or_false, false_or] at hp ⊢); first | assumption | grind))))
          rename ks.getD e 0 < 1 => hC
          rw [sGiven_eq hv, if_neg hA, if_neg (fun q => hB (Int.ofNat_le.mpr q)), if_pos (Or.inl hC)]
        · refine hn ?_ _ _ (by assumption) (cb_drop (by assumption) (by (first | ((repeat' (first | exact sub_refl | exact sub_nil | (refine sub_cons ?_ ?_; focus (((repeat (first | exact List.Mem.head _ | refine List.Mem.tail _ ?_))); done)) | refine sub_tail ?_)); done) | (intro p hp; (try simp only [List.mem_cons, List.mem_append, List.cons_append, List.nil_append, List.append_assoc, List.not_mem_nil, or_false, false_or] at hp ⊢); first | assumption | grind))))
          rename 20 < ks.getD e 0 => hC
          rw [sGiven_eq hv, if_neg hA, if_neg (fun q => hB (Int.ofNat_le.mpr q)), if_pos (Or.inr hC)]
        · rename Fr h₀ _ _ _ => lF'
          rename News h₀ _ _ _ => lN'
          rename _ < _ ∧ x2 < _ ∧ _ => l4
          rename x2 < _ ∧ x < _ ∧ _ => l3
          rename ¬ (20 < ks.getD e 0) => hD
          rename ¬ (ks.getD e 0 < 1) => hC
          rename KBw.bInts (KBy.picked c none _) = _ => hp1
          rename KBw.bInts (KBy.picked c (some _) none) = _ => hp2
          have hcc : clipAt ((ks.drop (e + 1)).take ((ks.getD e 0).toNat + 16)).length (ks.getD e 0) = (ks.getD e 0).toNat := by
            have h9 := clipNat ((ks.drop (e + 1)).take ((ks.getD e 0).toNat + 16)).length (ks.getD e 0).toNat
            rw [Int.toNat_of_nonneg he.1] at h9
            rw [h9]; exact Nat.min_eq_left (Int.ofNat_le.mp (by rw [hcl, Int.toNat_of_nonneg he.1]; exact Int.le_add_of_nonneg_right (by decide)))
          rw [hcc] at hp1 hp2
          have hp3 := hp2.trans (List.take_of_length_le (by rw [List.length_drop]; omega))
          exact fin_flat (hs _ _ (by rw [sGiven_eq hv, if_neg hA, if_neg (fun q => hB (Int.ofNat_le.mpr q)), if_neg (fun q => q.elim hC hD), sTail_some hv2]; rfl)) lF' lN' (by (first | ((repeat' (first | exact sub_refl | exact sub_nil | (refine sub_cons ?_ ?_; focus (((repeat (first | exact List.Mem.head _ | refine List.Mem.tail _ ?_))); done)) | refine sub_tail ?_)); done) | (intro p hp; (try simp only [List.mem_cons, List.mem_append, List.cons_append, List.nil_append, List.append_assoc, List.not_mem_nil, or_false, false_or] at hp ⊢); first | assumption | grind))) (.cons (.str _ _) (.cons (.int _ _) (.cons (.int _ _) (.cons (.bytes _ hp1) (.cons (.bytes _ hp3) .nil))))) l4.1 (fun q hq => Nat.lt_trans (ly q hq) l3.2.2.1)
end
end
/-! V4c -/
section
section
variable {w : World} {mean : ExcName → Option Value} {mg mb : Str → Option Value} {A₀ : Around} {base h₀ : Heap} {outer : List Env} {L : Addr} {m : Str → Option Value} {news : List (Addr × Obj)} {h : Heap} {gs : Array GenState} {dr : Drawn} {tk : Nat} {os : OsState} {cs : Scope}
    {dp un : Nat} {gd : Option (List Code)} {cn : Str} {a : Addr} {ccd : Value} {cl : List (Str × Addr)} {Q E : Value → Shared → Prop}
end
section
variable {w : World} {mean : ExcName → Option Value} {mg mb : Str → Option Value} {A₀ : Around} {base h₀ : Heap} {outer : List Env} {L : Addr} {m : Str → Option Value} {news : List (Addr × Obj)} {h : Heap} {gs : Array GenState} {dr : Drawn} {tk : Nat} {os : OsState} {cs : Scope}
    {dp un : Nat} {gd : Option (List Code)} {cn : Str} {a : Addr} {ccd : Value} {cl : List (Str × Addr)} {Q E : Value → Shared → Prop}
theorem nums_bound4 {ks : List Int} {at_ e : Nat} {l : List Int} (ho : Oct ks) (h : nums ks at_ 4 = some (l, e)) : e ≤ ks.length := by
  have h' : (itO (nstep ks) 3 ([], at_)).bind (nstep ks) = some (l, e) := h
  obtain ⟨⟨l1, e1⟩, h1, h2⟩ := Option.bind_eq_some_iff.mp h'
  obtain ⟨⟨n, e2⟩, h4, h3⟩ := Option.map_eq_some_iff.mp h2
  obtain ⟨rfl, rfl⟩ := Prod.mk.inj h3
  exact (vint_bound ho h4).2.2.2.1
theorem pick3 {h₀ h : Heap} {L : Addr} {a b c : Addr × Obj} {rest news : List (Addr × Obj)} (N : News h₀ L h (a :: b :: c :: rest)) (hs : ∀ p ∈ news, p ∈ rest) : News h₀ L h (b :: c :: news) := by
  refine cb_drop N ?_
  intro p hp
  rcases List.mem_cons.mp hp with rfl | hp
  · exact .tail _ (.head _)
  · rcases List.mem_cons.mp hp with rfl | hp
    · exact .tail _ (.tail _ (.head _))
    · exact .tail _ (.tail _ (.tail _ (hs p hp)))
theorem pick5 {h₀ h : Heap} {L : Addr} {a b c d r : Addr × Obj} {t1 t2 t3 : List (Addr × Obj)} (N : News h₀ L h (a :: b :: c :: d :: (r :: (t1 ++ t2) ++ t3))) : News h₀ L h (r :: a :: (t1 ++ t2 ++ t3)) := by
  refine cb_drop N ?_
  intro p hp
  rcases List.mem_cons.mp hp with rfl | hp
  · exact .tail _ (.tail _ (.tail _ (.tail _ (.head _))))
  · rcases List.mem_cons.mp hp with rfl | hp
    · exact .head _
    · exact .tail _ (.tail _ (.tail _ (.tail _ (.tail _ hp))))
theorem c_lack (B : Below A₀ base outer h₀) (F : Fr h₀ L h m) (X : (Mine.hd.heap_39 w.params).In h₀) (N : News h₀ L h news) (T : Top0 mean mg mb h₀) (hk : cs.kind = .function) (hd : dp + 4 < recursionLimit) (hu : un + 32 < cLine)
    {b : Array UInt8} {ks : List Int} {tb ta tm : Tok} {at_ : Nat} {told : Int} (hb : KBw.bInts b = ks) (hbl : ks.length ≤ 100)
    (hn : sAck ks at_ told = none → ∀ h' tk', Fr h₀ L h' m → News h₀ L h' news → Q .none ⟨h', gs, dr, tk', os⟩)
    (hs : ∀ d e, sAck ks at_ told = some (d, e) → OutP Q h₀ L m news gs dr os d e) :
    wpAny (model Challenge.rw_no0080_01.row.prog w) (ktrTop dp un gd cn cs L a ccd cl outer) (call (.ref 288) [.bytes b tb, .int (at_ : Int) ta, .int told tm]) Q E ⟨h, gs, dr, tk, os⟩ := by
  have hoc := oct_of hb
  refine wpAny_call ?_
  refine' code_def (binds := [(Str.ofString "data", .bytes b tb), (Str.ofString "at", .int (at_ : Int) ta), (Str.ofString "told", .int told tm)]) B F X N T rfl rfl hk ?k6 ?k7 ?k8 ?k9 ?kB ?_ ?c2 ?c3 ?c4 ?c5
  (( (case k6 => k_is); (case k7 => k_is); (case k8 => exact room0 (by assumption)); (case k9 => exact BindsTo.of_eq rfl); (case c5 => decide); (case kB => exact locs rfl); (case c2 => exact rfl); (case c3 => exact rfl); (case c4 => exact rfl)))
  intro g' L' h' FG' F' N' B' X' T'
  k_fold
  refine let_goal ?_
  intro A1 Q1 E1
  k_steps
  unfold StopT
  try dsimp only at *
  refine' c_lnumbers (many := 4) (by assumption) (by assumption) (by assumption) (by assumption) (by assumption) rfl ?hd ?hu hb hbl ?hm ?hn ?hs
  case hd => exact room (k := 2) hd rfl
  case hu => exact roomU (k := 16) hu rfl
  case hm => omega
  case hn =>
    intro hv h' tk' F'' N''
    k_steps
    refine hn ?_ _ _ (by assumption) (by assumption)
    unfold sAck sRanges; rw [hv]; rfl
  case hs =>
    intro l e hv x y vs n u h' tk' hI F'' N'' ly lx
    have hll := nums_length hv
    obtain ⟨high, delay, more, first, rfl⟩ : ∃ p q r s, l = [p, q, r, s] := by
      match l, hll with
      | [p, q, r, s], _ => exact ⟨p, q, r, s, rfl⟩
    obtain ⟨t0, t1, t2, t3, rfl⟩ : ∃ p q r s, vs = [.int high p, .int delay q, .int more r, .int first s] := by
      cases hI with | cons _ p hI => cases hI with | cons _ q hI => cases hI with | cons _ r hI => cases hI with | cons _ s hI => cases hI; exact ⟨p, q, r, s, rfl⟩
    have hbn := nums_vals hoc hv
    have hmo := hbn more (.tail _ (.tail _ (.head _)))
    have hat := (nums_bound4 hoc hv)
    k_steps
    · refine hn ?_ _ _ (by assumption) (cb_drop (by assumption) (by (first | ((repeat' (first | exact sub_refl | exact sub_nil | (refine sub_cons ?_ ?_; focus (((repeat (first | exact List.Mem.head _ | refine List.Mem.tail _ ?_))); done)) | refine sub_tail ?_)); done) | (intro p hp; (try simp only [List.mem_cons, List.mem_append, List.cons_append, List.nil_append, List.append_assoc, List.not_mem_nil, or_false, false_or] at hp ⊢); first | assumption | grind))))
      rename high - first < 0 => hA
      unfold sAck; rw [sRanges_eq hv, if_pos hA]; rfl
    · unfold StopT
      try dsimp only at *
      rename ¬ (high - first < 0) => hA
      rename Fr g' _ _ _ => lF'
      rename News g' _ _ _ => lN'
      rename IsRange _ _ _ _ _ _ _ _ => lR
      rename_i d1 hh7 l1c rl hh6 l2c dz hh5 l3c hh4 hh3 hh2 hh1 FF NN hh0 tkk t1' u1' v1' aa
      have hny : ∀ q ∈ news, q.1 < d1 := fun q hq => Nat.lt_trans (ly q hq) l1c.2.1
      have hsr := sRanges_eq hv
      rw [if_neg hA] at hsr
      obtain ⟨O1, ⟨t9, hO1⟩, lN2⟩ : ∃ O, (∃ t, O = tupO [.int (high - first) t, .int high t0] 0) ∧ News g' L' hh0 ((rl, listOf [Value.ref d1].toArray 0) :: (d1, O) :: news) := ⟨_, ⟨_, rfl⟩, pick3 (news := news) lN' (by (first | ((repeat' (first | exact sub_refl | exact sub_nil | (refine sub_cons ?_ ?_; focus (((repeat (first | exact List.Mem.head _ | refine List.Mem.tail _ ?_))); done)) | refine sub_tail ?_)); done) | (intro p hp; (try simp only [List.mem_cons, List.mem_append, List.cons_append, List.nil_append, List.append_assoc, List.not_mem_nil, or_false, false_or] at hp ⊢); first | assumption | grind)))⟩
      subst hO1
      refine' lp_range (n := more.toNat) (σ := List Value × List D × Int × Tok × Nat × Tok × Nat × List (Addr × Obj)) (fun c => [(Str.ofString "low", .int c.2.2.1 c.2.2.2.1), (Str.ofString "at", .int (c.2.2.2.2.1 : Int) c.2.2.2.2.2.1)])
        (fun i c nx => nx = (rl, listOf c.1.toArray c.2.2.2.2.2.2.1) :: (c.2.2.2.2.2.2.2 ++ news) ∧ DAll c.2.2.2.2.2.2.2 c.1 c.2.1 ∧ (∀ p ∈ c.2.2.2.2.2.2.2, p.1 ≠ rl ∧ ∀ q ∈ news, q.1 < p.1) ∧ itO (rstep ks) i (high - first, e, [.tuple [.int (high - first), .int high]]) = some (c.2.2.1, c.2.2.2.2.1, c.2.1))
        [Str.ofString "turn", Str.ofString "pair", Str.ofString "top"] ([.ref d1], [.tuple [.int (high - first), .int high]], high - first, _, e, u, 0, [(d1, tupO [.int (high - first) t9, .int high t0] 0)]) rfl lR ?hsm ?hsz lF' lN2 ?kk ?kf ?turn ?done
      case hsm => exact small_one (by omega) (by omega) (by omega) (by omega)
      case hsz => rw [show more = ((more.toNat : Nat) : Int) by omega]; exact rangeSize_nat _ _
      case kk => intro p hp; simp only [List.mem_cons, List.not_mem_nil, or_false] at hp; rcases hp with rfl | rfl <;> exact rfl
      case kf =>
        refine ⟨rfl, ?_, fun p hp => ?_, rfl⟩
        exact .cons (.tuple (.head _) (.cons (.int _ _) (.cons (.int _ _) .nil))) .nil
        rw [List.mem_singleton.mp hp]
        exact ⟨Nat.ne_of_lt l2c.1, hny⟩
      case turn =>
        clear lF' lN' lN2 FF NN
        rintro i ⟨rs, ds, low, tl, e2, te, nn, TL⟩ nx t uu h tk own hi ⟨rfl, hD, hTL, hP⟩ hoff F'' N''
        dsimp only at hD hTL hP F'' N'' hoff
        have hrb := rstep_bound hoc hat hP
        dsimp only at hrb
        (try dsimp only)
        (try k_fold)
        refine let_post ?_
        intro Qt
        k_steps
        unfold StopT
        refine' c_lnumbers (many := 2) (by assumption) (by assumption) (by assumption) (by assumption) (by assumption) rfl ?hd ?hu hb hbl ?hm ?hn ?hs
        case hd => exact room (k := 2) hd rfl
        case hu => exact roomU (k := 16) hu rfl
        case hm => omega
        case hn =>
          intro hv2 h' tk' F'' N''
          k_steps
          refine hn ?_ _ _ (by assumption) (cb_drop (by assumption) (by (first | ((repeat' (first | exact sub_refl | exact sub_nil | (refine sub_cons ?_ ?_; focus (((repeat (first | exact List.Mem.head _ | refine List.Mem.tail _ ?_))); done)) | refine sub_tail ?_)); done) | (intro p hp; (try simp only [List.mem_cons, List.mem_append, List.cons_append, List.nil_append, List.append_assoc, List.not_mem_nil, or_false, false_or] at hp ⊢); first | assumption | grind))))
          unfold sAck; rw [hsr, itO_none ((itO_next hP).trans (rstep_end hv2)) hi]; rfl
        case hs =>
          intro l2 e3 hv2 x2 y2 vs2 n2 u2 h' tk' hI2 F'' N'' ly2 lx2
          have hll2 := nums_length hv2
          obtain ⟨p, q, rfl⟩ : ∃ p q, l2 = [p, q] := by
            match l2, hll2 with
            | [p, q], _ => exact ⟨p, q, rfl⟩
          obtain ⟨tp, tq, rfl⟩ : ∃ a b, vs2 = [.int p a, .int q b] := by
            cases hI2 with | cons _ a hI2 => cases hI2 with | cons _ b hI2 => cases hI2; exact ⟨a, b, rfl⟩
          k_steps
          · rename low - _ - 2 - _ < 0 => hB
            refine hn ?_ _ _ (by assumption) (cb_drop (by assumption) (by (first | ((repeat' (first | exact sub_refl | exact sub_nil | (refine sub_cons ?_ ?_; focus (((repeat (first | exact List.Mem.head _ | refine List.Mem.tail _ ?_))); done)) | refine sub_tail ?_)); done) | (intro p hp; (try simp only [List.mem_cons, List.mem_append, List.cons_append, List.nil_append, List.append_assoc, List.not_mem_nil, or_false, false_or] at hp ⊢); first | assumption | grind))))
            unfold sAck; rw [hsr, itO_none ((itO_next hP).trans (rstep_low hv2 hB)) hi]; rfl
          · unfold StopT
            rename ¬ (low - _ - 2 - _ < 0) => hB
            rename_i dn hq1 FF2 NN2 ld
            obtain ⟨O, ⟨ta9, tb9, hO⟩, NN3⟩ : ∃ O, (∃ ta tb, O = tupO [.int (low - p - 2 - q) ta, .int (low - p - 2) tb] 0) ∧ News g' L' hq1 ((rl, listOf rs.toArray nn) :: (dn, O) :: (TL ++ news ++ own)) := ⟨_, ⟨_, _, rfl⟩, pick5 NN2⟩
            have hlt := ktn_ltOf ld.2.2.2
            have hrl : rl < dn := hlt (rl, _) (.head _)
            have hdl := hD.length
            refine' append_1 (vs := rs) (n := nn) (rest := (dn, O) :: (TL ++ news ++ own)) FF2 NN3 ?hr ?hz ?_
            case hr =>
              intro z hz
              rcases List.mem_cons.mp hz with rfl | hz
              · exact Nat.ne_of_gt hrl
              · rcases List.mem_append.mp hz with hz | hz
                · rcases List.mem_append.mp hz with hz | hz
                  · exact (hTL z hz).1
                  · exact Nat.ne_of_lt (Nat.lt_trans (hny z hz) l2c.1)
                · exact hoff z hz _ (.head _)
            case hz => exact Nat.le_trans (few hrb hbl hdl) (by decide)
            intro hq2 FF4 NN4
            clear FF2 NN2 NN3
            k_steps
            refine' lp_end (rs ++ [.ref dn], ds ++ [.tuple [.int (low - p - 2 - q), .int (low - p - 2)]], low - p - 2 - q, _, e3, _, nn + 1, (dn, O) :: TL) ((rl, listOf (rs ++ [Value.ref dn]).toArray (nn + 1)) :: (((dn, O) :: TL) ++ news)) (by assumption) (by assumption) ?s1 ?s2 ?ho ?hk ?hr ?hp
            case s1 => (first | ((repeat' (first | exact sub_refl | exact sub_nil | (refine sub_cons ?_ ?_; focus (((repeat (first | exact List.Mem.head _ | refine List.Mem.tail _ ?_))); done)) | refine sub_tail ?_)); done) | (intro p hp; (try simp only [List.mem_cons, List.mem_append, List.cons_append, List.nil_append, List.append_assoc, List.not_mem_nil, or_false, false_or] at hp ⊢); first | assumption | grind))
            case s2 => (first | ((repeat' (first | exact sub_refl | exact sub_nil | (refine sub_cons ?_ ?_; focus (((repeat (first | exact List.Mem.head _ | refine List.Mem.tail _ ?_))); done)) | refine sub_tail ?_)); done) | (intro p hp; (try simp only [List.mem_cons, List.mem_append, List.cons_append, List.nil_append, List.append_assoc, List.not_mem_nil, or_false, false_or] at hp ⊢); first | assumption | grind))
            case ho =>
              intro z hz bb hbb
              simp only [List.map_cons, List.map_append, List.cons_append, List.mem_cons] at hbb
              rcases hbb with rfl | rfl | hbb
              · exact hoff z hz _ (.head _)
              · exact Nat.ne_of_lt (hlt z (.tail _ (List.mem_append.mpr (.inr hz))))
              · exact hoff z hz _ (.tail _ (by rw [List.map_append]; exact hbb))
            case hk => intro z hz; simp only [List.mem_cons, List.not_mem_nil, or_false] at hz; rcases hz with rfl | rfl <;> exact rfl
            case hr => ((intro z h1 h2 h3; (simp only [List.forall_mem_cons, List.not_mem_nil, false_implies, implies_true, and_true, ne_eq] at h2); (simp only [List.contains_cons, List.contains_nil, Bool.or_false, Bool.or_eq_false_iff, beq_eq_false_iff_ne, ne_eq] at h3); (simp [kstB, h1, h2, h3]; done)))
            case hp =>
              refine ⟨rfl, ?_, ?_, (itO_next hP).trans (rstep_go hv2 hB)⟩
              · refine (hD.mono fun _ h => .tail _ h).snoc (.tuple (vs := [.int (low - p - 2 - q) ta9, .int (low - p - 2) tb9]) ?_ (.cons (.int _ _) (.cons (.int _ _) .nil)))
                rw [← hO]; exact .head _
              · intro z hz
                rcases List.mem_cons.mp hz with rfl | hz
                · exact ⟨Nat.ne_of_gt hrl, fun q hq => hlt q (.tail _ (List.mem_append.mpr (.inl (List.mem_append.mpr (.inr hq)))))⟩
                · exact hTL z hz
      case done =>
        clear lF' lN' lN2 FF NN
        rintro ⟨rs, ds, low, tl, e2, te, nn, TL⟩ nx uu h tk ⟨rfl, hD, hTL, hP⟩ F'' N''
        dsimp only at hD hTL hP F'' N''
        have hrb := rstep_bound hoc hat hP
        have hsr2 : sRanges ks at_ = some (delay, ds, e2) := by rw [hsr, hP]; rfl
        try dsimp only
        k_steps
        · unfold StopT
          rename told = 3 => h3
          rw [show (3 : Int) = ((3 : Nat) : Int) from rfl]
          refine' c_lnumbers (many := 3) (by assumption) (by assumption) (by assumption) (by assumption) (by assumption) rfl ?hd ?hu hb hbl ?hm ?hn ?hs
          case hd => exact room (k := 2) hd rfl
          case hu => exact roomU (k := 16) hu rfl
          case hm => omega
          case hn =>
            intro hv2 h' tk' F'' N''
            k_steps
            refine hn ?_ _ _ (by assumption) (cb_drop (by assumption) (by (first | ((repeat' (first | exact sub_refl | exact sub_nil | (refine sub_cons ?_ ?_; focus (((repeat (first | exact List.Mem.head _ | refine List.Mem.tail _ ?_))); done)) | refine sub_tail ?_)); done) | (intro p hp; (try simp only [List.mem_cons, List.mem_append, List.cons_append, List.nil_append, List.append_assoc, List.not_mem_nil, or_false, false_or] at hp ⊢); first | assumption | grind))))
            unfold sAck; rw [hsr2]; show (nums _ _ _).map _ = _; rw [if_pos h3, hv2]; rfl
          case hs =>
            intro l3 e3 hv2 x3 y3 vs3 n3 u3 h' tk' hI3 F'' N'' ly3 lx3
            have hdl := hD.length
            dsimp only at hrb
            have hrl : rs.toArray.size ≤ 16384 := by rw [List.size_toArray]; exact Nat.le_trans (few hrb hbl hdl) (by decide)
            k_steps
            (try unfold StopT)
            rename Fr g' _ _ _ => lF4
            rename News g' _ _ _ => lN4
            refine' kde_tupleOf lF4 lN4 (News.isList lN4 (.tail _ (.tail _ (.head _)))) hrl rfl ?_
            intro T1 h5 lF5 lN5 l5
            k_steps
            any_goals (exfalso; contradiction)
            (try unfold StopT)
            have hll3 := nums_length hv2
            have hil3 := hI3.length
            rename Fr g' _ _ _ => lF6
            rename News g' _ _ _ => lN6
            refine' kde_tupleOf lF6 lN6 (News.isList lN6 (.tail _ (.tail _ (.head _)))) (by rw [List.size_toArray]; omega) rfl ?_
            intro T2 h6 lF7 lN7 l7
            k_steps
            rename Fr h₀ _ _ _ => lF8
            rename News h₀ _ _ _ => lN8
            rename _ < _ ∧ T2 < _ ∧ _ => l9
            rename T2 < _ ∧ T1 < _ ∧ _ => l8
            have hv3 : sAck ks at_ told = some (.tuple [.str (Str.ofString "ack"), .int delay, .tuple ds, .tuple (l3.map D.int)], e3) := by
              unfold sAck; rw [hsr2]; show (nums _ _ _).map _ = _; rw [if_pos h3, hv2]; show some (_, _) = _; rw [if_pos h3]
            have hT1n : ∀ q ∈ news, q.1 < T1 := fun q hq => l5 q (by repeat (first | exact List.mem_append.mpr (.inr hq) | refine List.Mem.tail _ ?_))
            refine fin_ack (tl := (T2, tupO vs3 0) :: (T1, tupO rs 0) :: TL) (hs _ _ hv3) lF8 lN8 (by (first | ((repeat' (first | exact sub_refl | exact sub_nil | (refine sub_cons ?_ ?_; focus (((repeat (first | exact List.Mem.head _ | refine List.Mem.tail _ ?_))); done)) | refine sub_tail ?_)); done) | (intro p hp; (try simp only [List.mem_cons, List.mem_append, List.cons_append, List.nil_append, List.append_assoc, List.not_mem_nil, or_false, false_or] at hp ⊢); first | assumption | grind))) (by (first | ((repeat' (first | exact sub_refl | exact sub_nil | (refine sub_cons ?_ ?_; focus (((repeat (first | exact List.Mem.head _ | refine List.Mem.tail _ ?_))); done)) | refine sub_tail ?_)); done) | (intro p hp; (try simp only [List.mem_cons, List.mem_append, List.cons_append, List.nil_append, List.append_assoc, List.not_mem_nil, or_false, false_or] at hp ⊢); first | assumption | grind))) (.cons (.str _ _) (.cons (.int _ _) (.cons (.tuple (.tail _ (.head _)) (hD.mono fun _ h => .tail _ (.tail _ h))) (.cons (.tuple (.head _) (ints_dall hI3)) .nil)))) l9.1 ?_ (fun q hq => Nat.lt_trans (hT1n q hq) l8.2.1)
            intro z hz
            rcases List.mem_cons.mp hz with rfl | hz
            · exact ⟨l9.2.1, fun q hq => Nat.lt_trans (hT1n q hq) (l7 (T1, _) (.head _))⟩
            · rcases List.mem_cons.mp hz with rfl | hz
              · exact ⟨l9.2.2.1, hT1n⟩
              · exact ⟨Nat.lt_trans (l5 z (by repeat (first | exact List.mem_append.mpr (.inl hz) | refine List.Mem.tail _ ?_))) l9.2.2.1, (hTL z hz).2⟩
        · unfold StopT
          rename told ≠ 3 => h3
          rw [show (0 : Int) = ((0 : Nat) : Int) from rfl]
          refine' c_lnumbers (many := 0) (by assumption) (by assumption) (by assumption) (by assumption) (by assumption) rfl ?hd ?hu hb hbl ?hm ?hn ?hs
          case hd => exact room (k := 2) hd rfl
          case hu => exact roomU (k := 16) hu rfl
          case hm => omega
          case hn =>
            intro hv2 h' tk' F'' N''
            k_steps
            refine hn ?_ _ _ (by assumption) (cb_drop (by assumption) (by (first | ((repeat' (first | exact sub_refl | exact sub_nil | (refine sub_cons ?_ ?_; focus (((repeat (first | exact List.Mem.head _ | refine List.Mem.tail _ ?_))); done)) | refine sub_tail ?_)); done) | (intro p hp; (try simp only [List.mem_cons, List.mem_append, List.cons_append, List.nil_append, List.append_assoc, List.not_mem_nil, or_false, false_or] at hp ⊢); first | assumption | grind))))
            unfold sAck; rw [hsr2]; show (nums _ _ _).map _ = _; rw [if_neg h3, hv2]; rfl
          case hs =>
            intro l3 e3 hv2 x3 y3 vs3 n3 u3 h' tk' hI3 F'' N'' ly3 lx3
            have hdl := hD.length
            dsimp only at hrb
            have hrl : rs.toArray.size ≤ 16384 := by rw [List.size_toArray]; exact Nat.le_trans (few hrb hbl hdl) (by decide)
            k_steps
            (try unfold StopT)
            rename Fr g' _ _ _ => lF4
            rename News g' _ _ _ => lN4
            refine' kde_tupleOf lF4 lN4 (News.isList lN4 (.tail _ (.tail _ (.head _)))) hrl rfl ?_
            intro T1 h5 lF5 lN5 l5
            k_steps
            any_goals (exfalso; contradiction)
            rename Fr h₀ _ _ _ => lF8
            rename News h₀ _ _ _ => lN8
            rename _ < _ ∧ T1 < _ ∧ _ => l9
            rename T1 < _ ∧ _ < _ ∧ _ => l8
            have hv3 : sAck ks at_ told = some (.tuple [.str (Str.ofString "ack"), .int delay, .tuple ds, .none], e3) := by
              unfold sAck; rw [hsr2]; show (nums _ _ _).map _ = _; rw [if_neg h3, hv2]; show some (_, _) = _; rw [if_neg h3]
            have hT1n : ∀ q ∈ news, q.1 < T1 := fun q hq => l5 q (by repeat (first | exact List.mem_append.mpr (.inr hq) | refine List.Mem.tail _ ?_))
            refine fin_ack (tl := (T1, tupO rs 0) :: TL) (hs _ _ hv3) lF8 lN8 (by (first | ((repeat' (first | exact sub_refl | exact sub_nil | (refine sub_cons ?_ ?_; focus (((repeat (first | exact List.Mem.head _ | refine List.Mem.tail _ ?_))); done)) | refine sub_tail ?_)); done) | (intro p hp; (try simp only [List.mem_cons, List.mem_append, List.cons_append, List.nil_append, List.append_assoc, List.not_mem_nil, or_false, false_or] at hp ⊢); first | assumption | grind))) (by (first | ((repeat' (first | exact sub_refl | exact sub_nil | (refine sub_cons ?_ ?_; focus (((repeat (first | exact List.Mem.head _ | refine List.Mem.tail _ ?_))); done)) | refine sub_tail ?_)); done) | (intro p hp; (try simp only [List.mem_cons, List.mem_append, List.cons_append, List.nil_append, List.append_assoc, List.not_mem_nil, or_false, false_or] at hp ⊢); first | assumption | grind))) (.cons (.str _ _) (.cons (.int _ _) (.cons (.tuple (.head _) (hD.mono fun _ h => .tail _ h)) (.cons .none .nil)))) l9.1 ?_ (fun q hq => Nat.lt_trans (hT1n q hq) l8.1)
            intro z hz
            rcases List.mem_cons.mp hz with rfl | hz
            · exact ⟨l9.2.1, hT1n⟩
            · exact ⟨Nat.lt_trans (l5 z (by repeat (first | exact List.mem_append.mpr (.inl hz) | refine List.Mem.tail _ ?_))) l9.2.1, (hTL z hz).2⟩
end
end
/-! V9 -/
section
section
variable {w : World} {mean : ExcName → Option Value} {mg mb : Str → Option Value} {A₀ : Around} {base h₀ : Heap} {outer : List Env} {L : Addr} {m : Str → Option Value} {news : List (Addr × Obj)} {h : Heap} {gs : Array GenState} {dr : Drawn} {tk : Nat} {os : OsState} {cs : Scope}
    {dp un : Nat} {gd : Option (List Code)} {cn : Str} {a : Addr} {ccd : Value} {cl : List (Str × Addr)} {Q E : Value → Shared → Prop}
end
local macro_rules | `(tactic| walk_at "execs cons") => `(tactic| (with_reducible refine wpAny_execs_cons ?_; try dsimp only))
local macro_rules | `(tactic| walk_at "exec For Name Name cons nil") => `(tactic| (k_here; (rename Fr _ _ _ _ => lF'); (with_unfolding_all refine' For_turnsG lF' ?g ?_; (case g => exact rfl); k_whole)))
section
variable {w : World} {mean : ExcName → Option Value} {mg mb : Str → Option Value} {A₀ : Around} {base h₀ : Heap} {outer : List Env} {L : Addr} {m : Str → Option Value} {news : List (Addr × Obj)} {h : Heap} {gs : Array GenState} {dr : Drawn} {tk : Nat} {os : OsState} {cs : Scope}
    {dp un : Nat} {gd : Option (List Code)} {cn : Str} {a : Addr} {ccd : Value} {cl : List (Str × Addr)} {Q E : Value → Shared → Prop}
set_option maxHeartbeats 40000000 in
theorem p_size (B : Below A₀ base outer h₀) (F : Fr h₀ L h m) (X : (Mine.hd.heap_39 w.params).In h₀) (N : News h₀ L h news) (T : Top0 mean mg mb h₀) (hk : cs.kind = .function) (hd : dp + 4 < recursionLimit) (hu : un + 32 < cLine)
    {n : Int} {tn : Tok} (hn0 : 0 ≤ n) (hn1 : n < 2 ^ 62)
    (hs : ∀ (k : Int) t h' tk', (k = 1 ∧ n < 64 ∨ k = 2 ∧ 64 ≤ n ∧ n < 16384 ∨ k = 4 ∧ 16384 ≤ n ∧ n < 1073741824 ∨ k = 8 ∧ 1073741824 ≤ n) → Fr h₀ L h' m → News h₀ L h' news → Q (.int k t) ⟨h', gs, dr, tk', os⟩) :
    wpAny (model Challenge.rw_no0080_01.row.prog w) (ktrTop dp un gd cn cs L a ccd cl outer) (call (.ref 76) [.int n tn]) Q E ⟨h, gs, dr, tk, os⟩ := by
  refine wpAny_call ?_
  refine' code_def (binds := [(Str.ofString "n", .int n tn)]) B F X N T rfl rfl hk ?k6 ?k7 ?k8 ?k9 ?kB ?_ ?c2 ?c3 ?c4 ?c5
  (( (case k6 => k_is); (case k7 => k_is); (case k8 => exact room0 (by assumption)); (case k9 => exact BindsTo.of_eq rfl); (case c5 => decide); (case kB => exact locs rfl); (case c2 => exact rfl); (case c3 => exact rfl); (case c4 => exact rfl)))
  intro g' L' h' FG' F' N' B' X' T'
  k_fold
  refine let_goal ?_
  intro A1 Q1 E1
  k_steps
  unfold StopT
  with_unfolding_all refine' iter_tupK ?h ?F ?N ?X ?k ?c ?d ?z ?_
  case h => with_unfolding_all rfl
  case F => k_asm
  case N => k_asm
  case X => k_asm
  case k => k_is
  case c => exact rfl
  case d => exact rfl
  case z => decide
  intro i' l1
  have e6 : (1 : Int) * 2 ^ ((8 : Int) * 1 - 2).toNat = 64 := by decide
  have e14 : (1 : Int) * 2 ^ ((8 : Int) * 2 - 2).toNat = 16384 := by decide
  have e30 : (1 : Int) * 2 ^ ((8 : Int) * 4 - 2).toNat = 1073741824 := by decide
  have e62 : (1 : Int) * 2 ^ ((8 : Int) * 8 - 2).toNat = 4611686018427387904 := by decide
  k_steps
  · refine hs _ _ _ _ ?_ (by assumption) (cb_drop (by assumption) (by (first | ((repeat' (first | exact sub_refl | exact sub_nil | (refine sub_cons ?_ ?_; focus (((repeat (first | exact List.Mem.head _ | refine List.Mem.tail _ ?_))); done)) | refine sub_tail ?_)); done) | (intro p hp; (try simp only [List.mem_cons, List.mem_append, List.cons_append, List.nil_append, List.append_assoc, List.not_mem_nil, or_false, false_or] at hp ⊢); first | assumption | grind))))
    simp only [e6, e14, e30, e62] at *
    first | exact .inl ⟨by first | rfl | trivial, by omega⟩ | exact .inr (.inl ⟨by first | rfl | trivial, by omega, by omega⟩) | exact .inr (.inr (.inl ⟨by first | rfl | trivial, by omega, by omega⟩)) | exact .inr (.inr (.inr ⟨by first | rfl | trivial, by omega⟩))
  · refine ⟨_, _, _, news, rfl, by assumption, by assumption, fun p hp q hq => ?_, trivial, ?_⟩
    · rw [List.mem_singleton.mp hq]; exact Nat.ne_of_lt (l1 p hp)
    k_steps
    · refine hs _ _ _ _ ?_ (by assumption) (cb_drop (by assumption) (by (first | ((repeat' (first | exact sub_refl | exact sub_nil | (refine sub_cons ?_ ?_; focus (((repeat (first | exact List.Mem.head _ | refine List.Mem.tail _ ?_))); done)) | refine sub_tail ?_)); done) | (intro p hp; (try simp only [List.mem_cons, List.mem_append, List.cons_append, List.nil_append, List.append_assoc, List.not_mem_nil, or_false, false_or] at hp ⊢); first | assumption | grind))))
      simp only [e6, e14, e30, e62] at *
      first | exact .inl ⟨by first | rfl | trivial, by omega⟩ | exact .inr (.inl ⟨by first | rfl | trivial, by omega, by omega⟩) | exact .inr (.inr (.inl ⟨by first | rfl | trivial, by omega, by omega⟩)) | exact .inr (.inr (.inr ⟨by first | rfl | trivial, by omega⟩))
    · refine ⟨_, _, _, news, rfl, by assumption, by assumption, fun p hp q hq => ?_, trivial, ?_⟩
      · rw [List.mem_singleton.mp hq]; exact Nat.ne_of_lt (l1 p hp)
      k_steps
      · refine hs _ _ _ _ ?_ (by assumption) (cb_drop (by assumption) (by (first | ((repeat' (first | exact sub_refl | exact sub_nil | (refine sub_cons ?_ ?_; focus (((repeat (first | exact List.Mem.head _ | refine List.Mem.tail _ ?_))); done)) | refine sub_tail ?_)); done) | (intro p hp; (try simp only [List.mem_cons, List.mem_append, List.cons_append, List.nil_append, List.append_assoc, List.not_mem_nil, or_false, false_or] at hp ⊢); first | assumption | grind))))
        simp only [e6, e14, e30, e62] at *
        first | exact .inl ⟨by first | rfl | trivial, by omega⟩ | exact .inr (.inl ⟨by first | rfl | trivial, by omega, by omega⟩) | exact .inr (.inr (.inl ⟨by first | rfl | trivial, by omega, by omega⟩)) | exact .inr (.inr (.inr ⟨by first | rfl | trivial, by omega⟩))
      · refine ⟨_, _, _, news, rfl, by assumption, by assumption, fun p hp q hq => ?_, trivial, ?_⟩
        · rw [List.mem_singleton.mp hq]; exact Nat.ne_of_lt (l1 p hp)
        k_steps
        · refine hs _ _ _ _ ?_ (by assumption) (cb_drop (by assumption) (by (first | ((repeat' (first | exact sub_refl | exact sub_nil | (refine sub_cons ?_ ?_; focus (((repeat (first | exact List.Mem.head _ | refine List.Mem.tail _ ?_))); done)) | refine sub_tail ?_)); done) | (intro p hp; (try simp only [List.mem_cons, List.mem_append, List.cons_append, List.nil_append, List.append_assoc, List.not_mem_nil, or_false, false_or] at hp ⊢); first | assumption | grind))))
          simp only [e6, e14, e30, e62] at *
          first | exact .inl ⟨by first | rfl | trivial, by omega⟩ | exact .inr (.inl ⟨by first | rfl | trivial, by omega, by omega⟩) | exact .inr (.inr (.inl ⟨by first | rfl | trivial, by omega, by omega⟩)) | exact .inr (.inr (.inr ⟨by first | rfl | trivial, by omega⟩))
end
section
end
end
/-! Ya -/
section
section
variable {w : World} {mean : ExcName → Option Value} {mg mb : Str → Option Value} {A₀ : Around} {base h₀ : Heap} {outer : List Env} {L : Addr} {m : Str → Option Value} {news : List (Addr × Obj)} {h : Heap} {gs : Array GenState} {dr : Drawn} {tk : Nat} {os : OsState} {cs : Scope}
    {dp un : Nat} {gd : Option (List Code)} {cn : Str} {a : Addr} {ccd : Value} {cl : List (Str × Addr)} {Q E : Value → Shared → Prop}
end
noncomputable abbrev boxO (ls : Addr) (p q : Int) (t1 t2 : Tok) (n : Nat) : Obj := listOf #[.ref ls, .int p t1, .int q t2] n
section
variable {w : World} {mean : ExcName → Option Value} {mg mb : Str → Option Value} {A₀ : Around} {base h₀ : Heap} {outer : List Env} {L : Addr} {m : Str → Option Value} {news : List (Addr × Obj)} {h : Heap} {gs : Array GenState} {dr : Drawn} {tk : Nat} {os : OsState} {cs : Scope}
    {dp un : Nat} {gd : Option (List Code)} {cn : Str} {a : Addr} {ccd : Value} {cl : List (Str × Addr)} {Q E : Value → Shared → Prop}
set_option maxHeartbeats 40000000 in
theorem c_take {bx ls : Addr} {p q many : Int} {t1 t2 tm : Tok} {n nl : Nat} {vs : List Value} {is : List Int} (B : Below A₀ base outer h₀) (F : Fr h₀ L h m) (X : (Mine.hd.heap_39 w.params).In h₀) (N : News h₀ L h ((bx, boxO ls p q t1 t2 n) :: (ls, listOf vs.toArray nl) :: news)) (T : Top0 mean mg mb h₀) (hk : cs.kind = .function) (hd : dp + 1 < recursionLimit) (hu : un + 8 < cLine)
    (hm : 0 < many) (hi : IntsAre vs is) (hp : 0 ≤ p) (hl : is.length ≤ 40) (hbl : bx ≠ ls) (hbn : ∀ p ∈ news, p.1 ≠ bx)
    (hs : ∀ r p' q' t u1 u2 n' h' tk', 0 ≤ r → r < many → 0 ≤ p' → Fr h₀ L h' m → News h₀ L h' ((bx, boxO ls p' q' u1 u2 n') :: (ls, listOf vs.toArray nl) :: news) → Q (.int r t) ⟨h', gs, dr, tk', os⟩) :
    wpAny (model Challenge.rw_no0080_01.row.prog w) (ktrTop dp un gd cn cs L a ccd cl outer) (call (.ref 255) [.ref bx, .int many tm]) Q E ⟨h, gs, dr, tk, os⟩ := by
  refine wpAny_call ?_
  refine' code_def (binds := [(Str.ofString "box", .ref bx), (Str.ofString "many", .int many tm)]) B F X N T rfl rfl hk ?k6 ?k7 ?k8 ?k9 ?kB ?_ ?c2 ?c3 ?c4 ?c5
  (( (case k6 => k_is); (case k7 => k_is); (case k8 => exact room0 (by assumption)); (case k9 => exact BindsTo.of_eq rfl); (case c5 => decide); (case kB => exact locs rfl); (case c2 => exact rfl); (case c3 => exact rfl); (case c4 => exact rfl)))
  intro g' L' h' FG' F' N' B' X' T'
  k_fold
  refine let_goal ?_
  intro A1 Q1 E1
  k_steps
  all_goals
    have hU : ∀ p ∈ (ls, listOf vs.toArray nl) :: news, p.1 ≠ bx := by
      intro p hp
      rcases List.mem_cons.mp hp with rfl | hp
      · exact Ne.symm hbl
      · exact hbn p hp
  · unfold StopT
    rename Fr g' _ _ _ => lF
    rename News g' _ _ _ => lN
    refine' ki_set lF lN (by decide) (by decide) rfl (.head hU) ?_
    intro h2 F2 N2
    clear lF lN
    k_steps
    unfold StopT
    rename Fr g' _ _ _ => lF
    rename News g' _ _ _ => lN
    refine' ki_set lF lN (by decide) (by decide) rfl (.head hU) ?_
    intro h3 F3 N3
    clear lF lN
    k_steps
    refine hs _ _ _ _ _ _ _ _ _ (Int.fmod_nonneg_of_pos _ hm) (Int.fmod_lt_of_pos _ hm) ?_ (by assumption) (by assumption)
    omega
  · unfold StopT
    rename Fr g' _ _ _ => lF
    rename News g' _ _ _ => lN
    refine' ki_set lF lN (by decide) (by decide) rfl (.head hU) ?_
    intro h2 F2 N2
    clear lF lN
    k_steps
    refine hs _ _ _ _ _ _ _ _ _ (Int.fmod_nonneg_of_pos _ hm) (Int.fmod_lt_of_pos _ hm) ?_ (by assumption) (by assumption)
    omega
end
section
end
end
/-! Di -/
section
section
variable {w : World} {mean : ExcName → Option Value} {mg mb : Str → Option Value} {A₀ : Around} {base h₀ : Heap} {outer : List Env} {L : Addr} {m : Str → Option Value} {news : List (Addr × Obj)} {h : Heap} {gs : Array GenState} {dr : Drawn} {tk : Nat} {os : OsState} {cs : Scope}
    {dp un : Nat} {gd : Option (List Code)} {cn : Str} {a : Addr} {ccd : Value} {cl : List (Str × Addr)} {Q E : Value → Shared → Prop}
end
theorem dict_cnt {w : World} {h : Heap} (X : (Mine.hd.heap_39 w.params).In h) : h.DictOf (intKind Challenge.rw_no0080_01.row.prog w) 150 [(18, .ref 151), (19, .ref 152), (22, .ref 153), (23, .ref 154)] := by
  have h2 := X 150 ⟨_, _, .dict _ _, _⟩ (by k_is)
  refine ⟨_, _, _, h2, ⟨rfl, rfl, rfl⟩, rfl, ?_, ?_, by decide⟩
  · intro e he
    simp only [List.mem_toArray, List.mem_cons, List.not_mem_nil, or_false] at he
    rcases he with rfl | rfl | rfl | rfl
    · exact ⟨18, rfl, rfl⟩
    · exact ⟨19, rfl, rfl⟩
    · exact ⟨22, rfl, rfl⟩
    · exact ⟨23, rfl, rfl⟩
  · exact .cons rfl rfl (.cons rfl rfl (.cons rfl rfl (.cons rfl rfl .nil)))
theorem dict_pln {w : World} {h : Heap} (X : (Mine.hd.heap_39 w.params).In h) : h.DictOf (intKind Challenge.rw_no0080_01.row.prog w) 140 [(1, .ref 141), (4, .ref 142), (5, .ref 143), (16, .ref 144), (17, .ref 145), (20, .ref 146), (21, .ref 147), (25, .ref 148), (30, .ref 149)] := by
  have h2 := X 140 ⟨_, _, .dict _ _, _⟩ (by k_is)
  refine ⟨_, _, _, h2, ⟨rfl, rfl, rfl⟩, rfl, ?_, ?_, by decide⟩
  · intro e he
    simp only [List.mem_toArray, List.mem_cons, List.not_mem_nil, or_false] at he
    rcases he with rfl | rfl | rfl | rfl | rfl | rfl | rfl | rfl | rfl
    · exact ⟨1, rfl, rfl⟩
    · exact ⟨4, rfl, rfl⟩
    · exact ⟨5, rfl, rfl⟩
    · exact ⟨16, rfl, rfl⟩
    · exact ⟨17, rfl, rfl⟩
    · exact ⟨20, rfl, rfl⟩
    · exact ⟨21, rfl, rfl⟩
    · exact ⟨25, rfl, rfl⟩
    · exact ⟨30, rfl, rfl⟩
  · exact .cons rfl rfl (.cons rfl rfl (.cons rfl rfl (.cons rfl rfl (.cons rfl rfl (.cons rfl rfl (.cons rfl rfl (.cons rfl rfl (.cons rfl rfl .nil))))))))
theorem isTup_keep {h h' : Heap} {a : Addr} {its : Array Value} (x : IsTup h a its) (k : ∀ b o, h.get? b = some o → h'.get? b = some o) : IsTup h' a its :=
  let ⟨o, ho, r⟩ := x; ⟨o, k _ _ ho, r⟩
theorem cnt_151 {w : World} {h : Heap} (X : (Mine.hd.heap_39 w.params).In h) : ∃ t, IsTup h 151 #[.str (Str.ofString "max_streams") t, .bool false] := by
  have h2 := X 151 ⟨_, _, .seq _ _, _⟩ (by k_is)
  exact ⟨_, ⟨_, h2, rfl, _, rfl⟩⟩
theorem cnt_152 {w : World} {h : Heap} (X : (Mine.hd.heap_39 w.params).In h) : ∃ t, IsTup h 152 #[.str (Str.ofString "max_streams") t, .bool true] := by
  have h2 := X 152 ⟨_, _, .seq _ _, _⟩ (by k_is)
  exact ⟨_, ⟨_, h2, rfl, _, rfl⟩⟩
theorem cnt_153 {w : World} {h : Heap} (X : (Mine.hd.heap_39 w.params).In h) : ∃ t, IsTup h 153 #[.str (Str.ofString "streams_blocked") t, .bool false] := by
  have h2 := X 153 ⟨_, _, .seq _ _, _⟩ (by k_is)
  exact ⟨_, ⟨_, h2, rfl, _, rfl⟩⟩
theorem cnt_154 {w : World} {h : Heap} (X : (Mine.hd.heap_39 w.params).In h) : ∃ t, IsTup h 154 #[.str (Str.ofString "streams_blocked") t, .bool true] := by
  have h2 := X 154 ⟨_, _, .seq _ _, _⟩ (by k_is)
  exact ⟨_, ⟨_, h2, rfl, _, rfl⟩⟩
theorem pln_141 {w : World} {h : Heap} (X : (Mine.hd.heap_39 w.params).In h) : ∃ t u, h.get? 141 = some (tupO [.str (Str.ofString "ping") t, .int 0 u] 0) := by
  have h2 := X 141 ⟨_, _, .seq _ _, _⟩ (by k_is)
  exact ⟨_, _, h2⟩
theorem pln_142 {w : World} {h : Heap} (X : (Mine.hd.heap_39 w.params).In h) : ∃ t u, h.get? 142 = some (tupO [.str (Str.ofString "reset_stream") t, .int 3 u] 0) := by
  have h2 := X 142 ⟨_, _, .seq _ _, _⟩ (by k_is)
  exact ⟨_, _, h2⟩
theorem pln_143 {w : World} {h : Heap} (X : (Mine.hd.heap_39 w.params).In h) : ∃ t u, h.get? 143 = some (tupO [.str (Str.ofString "stop_sending") t, .int 2 u] 0) := by
  have h2 := X 143 ⟨_, _, .seq _ _, _⟩ (by k_is)
  exact ⟨_, _, h2⟩
theorem pln_144 {w : World} {h : Heap} (X : (Mine.hd.heap_39 w.params).In h) : ∃ t u, h.get? 144 = some (tupO [.str (Str.ofString "max_data") t, .int 1 u] 0) := by
  have h2 := X 144 ⟨_, _, .seq _ _, _⟩ (by k_is)
  exact ⟨_, _, h2⟩
theorem pln_145 {w : World} {h : Heap} (X : (Mine.hd.heap_39 w.params).In h) : ∃ t u, h.get? 145 = some (tupO [.str (Str.ofString "max_stream_data") t, .int 2 u] 0) := by
  have h2 := X 145 ⟨_, _, .seq _ _, _⟩ (by k_is)
  exact ⟨_, _, h2⟩
theorem pln_146 {w : World} {h : Heap} (X : (Mine.hd.heap_39 w.params).In h) : ∃ t u, h.get? 146 = some (tupO [.str (Str.ofString "data_blocked") t, .int 1 u] 0) := by
  have h2 := X 146 ⟨_, _, .seq _ _, _⟩ (by k_is)
  exact ⟨_, _, h2⟩
theorem pln_147 {w : World} {h : Heap} (X : (Mine.hd.heap_39 w.params).In h) : ∃ t u, h.get? 147 = some (tupO [.str (Str.ofString "stream_data_blocked") t, .int 2 u] 0) := by
  have h2 := X 147 ⟨_, _, .seq _ _, _⟩ (by k_is)
  exact ⟨_, _, h2⟩
theorem pln_148 {w : World} {h : Heap} (X : (Mine.hd.heap_39 w.params).In h) : ∃ t u, h.get? 148 = some (tupO [.str (Str.ofString "retire_connection_id") t, .int 1 u] 0) := by
  have h2 := X 148 ⟨_, _, .seq _ _, _⟩ (by k_is)
  exact ⟨_, _, h2⟩
theorem pln_149 {w : World} {h : Heap} (X : (Mine.hd.heap_39 w.params).In h) : ∃ t u, h.get? 149 = some (tupO [.str (Str.ofString "handshake_done") t, .int 0 u] 0) := by
  have h2 := X 149 ⟨_, _, .seq _ _, _⟩ (by k_is)
  exact ⟨_, _, h2⟩
section
variable {prog : Program} {w : World} {A : Around} {E : Value → Shared → Prop} {s : Shared} {g : Heap} {L d : Addr} {m : Str → Option Value} {kvs : List (Int × Value)} {k : Int} {t : Tok} {v : Value}
theorem g_in {Q : Value → Shared → Prop} (hD : g.DictOf (intKind prog w) d kvs) (F : Fr g L s.heap m) (lo : (d == sysModules) = false) (h : Q (.bool (valueAt kvs k).isSome) { s with toks := s.toks + 1 }) :
    wpAny (model prog w) A (compareOp .In (.int k t) (.ref d)) Q E s := wpAny_in_of (intKind_is _ _ k t) lo (hD.keep F.keep).mapOf h
theorem g_item {value slice : PySem.Expr} {Q : Value → Shared → Prop} (hD : g.DictOf (intKind prog w) d kvs) (F : Fr g L s.heap m) (hl : valueAt kvs k = some v) (h : Q v { s with toks := s.toks + 1 })
    (hs : subscripted slice false (.ref d) (.int k t) = operate [.ref d, .int k t] (getItem (.ref d) (.int k t)) := by with_unfolding_all rfl) (hg : ∀ r, letTemporaryGo value (.ref d) r = pure () := by intro _; with_unfolding_all rfl) :
    wpAny (model prog w) A (subscriptTail value slice (.ref d) (.int k t)) Q E s :=
  have hD := hD.keep F.keep
  subscriptTail_builtin hD.typeIs slot_dict_getitem.lookup (wpAny_getItem_of (intKind_is _ _ k t) hD.mapOf hl h) hs hg
end
theorem valueAt_none {k : Int} : ∀ {kvs : List (Int × Value)}, (∀ p ∈ kvs, p.1 ≠ k) → valueAt kvs k = none
  | [], _ => rfl
  | (x, v) :: r, h => by
    have hx : x ≠ k := h _ (.head _)
    have := valueAt_none (kvs := r) fun p hp => h p (.tail _ hp)
    unfold valueAt at this ⊢
    rw [List.find?_cons, decide_eq_false hx]
    exact this
section
end
end
/-! Ex -/
section
section
variable {w : World} {mean : ExcName → Option Value} {mg mb : Str → Option Value} {A₀ : Around} {base h₀ : Heap} {outer : List Env} {L : Addr} {m : Str → Option Value} {news : List (Addr × Obj)} {h : Heap} {gs : Array GenState} {dr : Drawn} {tk : Nat} {os : OsState} {cs : Scope}
    {dp un : Nat} {gd : Option (List Code)} {cn : Str} {a : Addr} {ccd : Value} {cl : List (Str × Addr)} {Q E : Value → Shared → Prop}
end
noncomputable abbrev excM : List Value := [.type "Exception", .type "BaseException", .type "object"]
/-- a class of exceptions that the program makes itself, with its own __init__ -/
def ExcC (h : Heap) (C N fI : Addr) (ns : List Str) : Prop :=
  ∃ nm q bs sn sub ab col dd k0 k1 k2 k3 k5 mN, h.get? C = some (excClassObj nm q C N bs excM true sn sub ab col dd k0 k1 k2 k3 k5 "Exception.__new__") ∧
    h.Ns N mN ∧ mN "__init__" = some (.ref fI) ∧ mN "__setattr__" = none ∧ (∀ n ∈ ns, mN n = none) ∧ (∃ o, h.get? fI = some o ∧ o.cls = .type "function")
set_option maxHeartbeats 40000000 in
theorem short_cls {w : World} {h : Heap} (X : (Mine.hd.heap_39 w.params).In h) : ExcC h 58 57 55 [Str.ofString "text"] := by
  have h1 := X 58 (excClassObj _ _ 58 57 _ excM true _ _ _ _ _ _ _ _ _ _ "Exception.__new__") (by k_is)
  have h2 := X 57 ⟨_, _, .dict _ _, _⟩ (by k_is)
  have h3 := X 55 ⟨.type "function", _, _, _⟩ (by k_is)
  refine ⟨_, _, _, _, _, _, _, _, _, _, _, _, _, nsFind _, h1, ⟨_, _, _, h2, rfl, ?_, fun _ => rfl⟩, ?_, ?_, ?_, ⟨_, h3, rfl⟩⟩
  · intro e he
    simp only [List.mem_toArray, List.mem_cons, List.not_mem_nil, or_false] at he
    rcases he with rfl | rfl | rfl | rfl | rfl | rfl <;> exact ⟨_, _, rfl⟩
  · rfl
  · rfl
  · intro n hn
    simp only [List.mem_cons, List.not_mem_nil, or_false] at hn
    rcases hn with rfl <;> rfl
theorem quic_cls {w : World} {h : Heap} (X : (Mine.hd.heap_39 w.params).In h) : ExcC h 38 37 35 [Str.ofString "code", Str.ofString "frame_type", Str.ofString "text", Str.ofString "__getattribute__", Str.ofString "__getattr__"] := by
  have h1 := X 38 (excClassObj _ _ 38 37 _ excM true _ _ _ _ _ _ _ _ _ _ "Exception.__new__") (by k_is)
  have h2 := X 37 ⟨_, _, .dict _ _, _⟩ (by k_is)
  have h3 := X 35 ⟨.type "function", _, _, _⟩ (by k_is)
  refine ⟨_, _, _, _, _, _, _, _, _, _, _, _, _, nsFind _, h1, ⟨_, _, _, h2, rfl, ?_, fun _ => rfl⟩, ?_, ?_, ?_, ⟨_, h3, rfl⟩⟩
  · intro e he
    simp only [List.mem_toArray, List.mem_cons, List.not_mem_nil, or_false] at he
    rcases he with rfl | rfl | rfl | rfl | rfl | rfl <;> exact ⟨_, _, rfl⟩
  · rfl
  · rfl
  · intro n hn
    simp only [List.mem_cons, List.not_mem_nil, or_false] at hn
    rcases hn with rfl | rfl | rfl | rfl | rfl <;> rfl
section
end
end
/-! V4d -/
section
section
variable {w : World} {mean : ExcName → Option Value} {mg mb : Str → Option Value} {A₀ : Around} {base h₀ : Heap} {outer : List Env} {L : Addr} {m : Str → Option Value} {news : List (Addr × Obj)} {h : Heap} {gs : Array GenState} {dr : Drawn} {tk : Nat} {os : OsState} {cs : Scope}
    {dp un : Nat} {gd : Option (List Code)} {cn : Str} {a : Addr} {ccd : Value} {cl : List (Str × Addr)} {Q E : Value → Shared → Prop}
end
local macro_rules | `(tactic| walk_at "eval Tuple") => `(tactic| ((with_reducible show wpAny _ _ (eval (Expr.Tuple [Expr.Constant (Const.str _) _ _, Expr.Constant (Const.int _) _ _] _ _) _) _ _ _); k_here; refine' tup_sx ?F ?N ?_; (case F => k_asm); (case N => k_asm); k_whole; intro l' o' h' t' u' v' q' F' N' l1; (try k_lt l1)))
local macro_rules | `(tactic| walk_at $s:str) => if ["binaryOp Add ref ref", "subscriptTail Name Name ref int"].contains s.getString then `(tactic| refine stop_ ?_) else Lean.Macro.throwUnsupported
section
variable {w : World} {mean : ExcName → Option Value} {mg mb : Str → Option Value} {A₀ : Around} {base h₀ : Heap} {outer : List Env} {L : Addr} {m : Str → Option Value} {news : List (Addr × Obj)} {h : Heap} {gs : Array GenState} {dr : Drawn} {tk : Nat} {os : OsState} {cs : Scope}
    {dp un : Nat} {gd : Option (List Code)} {cn : Str} {a : Addr} {ccd : Value} {cl : List (Str × Addr)} {Q E : Value → Shared → Prop}
theorem plain_pick {led : List (Addr × Obj)} {d1 d20 d21 d25 d30 d4 d5 d16 d17 : Addr} {a1 b1 a20 b20 a21 b21 a25 b25 a30 b30 a4 b4 a5 b5 a16 b16 a17 b17 : Tok} {o1 o20 o21 o25 o30 o4 o5 o16 o17 : Obj} (told : Int) {gg hh : Heap} {LL : Addr} (_ : News gg LL hh led)
    (q1 : o1 = tupO [.str (Str.ofString "ping") a1, .int 0 b1] 0) (q20 : o20 = tupO [.str (Str.ofString "data_blocked") a20, .int 1 b20] 0) (q21 : o21 = tupO [.str (Str.ofString "stream_data_blocked") a21, .int 2 b21] 0) (q25 : o25 = tupO [.str (Str.ofString "retire_connection_id") a25, .int 1 b25] 0) (q30 : o30 = tupO [.str (Str.ofString "handshake_done") a30, .int 0 b30] 0) (q4 : o4 = tupO [.str (Str.ofString "reset_stream") a4, .int 3 b4] 0) (q5 : o5 = tupO [.str (Str.ofString "stop_sending") a5, .int 2 b5] 0) (q16 : o16 = tupO [.str (Str.ofString "max_data") a16, .int 1 b16] 0) (q17 : o17 = tupO [.str (Str.ofString "max_stream_data") a17, .int 2 b17] 0)
    (h1 : (d1, o1) ∈ led) (h20 : (d20, o20) ∈ led) (h21 : (d21, o21) ∈ led)
    (h25 : (d25, o25) ∈ led) (h30 : (d30, o30) ∈ led) (h4 : (d4, o4) ∈ led)
    (h5 : (d5, o5) ∈ led) (h16 : (d16, o16) ∈ led) (h17 : (d17, o17) ∈ led) :
    (∃ y nm n t1 t2, n ≤ 3 ∧ plainK told = some (nm, n) ∧ valueAt [((1 : Int), Value.ref d1), (20, .ref d20), (21, .ref d21), (25, .ref d25), (30, .ref d30), (4, .ref d4), (5, .ref d5), (16, .ref d16), (17, .ref d17)] told = some (.ref y) ∧ (y, tupO [.str nm t1, .int (n : Int) t2] 0) ∈ led) ∨
    (plainK told = none ∧ valueAt [((1 : Int), Value.ref d1), (20, .ref d20), (21, .ref d21), (25, .ref d25), (30, .ref d30), (4, .ref d4), (5, .ref d5), (16, .ref d16), (17, .ref d17)] told = none) := by
  subst q1 q20 q21 q25 q30 q4 q5 q16 q17
  by_cases e1 : told = 1
  · subst e1; exact .inl ⟨_, _, _, _, _, by decide, rfl, rfl, h1⟩
  by_cases e20 : told = 20
  · subst e20; exact .inl ⟨_, _, _, _, _, by decide, rfl, rfl, h20⟩
  by_cases e21 : told = 21
  · subst e21; exact .inl ⟨_, _, _, _, _, by decide, rfl, rfl, h21⟩
  by_cases e25 : told = 25
  · subst e25; exact .inl ⟨_, _, _, _, _, by decide, rfl, rfl, h25⟩
  by_cases e30 : told = 30
  · subst e30; exact .inl ⟨_, _, _, _, _, by decide, rfl, rfl, h30⟩
  by_cases e4 : told = 4
  · subst e4; exact .inl ⟨_, _, _, _, _, by decide, rfl, rfl, h4⟩
  by_cases e5 : told = 5
  · subst e5; exact .inl ⟨_, _, _, _, _, by decide, rfl, rfl, h5⟩
  by_cases e16 : told = 16
  · subst e16; exact .inl ⟨_, _, _, _, _, by decide, rfl, rfl, h16⟩
  by_cases e17 : told = 17
  · subst e17; exact .inl ⟨_, _, _, _, _, by decide, rfl, rfl, h17⟩
  refine .inr ⟨?_, ?_⟩
  · unfold plainK; simp only [e1, e20, e21, e25, e30, e4, e5, e16, e17, if_false]
  · unfold valueAt
    simp only [List.find?, eq_comm (b := told), e1, e20, e21, e25, e30, e4, e5, e16, e17, decide_false]
    rfl
theorem sOther_cnt {ks : List Int} {at_ : Nat} {told : Int} (hpk : plainK told = none) (hB : told = 18 ∨ told = 19 ∨ told = 22 ∨ told = 23) : sOther ks at_ told =
    (nums ks at_ 1).bind fun r => if 2 ^ 60 < r.1.getD 0 0 then none else
      some (.tuple [.str (if told < 20 then Str.ofString "max_streams" else Str.ofString "streams_blocked"), .bool (decide (told = 19 ∨ told = 23)), .int (r.1.getD 0 0)], r.2) := by
  unfold sOther; rw [hpk]; dsimp only
  rw [if_neg (by omega), if_neg (by omega), if_pos hB]
theorem sOther_path {ks : List Int} {at_ : Nat} {told : Int} (hpk : plainK told = none) (hC : told = 26 ∨ told = 27) : sOther ks at_ told =
    (sTail ks at_ 8).map fun t => (.tuple [.str (if told = 26 then Str.ofString "path_challenge" else Str.ofString "path_response"), .bytes t.1], t.2) := by
  unfold sOther; rw [hpk]; dsimp only
  rw [if_neg (by omega), if_neg (by omega), if_neg (by omega), if_pos hC]
theorem emptyb {c : Array UInt8} {o : List Int} (hc : KBw.bInts c = o) : (c.toList == (#[] : Array UInt8).toList) = true ↔ o = [] := by
  subst hc
  unfold KBw.bInts
  rw [beq_iff_eq]
  show c.toList = [] ↔ _
  rw [List.map_eq_nil_iff]
theorem bit19 {told : Int} (hB : told = 18 ∨ told = 19 ∨ told = 22 ∨ told = 23) : (told.fmod 2 == 1) = decide (told = 19 ∨ told = 23) := by
  rcases hB with rfl | rfl | rfl | rfl <;> decide
theorem pick_y {h₀ h : Heap} {L : Addr} {a y : Addr × Obj} {rest news : List (Addr × Obj)} (N : News h₀ L h (a :: rest)) (hy : y ∈ a :: rest) (hs : ∀ p ∈ news, p ∈ rest) : News h₀ L h (a :: y :: news) := by
  refine cb_drop N fun p hp => ?_
  rcases List.mem_cons.mp hp with rfl | hp
  · exact .head _
  · rcases List.mem_cons.mp hp with rfl | hp
    · exact hy
    · exact .tail _ (hs p hp)
theorem c_lother (B : Below A₀ base outer h₀) (F : Fr h₀ L h m) (X : (Mine.hd.heap_39 w.params).In h₀) (N : News h₀ L h news) (T : Top0 mean mg mb h₀) (hk : cs.kind = .function) (hd : dp + 4 < recursionLimit) (hu : un + 32 < cLine)
    {b : Array UInt8} {ks : List Int} {tb ta tm : Tok} {at_ : Nat} {told : Int} (hb : KBw.bInts b = ks) (hbl : ks.length ≤ 100)
    (hn : sOther ks at_ told = none → ∀ h' tk', Fr h₀ L h' m → News h₀ L h' news → Q .none ⟨h', gs, dr, tk', os⟩)
    (hs : ∀ d e, sOther ks at_ told = some (d, e) → OutP Q h₀ L m news gs dr os d e) :
    wpAny (model Challenge.rw_no0080_01.row.prog w) (ktrTop dp un gd cn cs L a ccd cl outer) (call (.ref 323) [.bytes b tb, .int (at_ : Int) ta, .int told tm]) Q E ⟨h, gs, dr, tk, os⟩ := by
  have hoc := oct_of hb
  refine wpAny_call ?_
  refine' code_def (binds := [(Str.ofString "data", .bytes b tb), (Str.ofString "at", .int (at_ : Int) ta), (Str.ofString "told", .int told tm)]) B F X N T rfl rfl hk ?k6 ?k7 ?k8 ?k9 ?kB ?_ ?c2 ?c3 ?c4 ?c5
  (( (case k6 => k_is); (case k7 => k_is); (case k8 => exact room0 (by assumption)); (case k9 => exact BindsTo.of_eq rfl); (case c5 => decide); (case kB => exact locs rfl); (case c2 => exact rfl); (case c3 => exact rfl); (case c4 => exact rfl)))
  intro g' L' h' FG' F' N' B' X' T'
  k_fold
  refine let_goal ?_
  intro A1 Q1 E1
  k_steps
  · unfold StopT
    rename News g' _ _ _ => lN'
    rename Obj.IsDictOf _ _ (intKeyPairs _) => lD
    rename (_ == sysModules) = false => lo
    have hpick := plain_pick told lN' (q1 := by assumption) (q20 := by assumption) (q21 := by assumption) (q25 := by assumption) (q30 := by assumption) (q4 := by assumption) (q5 := by assumption) (q16 := by assumption) (q17 := by assumption) (h1 := by ((repeat (first | exact List.Mem.head _ | refine List.Mem.tail _ ?_)))) (h20 := by ((repeat (first | exact List.Mem.head _ | refine List.Mem.tail _ ?_)))) (h21 := by ((repeat (first | exact List.Mem.head _ | refine List.Mem.tail _ ?_)))) (h25 := by ((repeat (first | exact List.Mem.head _ | refine List.Mem.tail _ ?_)))) (h30 := by ((repeat (first | exact List.Mem.head _ | refine List.Mem.tail _ ?_)))) (h4 := by ((repeat (first | exact List.Mem.head _ | refine List.Mem.tail _ ?_)))) (h5 := by ((repeat (first | exact List.Mem.head _ | refine List.Mem.tail _ ?_)))) (h16 := by ((repeat (first | exact List.Mem.head _ | refine List.Mem.tail _ ?_)))) (h17 := by ((repeat (first | exact List.Mem.head _ | refine List.Mem.tail _ ?_))))
    rcases hpick with ⟨y, nm, n, t1, t2, hn3, hpk, hva, hy⟩ | ⟨hpk, hva⟩
    · refine' kda_in lN' ?m lD lo (intKind_is _ _ _ _) true ?v ?_
      case m => ((repeat (first | exact List.Mem.head _ | refine List.Mem.tail _ ?_)))
      case v => exact (congrArg Option.isSome hva).trans rfl
      replace lN' := pick_y lN' hy (by (first | ((repeat' (first | exact sub_refl | exact sub_nil | (refine sub_cons ?_ ?_; focus (((repeat (first | exact List.Mem.head _ | refine List.Mem.tail _ ?_))); done)) | refine sub_tail ?_)); done) | (intro p hp; (try simp only [List.mem_cons, List.mem_append, List.cons_append, List.nil_append, List.append_assoc, List.not_mem_nil, or_false, false_or] at hp ⊢); first | assumption | grind)))
      clear hy
      have hO : sOther ks at_ told = (nums ks at_ n).map fun r => (.tuple (.str nm :: r.1.map D.int), r.2) := by unfold sOther; rw [hpk]
      k_steps
      unfold StopT
      refine' kda_item lN' ?m lD (intKind_is _ _ _ _) (v := .ref y) ?v ?_
      case m => ((repeat (first | exact List.Mem.head _ | refine List.Mem.tail _ ?_)))
      case v => exact hva
      k_steps
      unfold StopT
      refine' c_lnumbers (many := n) (by assumption) (by assumption) (by assumption) (by assumption) (by assumption) rfl ?hd ?hu hb hbl ?hm ?hn ?hs
      case hd => exact room (k := 2) hd rfl
      case hu => exact roomU (k := 16) hu rfl
      case hm => omega
      case hn =>
        intro hv h' tk' F'' N''
        k_steps
        exact hn (by rw [hO, hv]; rfl) _ _ (by assumption) (cb_drop (by assumption) (by (first | ((repeat' (first | exact sub_refl | exact sub_nil | (refine sub_cons ?_ ?_; focus (((repeat (first | exact List.Mem.head _ | refine List.Mem.tail _ ?_))); done)) | refine sub_tail ?_)); done) | (intro p hp; (try simp only [List.mem_cons, List.mem_append, List.cons_append, List.nil_append, List.append_assoc, List.not_mem_nil, or_false, false_or] at hp ⊢); first | assumption | grind))))
      case hs =>
        intro l e hv x y2 vs n2 u h' tk' hI F'' N'' ly lx
        k_steps
        unfold StopT
        rename News g' _ _ _ => lN2
        refine' kda_item lN2 ?m lD (intKind_is _ _ _ _) (v := .ref y) ?v ?_
        case m => exact .tail _ (.tail _ (by ((repeat (first | exact List.Mem.head _ | refine List.Mem.tail _ ?_)))))
        case v => exact hva
        k_steps
        unfold StopT
        rename News g' _ _ _ => lN4
        rename Fr g' _ _ _ => lF4
        rename _ < _ ∧ _ => l4
        have hll := nums_length hv
        have hll2 := hI.length
        refine' add_arrays lF4 lN4 (News.isList lN4 (.head _)) (News.isList lN4 (.tail _ (.tail _ (.head _)))) ?_ (by show 1 + vs.length ≤ _; rw [sizeLine_eq]; omega)
        intro h5 lF5 lN5
        k_steps
        unfold StopT
        refine' kde_tupleOf lF5 lN5 (News.isList lN5 (.head _)) (by show ([_] ++ vs).toArray.size ≤ _; rw [List.size_toArray, List.length_append, List.length_singleton]; omega) rfl ?_
        intro D6 h6 lF6 lN6 l6
        k_steps
        rename Fr h₀ _ _ _ => lF7
        rename News h₀ _ _ _ => lN7
        rename D6 < _ ∧ _ => l7
        refine fin_flat (hs _ _ (by rw [hO, hv]; rfl)) lF7 lN7 (by (first | ((repeat' (first | exact sub_refl | exact sub_nil | (refine sub_cons ?_ ?_; focus (((repeat (first | exact List.Mem.head _ | refine List.Mem.tail _ ?_))); done)) | refine sub_tail ?_)); done) | (intro p hp; (try simp only [List.mem_cons, List.mem_append, List.cons_append, List.nil_append, List.append_assoc, List.not_mem_nil, or_false, false_or] at hp ⊢); first | assumption | grind))) (.cons (.str _ _) (ints_dall hI)) l7.1 (fun q hq => Nat.lt_trans (ly q (by repeat (first | exact hq | refine List.Mem.tail _ ?_))) (l6 (y2, listOf vs.toArray n2) (by ((repeat (first | exact List.Mem.head _ | refine List.Mem.tail _ ?_))))))
    · refine' kda_in lN' ?m lD lo (intKind_is _ _ _ _) false ?v ?_
      case m => ((repeat (first | exact List.Mem.head _ | refine List.Mem.tail _ ?_)))
      case v => exact (congrArg Option.isSome hva).trans rfl
      have lN0 := cb_drop lN' (news := news) (by (first | ((repeat' (first | exact sub_refl | exact sub_nil | (refine sub_cons ?_ ?_; focus (((repeat (first | exact List.Mem.head _ | refine List.Mem.tail _ ?_))); done)) | refine sub_tail ?_)); done) | (intro p hp; (try simp only [List.mem_cons, List.mem_append, List.cons_append, List.nil_append, List.append_assoc, List.not_mem_nil, or_false, false_or] at hp ⊢); first | assumption | grind)))
      clear lD hva lN' lo
      k_steps
      unfold StopT
      rename News g' _ _ _ => lN3
      refine' in_tuple_ints (ns := [6, 7]) (News.isTup lN3 (List.Mem.head _)) (.cons _ _ (.cons _ _ .nil)) ?_
      replace lN3 := cb_drop lN3 (news := news) (by (first | ((repeat' (first | exact sub_refl | exact sub_nil | (refine sub_cons ?_ ?_; focus (((repeat (first | exact List.Mem.head _ | refine List.Mem.tail _ ?_))); done)) | refine sub_tail ?_)); done) | (intro p hp; (try simp only [List.mem_cons, List.mem_append, List.cons_append, List.nil_append, List.append_assoc, List.not_mem_nil, or_false, false_or] at hp ⊢); first | assumption | grind)))
      by_cases hA : told = 6 ∨ told = 7
      · rw [show ([6, 7] : List Int).any (· == told) = true by rcases hA with rfl | rfl <;> rfl]
        rcases hA with rfl | rfl
        · k_steps
          unfold StopT
          rw [show (7 : Int) - 6 = ((1 : Nat) : Int) from rfl]
          refine' c_lcounted (many := 1) (by assumption) (by assumption) (by assumption) (by assumption) (by assumption) rfl ?hd ?hu hb hbl ?hm ?hn ?hs
          case hd => exact room (k := 3) hd rfl
          case hu => exact roomU (k := 24) hu rfl
          case hm => omega
          case hn =>
            intro hv h' tk' F'' N''
            k_steps
            exact hn (by unfold sOther; rw [hpk]; show (sCounted _ _ _).bind _ = _; rw [hv]; rfl) _ _ (by assumption) (cb_drop (by assumption) (by (first | ((repeat' (first | exact sub_refl | exact sub_nil | (refine sub_cons ?_ ?_; focus (((repeat (first | exact List.Mem.head _ | refine List.Mem.tail _ ?_))); done)) | refine sub_tail ?_)); done) | (intro p hp; (try simp only [List.mem_cons, List.mem_append, List.cons_append, List.nil_append, List.append_assoc, List.not_mem_nil, or_false, false_or] at hp ⊢); first | assumption | grind))))
          case hs =>
            intro l o e hv x y c vs n t u h' tk' hI hc F'' N'' ly lx
            have hll : l.length = 1 := sCounted_len hv
            have hol : o.length ≤ 100 := by have := sCounted_olen hv; omega
            k_steps
            · rename 2 ^ Int.toNat 62 ≤ _ => hA
              refine hn ?_ _ _ (by assumption) (cb_drop (by assumption) (by (first | ((repeat' (first | exact sub_refl | exact sub_nil | (refine sub_cons ?_ ?_; focus (((repeat (first | exact List.Mem.head _ | refine List.Mem.tail _ ?_))); done)) | refine sub_tail ?_)); done) | (intro p hp; (try simp only [List.mem_cons, List.mem_append, List.cons_append, List.nil_append, List.append_assoc, List.not_mem_nil, or_false, false_or] at hp ⊢); first | assumption | grind))))
              unfold sOther; rw [hpk]; show (sCounted _ _ _).bind _ = _; rw [hv]; exact if_pos hA
            · rename ¬ (2 ^ Int.toNat 62 ≤ _) => hA
              rename Fr h₀ _ _ _ => lF'
              rename News h₀ _ _ _ => lN'
              rename _ < _ ∧ x < _ ∧ _ => l4
              rename x < _ ∧ y < _ ∧ _ => l3
              have hv3 : sOther ks at_ 6 = some (.tuple [.str (Str.ofString "crypto"), .int (l.getD 0 0), .bytes o], e) := by unfold sOther; rw [hpk]; show (sCounted _ _ _).bind _ = _; rw [hv]; exact if_neg hA
              exact fin_flat (hs _ _ hv3) lF' lN' (by (first | ((repeat' (first | exact sub_refl | exact sub_nil | (refine sub_cons ?_ ?_; focus (((repeat (first | exact List.Mem.head _ | refine List.Mem.tail _ ?_))); done)) | refine sub_tail ?_)); done) | (intro p hp; (try simp only [List.mem_cons, List.mem_append, List.cons_append, List.nil_append, List.append_assoc, List.not_mem_nil, or_false, false_or] at hp ⊢); first | assumption | grind))) (.cons (.str _ _) (.cons (.int _ _) (.cons (.bytes _ hc) .nil))) l4.1 (fun q hq => (Nat.lt_trans (ly q (by repeat (first | exact hq | refine List.Mem.tail _ ?_))) l3.2.1))
        · k_steps
          unfold StopT
          rw [show (7 : Int) - 7 = ((0 : Nat) : Int) from rfl]
          refine' c_lcounted (many := 0) (by assumption) (by assumption) (by assumption) (by assumption) (by assumption) rfl ?hd ?hu hb hbl ?hm ?hn ?hs
          case hd => exact room (k := 3) hd rfl
          case hu => exact roomU (k := 24) hu rfl
          case hm => omega
          case hn =>
            intro hv h' tk' F'' N''
            k_steps
            exact hn (by unfold sOther; rw [hpk]; show (sCounted _ _ _).bind _ = _; rw [hv]; rfl) _ _ (by assumption) (cb_drop (by assumption) (by (first | ((repeat' (first | exact sub_refl | exact sub_nil | (refine sub_cons ?_ ?_; focus (((repeat (first | exact List.Mem.head _ | refine List.Mem.tail _ ?_))); done)) | refine sub_tail ?_)); done) | (intro p hp; (try simp only [List.mem_cons, List.mem_append, List.cons_append, List.nil_append, List.append_assoc, List.not_mem_nil, or_false, false_or] at hp ⊢); first | assumption | grind))))
          case hs =>
            intro l o e hv x y c vs n t u h' tk' hI hc F'' N'' ly lx
            have hll : l.length = 0 := sCounted_len hv
            have hol : o.length ≤ 100 := by have := sCounted_olen hv; omega
            k_steps
            · rename (c.toList == _) = true => hA
              refine hn ?_ _ _ (by assumption) (cb_drop (by assumption) (by (first | ((repeat' (first | exact sub_refl | exact sub_nil | (refine sub_cons ?_ ?_; focus (((repeat (first | exact List.Mem.head _ | refine List.Mem.tail _ ?_))); done)) | refine sub_tail ?_)); done) | (intro p hp; (try simp only [List.mem_cons, List.mem_append, List.cons_append, List.nil_append, List.append_assoc, List.not_mem_nil, or_false, false_or] at hp ⊢); first | assumption | grind))))
              unfold sOther; rw [hpk]; show (sCounted _ _ _).bind _ = _; rw [hv]; exact if_pos ((emptyb hc).1 hA)
            · rename (c.toList == _) = false => hA
              rename Fr h₀ _ _ _ => lF'
              rename News h₀ _ _ _ => lN'
              rename _ < _ ∧ x < _ ∧ _ => l4
              rename x < _ ∧ y < _ ∧ _ => l3
              have hv3 : sOther ks at_ 7 = some (.tuple [.str (Str.ofString "new_token"), .bytes o], e) := by unfold sOther; rw [hpk]; show (sCounted _ _ _).bind _ = _; rw [hv]; exact if_neg (fun q => Bool.noConfusion (hA.symm.trans ((emptyb hc).2 q)))
              exact fin_flat (hs _ _ hv3) lF' lN' (by (first | ((repeat' (first | exact sub_refl | exact sub_nil | (refine sub_cons ?_ ?_; focus (((repeat (first | exact List.Mem.head _ | refine List.Mem.tail _ ?_))); done)) | refine sub_tail ?_)); done) | (intro p hp; (try simp only [List.mem_cons, List.mem_append, List.cons_append, List.nil_append, List.append_assoc, List.not_mem_nil, or_false, false_or] at hp ⊢); first | assumption | grind))) (.cons (.str _ _) (.cons (.bytes _ hc) .nil)) l4.1 (fun q hq => (Nat.lt_trans (ly q (by repeat (first | exact hq | refine List.Mem.tail _ ?_))) l3.2.1))
      · rw [show ([6, 7] : List Int).any (· == told) = false by simp [eq_comm (b := told)]; omega]
        k_steps
        unfold StopT
        rename News g' _ _ _ => lN3
        refine' in_tuple_ints (ns := [18, 19, 22, 23]) (News.isTup lN3 (List.Mem.head _)) (.cons _ _ (.cons _ _ (.cons _ _ (.cons _ _ .nil)))) ?_
        replace lN3 := cb_drop lN3 (news := news) (by (first | ((repeat' (first | exact sub_refl | exact sub_nil | (refine sub_cons ?_ ?_; focus (((repeat (first | exact List.Mem.head _ | refine List.Mem.tail _ ?_))); done)) | refine sub_tail ?_)); done) | (intro p hp; (try simp only [List.mem_cons, List.mem_append, List.cons_append, List.nil_append, List.append_assoc, List.not_mem_nil, or_false, false_or] at hp ⊢); first | assumption | grind)))
        by_cases hB : told = 18 ∨ told = 19 ∨ told = 22 ∨ told = 23
        · rw [show ([18, 19, 22, 23] : List Int).any (· == told) = true by rcases hB with rfl | rfl | rfl | rfl <;> rfl]
          k_steps
          unfold StopT
          rw [show (1 : Int) = ((1 : Nat) : Int) from rfl]
          refine' c_lnumbers (many := 1) (by assumption) (by assumption) (by assumption) (by assumption) (by assumption) rfl ?hd ?hu hb hbl ?hm ?hn ?hs
          case hd => exact room (k := 2) hd rfl
          case hu => exact roomU (k := 16) hu rfl
          case hm => omega
          case hn =>
            intro hv h' tk' F'' N''
            k_steps
            exact hn (by rw [sOther_cnt hpk hB, hv]; rfl) _ _ (by assumption) (cb_drop (by assumption) (by (first | ((repeat' (first | exact sub_refl | exact sub_nil | (refine sub_cons ?_ ?_; focus (((repeat (first | exact List.Mem.head _ | refine List.Mem.tail _ ?_))); done)) | refine sub_tail ?_)); done) | (intro p hp; (try simp only [List.mem_cons, List.mem_append, List.cons_append, List.nil_append, List.append_assoc, List.not_mem_nil, or_false, false_or] at hp ⊢); first | assumption | grind))))
          case hs =>
            intro l e hv x y vs n u h' tk' hI F'' N'' ly lx
            have hll := nums_length hv
            k_steps
            · rename 2 ^ Int.toNat 60 < _ => hA
              refine hn ?_ _ _ (by assumption) (cb_drop (by assumption) (by (first | ((repeat' (first | exact sub_refl | exact sub_nil | (refine sub_cons ?_ ?_; focus (((repeat (first | exact List.Mem.head _ | refine List.Mem.tail _ ?_))); done)) | refine sub_tail ?_)); done) | (intro p hp; (try simp only [List.mem_cons, List.mem_append, List.cons_append, List.nil_append, List.append_assoc, List.not_mem_nil, or_false, false_or] at hp ⊢); first | assumption | grind))))
              rw [sOther_cnt hpk hB, hv]; exact if_pos hA
            · rename ¬ (2 ^ Int.toNat 60 < _) => hA
              rename told < 20 => hE
              change ¬ (2 ^ 60 < l.getD 0 0) at hA
              rename Fr h₀ _ _ _ => lF'
              rename News h₀ _ _ _ => lN'
              rename _ < _ ∧ x < _ ∧ _ => l4
              rename x < _ ∧ y < _ ∧ _ => l3
              have hv3 : sOther ks at_ told = some (.tuple [.str (Str.ofString "max_streams"), .bool (told.fmod 2 == 1), .int (l.getD 0 0)], e) := by
                rw [sOther_cnt hpk hB, hv]; show (if _ then _ else _) = _; rw [if_neg hA, if_pos hE, bit19 hB]
              exact fin_flat (hs _ _ hv3) lF' lN' (by (first | ((repeat' (first | exact sub_refl | exact sub_nil | (refine sub_cons ?_ ?_; focus (((repeat (first | exact List.Mem.head _ | refine List.Mem.tail _ ?_))); done)) | refine sub_tail ?_)); done) | (intro p hp; (try simp only [List.mem_cons, List.mem_append, List.cons_append, List.nil_append, List.append_assoc, List.not_mem_nil, or_false, false_or] at hp ⊢); first | assumption | grind))) (.cons (.str _ _) (.cons (.bool _) (.cons (.int _ _) .nil))) l4.1 (fun q hq => (Nat.lt_trans (ly q (by repeat (first | exact hq | refine List.Mem.tail _ ?_))) l3.2.1))
            · rename ¬ (2 ^ Int.toNat 60 < _) => hA
              rename ¬ (told < 20) => hE
              change ¬ (2 ^ 60 < l.getD 0 0) at hA
              rename Fr h₀ _ _ _ => lF'
              rename News h₀ _ _ _ => lN'
              rename _ < _ ∧ x < _ ∧ _ => l4
              rename x < _ ∧ y < _ ∧ _ => l3
              have hv3 : sOther ks at_ told = some (.tuple [.str (Str.ofString "streams_blocked"), .bool (told.fmod 2 == 1), .int (l.getD 0 0)], e) := by
                rw [sOther_cnt hpk hB, hv]; show (if _ then _ else _) = _; rw [if_neg hA, if_neg hE, bit19 hB]
              exact fin_flat (hs _ _ hv3) lF' lN' (by (first | ((repeat' (first | exact sub_refl | exact sub_nil | (refine sub_cons ?_ ?_; focus (((repeat (first | exact List.Mem.head _ | refine List.Mem.tail _ ?_))); done)) | refine sub_tail ?_)); done) | (intro p hp; (try simp only [List.mem_cons, List.mem_append, List.cons_append, List.nil_append, List.append_assoc, List.not_mem_nil, or_false, false_or] at hp ⊢); first | assumption | grind))) (.cons (.str _ _) (.cons (.bool _) (.cons (.int _ _) .nil))) l4.1 (fun q hq => (Nat.lt_trans (ly q (by repeat (first | exact hq | refine List.Mem.tail _ ?_))) l3.2.1))
        · rw [show ([18, 19, 22, 23] : List Int).any (· == told) = false by simp [eq_comm (b := told)]; omega]
          k_steps
          unfold StopT
          rename News g' _ _ _ => lN3
          refine' in_tuple_ints (ns := [26, 27]) (News.isTup lN3 (List.Mem.head _)) (.cons _ _ (.cons _ _ .nil)) ?_
          replace lN3 := cb_drop lN3 (news := news) (by (first | ((repeat' (first | exact sub_refl | exact sub_nil | (refine sub_cons ?_ ?_; focus (((repeat (first | exact List.Mem.head _ | refine List.Mem.tail _ ?_))); done)) | refine sub_tail ?_)); done) | (intro p hp; (try simp only [List.mem_cons, List.mem_append, List.cons_append, List.nil_append, List.append_assoc, List.not_mem_nil, or_false, false_or] at hp ⊢); first | assumption | grind)))
          by_cases hC : told = 26 ∨ told = 27
          · rw [show ([26, 27] : List Int).any (· == told) = true by rcases hC with rfl | rfl <;> rfl]
            k_steps
            unfold StopT
            rw [show (8 : Int) = ((8 : Nat) : Int) from rfl]
            refine' c_ltail (by assumption) (by assumption) (by assumption) (by assumption) (by assumption) rfl ?hd ?hu hb hbl ?hn ?hs
            case hd => exact room (k := 1) hd rfl
            case hu => exact roomU (k := 8) hu rfl
            case hn =>
              intro hv2 h' tk' F'' N''
              k_steps
              exact hn (by rw [sOther_path hpk hC, sTail_none hv2]; rfl) _ _ (by assumption) (cb_drop (by assumption) (by (first | ((repeat' (first | exact sub_refl | exact sub_nil | (refine sub_cons ?_ ?_; focus (((repeat (first | exact List.Mem.head _ | refine List.Mem.tail _ ?_))); done)) | refine sub_tail ?_)); done) | (intro p hp; (try simp only [List.mem_cons, List.mem_append, List.cons_append, List.nil_append, List.append_assoc, List.not_mem_nil, or_false, false_or] at hp ⊢); first | assumption | grind))))
            case hs =>
              intro hv2 c hc x2 t2 u2 h' tk' F'' N'' l2
              k_steps
              · rename told = 26 => hE
                rename Fr h₀ _ _ _ => lF'
                rename News h₀ _ _ _ => lN'
                rename _ < _ ∧ x2 < _ ∧ _ => l4
                rename x2 < _ ∧ _ => l3
                have hv3 : sOther ks at_ told = some (.tuple [.str (Str.ofString "path_challenge"), .bytes ((ks.drop at_).take 8)], at_ + 8) := by
                  rw [sOther_path hpk hC, sTail_some hv2]; show some _ = _; rw [if_pos hE]
                exact fin_flat (hs _ _ hv3) lF' lN' (by (first | ((repeat' (first | exact sub_refl | exact sub_nil | (refine sub_cons ?_ ?_; focus (((repeat (first | exact List.Mem.head _ | refine List.Mem.tail _ ?_))); done)) | refine sub_tail ?_)); done) | (intro p hp; (try simp only [List.mem_cons, List.mem_append, List.cons_append, List.nil_append, List.append_assoc, List.not_mem_nil, or_false, false_or] at hp ⊢); first | assumption | grind))) (.cons (.str _ _) (.cons (.bytes _ hc) .nil)) l4.1 (fun q hq => (Nat.lt_trans (l2 q (by repeat (first | exact hq | refine List.Mem.tail _ ?_))) l3.1))
              · rename ¬ (told = 26) => hE
                rename Fr h₀ _ _ _ => lF'
                rename News h₀ _ _ _ => lN'
                rename _ < _ ∧ x2 < _ ∧ _ => l4
                rename x2 < _ ∧ _ => l3
                have hv3 : sOther ks at_ told = some (.tuple [.str (Str.ofString "path_response"), .bytes ((ks.drop at_).take 8)], at_ + 8) := by
                  rw [sOther_path hpk hC, sTail_some hv2]; show some _ = _; rw [if_neg hE]
                exact fin_flat (hs _ _ hv3) lF' lN' (by (first | ((repeat' (first | exact sub_refl | exact sub_nil | (refine sub_cons ?_ ?_; focus (((repeat (first | exact List.Mem.head _ | refine List.Mem.tail _ ?_))); done)) | refine sub_tail ?_)); done) | (intro p hp; (try simp only [List.mem_cons, List.mem_append, List.cons_append, List.nil_append, List.append_assoc, List.not_mem_nil, or_false, false_or] at hp ⊢); first | assumption | grind))) (.cons (.str _ _) (.cons (.bytes _ hc) .nil)) l4.1 (fun q hq => (Nat.lt_trans (l2 q (by repeat (first | exact hq | refine List.Mem.tail _ ?_))) l3.1))
          · rw [show ([26, 27] : List Int).any (· == told) = false by simp [eq_comm (b := told)]; omega]
            k_steps
            unfold StopT
            rename News g' _ _ _ => lN3
            refine' in_tuple_ints (ns := [28, 29]) (News.isTup lN3 (List.Mem.head _)) (.cons _ _ (.cons _ _ .nil)) ?_
            replace lN3 := cb_drop lN3 (news := news) (by (first | ((repeat' (first | exact sub_refl | exact sub_nil | (refine sub_cons ?_ ?_; focus (((repeat (first | exact List.Mem.head _ | refine List.Mem.tail _ ?_))); done)) | refine sub_tail ?_)); done) | (intro p hp; (try simp only [List.mem_cons, List.mem_append, List.cons_append, List.nil_append, List.append_assoc, List.not_mem_nil, or_false, false_or] at hp ⊢); first | assumption | grind)))
            by_cases hD : told = 28 ∨ told = 29
            · rw [show ([28, 29] : List Int).any (· == told) = true by rcases hD with rfl | rfl <;> rfl]
              rcases hD with rfl | rfl
              · k_steps
                unfold StopT
                rw [show (30 : Int) - 28 = ((2 : Nat) : Int) from rfl]
                refine' c_lcounted (many := 2) (by assumption) (by assumption) (by assumption) (by assumption) (by assumption) rfl ?hd ?hu hb hbl ?hm ?hn ?hs
                case hd => exact room (k := 3) hd rfl
                case hu => exact roomU (k := 24) hu rfl
                case hm => omega
                case hn =>
                  intro hv h' tk' F'' N''
                  k_steps
                  exact hn (by unfold sOther; rw [hpk]; show (sCounted _ _ _).map _ = _; rw [hv]; rfl) _ _ (by assumption) (cb_drop (by assumption) (by (first | ((repeat' (first | exact sub_refl | exact sub_nil | (refine sub_cons ?_ ?_; focus (((repeat (first | exact List.Mem.head _ | refine List.Mem.tail _ ?_))); done)) | refine sub_tail ?_)); done) | (intro p hp; (try simp only [List.mem_cons, List.mem_append, List.cons_append, List.nil_append, List.append_assoc, List.not_mem_nil, or_false, false_or] at hp ⊢); first | assumption | grind))))
                case hs =>
                  intro l o e hv x y c vs n t u h' tk' hI hc F'' N'' ly lx
                  have hll : l.length = 2 := sCounted_len hv
                  have hol : o.length ≤ 100 := by have := sCounted_olen hv; omega
                  k_steps
                  rename Fr h₀ _ _ _ => lF'
                  rename News h₀ _ _ _ => lN'
                  rename _ < _ ∧ x < _ ∧ _ => l4
                  rename x < _ ∧ y < _ ∧ _ => l3
                  have hv3 : sOther ks at_ 28 = some (.tuple [.str (Str.ofString "close"), .int (l.getD 0 0), .int (l.getD 1 0), .bytes o], e) := by unfold sOther; rw [hpk]; show (sCounted _ _ _).map _ = _; rw [hv]; rfl
                  exact fin_flat (hs _ _ hv3) lF' lN' (by (first | ((repeat' (first | exact sub_refl | exact sub_nil | (refine sub_cons ?_ ?_; focus (((repeat (first | exact List.Mem.head _ | refine List.Mem.tail _ ?_))); done)) | refine sub_tail ?_)); done) | (intro p hp; (try simp only [List.mem_cons, List.mem_append, List.cons_append, List.nil_append, List.append_assoc, List.not_mem_nil, or_false, false_or] at hp ⊢); first | assumption | grind))) (.cons (.str _ _) (.cons (.int _ _) (.cons (.int _ _) (.cons (.bytes _ hc) .nil)))) l4.1 (fun q hq => (Nat.lt_trans (ly q (by repeat (first | exact hq | refine List.Mem.tail _ ?_))) l3.2.1))
              · k_steps
                unfold StopT
                rw [show (30 : Int) - 29 = ((1 : Nat) : Int) from rfl]
                refine' c_lcounted (many := 1) (by assumption) (by assumption) (by assumption) (by assumption) (by assumption) rfl ?hd ?hu hb hbl ?hm ?hn ?hs
                case hd => exact room (k := 3) hd rfl
                case hu => exact roomU (k := 24) hu rfl
                case hm => omega
                case hn =>
                  intro hv h' tk' F'' N''
                  k_steps
                  exact hn (by unfold sOther; rw [hpk]; show (sCounted _ _ _).map _ = _; rw [hv]; rfl) _ _ (by assumption) (cb_drop (by assumption) (by (first | ((repeat' (first | exact sub_refl | exact sub_nil | (refine sub_cons ?_ ?_; focus (((repeat (first | exact List.Mem.head _ | refine List.Mem.tail _ ?_))); done)) | refine sub_tail ?_)); done) | (intro p hp; (try simp only [List.mem_cons, List.mem_append, List.cons_append, List.nil_append, List.append_assoc, List.not_mem_nil, or_false, false_or] at hp ⊢); first | assumption | grind))))
                case hs =>
                  intro l o e hv x y c vs n t u h' tk' hI hc F'' N'' ly lx
                  have hll : l.length = 1 := sCounted_len hv
                  have hol : o.length ≤ 100 := by have := sCounted_olen hv; omega
                  k_steps
                  rename Fr h₀ _ _ _ => lF'
                  rename News h₀ _ _ _ => lN'
                  rename _ < _ ∧ x < _ ∧ _ => l4
                  rename x < _ ∧ y < _ ∧ _ => l3
                  have hv3 : sOther ks at_ 29 = some (.tuple [.str (Str.ofString "close"), .int (l.getD 0 0), .none, .bytes o], e) := by unfold sOther; rw [hpk]; show (sCounted _ _ _).map _ = _; rw [hv]; rfl
                  exact fin_flat (hs _ _ hv3) lF' lN' (by (first | ((repeat' (first | exact sub_refl | exact sub_nil | (refine sub_cons ?_ ?_; focus (((repeat (first | exact List.Mem.head _ | refine List.Mem.tail _ ?_))); done)) | refine sub_tail ?_)); done) | (intro p hp; (try simp only [List.mem_cons, List.mem_append, List.cons_append, List.nil_append, List.append_assoc, List.not_mem_nil, or_false, false_or] at hp ⊢); first | assumption | grind))) (.cons (.str _ _) (.cons (.int _ _) (.cons (.none) (.cons (.bytes _ hc) .nil)))) l4.1 (fun q hq => (Nat.lt_trans (ly q (by repeat (first | exact hq | refine List.Mem.tail _ ?_))) l3.2.1))
            · rw [show ([28, 29] : List Int).any (· == told) = false by simp [eq_comm (b := told)]; omega]
              k_steps
              refine hn ?_ _ _ (by assumption) (cb_drop (by assumption) (by (first | ((repeat' (first | exact sub_refl | exact sub_nil | (refine sub_cons ?_ ?_; focus (((repeat (first | exact List.Mem.head _ | refine List.Mem.tail _ ?_))); done)) | refine sub_tail ?_)); done) | (intro p hp; (try simp only [List.mem_cons, List.mem_append, List.cons_append, List.nil_append, List.append_assoc, List.not_mem_nil, or_false, false_or] at hp ⊢); first | assumption | grind))))
              unfold sOther; rw [hpk]
              simp only [not_or] at hA hB hC hD
              simp only [hA, hB, hC, hD, if_false, or_self]
end
end
/-! V5 -/
section
section
variable {w : World} {mean : ExcName → Option Value} {mg mb : Str → Option Value} {A₀ : Around} {base h₀ : Heap} {outer : List Env} {L : Addr} {m : Str → Option Value} {news : List (Addr × Obj)} {h : Heap} {gs : Array GenState} {dr : Drawn} {tk : Nat} {os : OsState} {cs : Scope}
    {dp un : Nat} {gd : Option (List Code)} {cn : Str} {a : Addr} {ccd : Value} {cl : List (Str × Addr)} {Q E : Value → Shared → Prop}
end
section
variable {w : World} {mean : ExcName → Option Value} {mg mb : Str → Option Value} {A₀ : Around} {base h₀ : Heap} {outer : List Env} {L : Addr} {m : Str → Option Value} {news : List (Addr × Obj)} {h : Heap} {gs : Array GenState} {dr : Drawn} {tk : Nat} {os : OsState} {cs : Scope}
    {dp un : Nat} {gd : Option (List Code)} {cn : Str} {a : Addr} {ccd : Value} {cl : List (Str × Addr)} {Q E : Value → Shared → Prop}
theorem pow30 {prog : Program} {A : Around} {E : Value → Shared → Prop} {Q : Value → Shared → Prop} {s : Shared} {t u : Tok} (h : Q (.int 1073741824 s.toks) { s with toks := s.toks + 1 }) :
    wpAny (model prog w) A (binaryOp .Pow (.int 2 t) (.int 30 u)) Q E s := pow_int_small (by decide) (by decide) (by decide) h
local macro_rules | `(tactic| walk_at $s:str) => if s.getString = "exec If" then `(tactic| ((with_reducible show wpAny _ _ (exec (Stmt.If (Expr.BoolOp _ _ _) _ _ _) _) _ _ _); refine stop_ ?_)) else if s.getString = "binaryOp Pow int int" then `(tactic| (with_reducible refine pow30 ?_)) else Lean.Macro.throwUnsupported
set_option maxHeartbeats 40000000 in
theorem c_lone (B : Below A₀ base outer h₀) (F : Fr h₀ L h m) (X : (Mine.hd.heap_39 w.params).In h₀) (N : News h₀ L h news) (T : Top0 mean mg mb h₀) (hk : cs.kind = .function) (hd : dp + 5 < recursionLimit) (hu : un + 40 < cLine)
    {b : Array UInt8} {ks : List Int} {tb ta tm : Tok} {at_ : Nat} (hb : KBw.bInts b = ks) (hbl : ks.length ≤ 100)
    (hn : ∀ c, sOne ks at_ = .inl c → ∀ t h' tk', Fr h₀ L h' m → News h₀ L h' news → Q (.int c t) ⟨h', gs, dr, tk', os⟩)
    (hs : ∀ d e, sOne ks at_ = .inr (d, e) → OutP Q h₀ L m news gs dr os d e) :
    wpAny (model Challenge.rw_no0080_01.row.prog w) (ktrTop dp un gd cn cs L a ccd cl outer) (call (.ref 330) [.bytes b tb, .int (at_ : Int) ta]) Q E ⟨h, gs, dr, tk, os⟩ := by
  have hoc := oct_of hb
  refine wpAny_call ?_
  refine' code_def (binds := [(Str.ofString "data", .bytes b tb), (Str.ofString "at", .int (at_ : Int) ta)]) B F X N T rfl rfl hk ?k6 ?k7 ?k8 ?k9 ?kB ?_ ?c2 ?c3 ?c4 ?c5
  (( (case k6 => k_is); (case k7 => k_is); (case k8 => exact room0 (by assumption)); (case k9 => exact BindsTo.of_eq rfl); (case c5 => decide); (case kB => exact locs rfl); (case c2 => exact rfl); (case c3 => exact rfl); (case c4 => exact rfl)))
  intro g' L' h' FG' F' N' B' X' T'
  k_fold
  refine let_goal ?_
  intro A1 Q1 E1
  k_steps
  unfold StopT
  try dsimp only at *
  refine' c_lvarint (by assumption) (by assumption) (by assumption) (by assumption) (by assumption) rfl ?hd ?hu hb hbl ?hn ?hs
  case hd => exact room (k := 1) hd rfl
  case hu => exact roomU (k := 8) hu rfl
  case hn =>
    intro hv h' tk' F'' N''
    k_steps
    refine hn _ ?_ _ _ _ (by assumption) (by assumption)
    unfold sOne; rw [hv]
  case hs =>
    intro told e hv x t u h' tk' F'' N'' lx
    k_steps
    unfold StopT
    try dsimp only at *
    refine if_pure (decide ((e - at_ > 1 ∧ told < 64) ∨ (e - at_ > 2 ∧ told < 16384) ∨ (e - at_ > 4 ∧ told < 2 ^ 30))) ?_ ?_ ?_
    · clear hn hs
      k_steps
      all_goals (have hvb := vint_bound hoc hv)
      all_goals (have h30 : (2 : Int) ^ 30 = 1073741824 := by decide)
      all_goals (have gg : ∀ c : Nat, ((c : Int) < (e : Int) - at_) ↔ e - at_ > c := fun c => by rw [← Int.ofNat_sub (Nat.le_of_lt hvb.2.2.1)]; exact Int.ofNat_lt)
      all_goals (have g1 : (1 : Int) < (e : Int) - at_ ↔ e - at_ > 1 := gg 1)
      all_goals (have g2 : (2 : Int) < (e : Int) - at_ ↔ e - at_ > 2 := gg 2)
      all_goals (have g4 : (4 : Int) < (e : Int) - at_ ↔ e - at_ > 4 := gg 4)
      all_goals clear gg
      all_goals rw [h30]
      all_goals symm
      all_goals first
        | (apply decide_eq_true; first | exact .inl ⟨g1.1 (by assumption), by assumption⟩ | exact .inr (.inl ⟨g2.1 (by assumption), by assumption⟩) | exact .inr (.inr ⟨g4.1 (by assumption), by assumption⟩))
        | (apply decide_eq_false; rintro (⟨p, q⟩ | ⟨p, q⟩ | ⟨p, q⟩) <;> first | exact absurd q (by assumption) | exact absurd (g1.2 p) (by assumption) | exact absurd (g2.2 p) (by assumption) | exact absurd (g4.2 p) (by assumption))
        | (apply decide_eq_true; omega) | (apply decide_eq_false; omega)
    · intro t9 hc
      k_steps
      exact hn _ (sOne_long hv (of_decide_eq_true hc)) _ _ _ (by assumption) (cb_drop (by assumption) (by (first | ((repeat' (first | exact sub_refl | exact sub_nil | (refine sub_cons ?_ ?_; focus (((repeat (first | exact List.Mem.head _ | refine List.Mem.tail _ ?_))); done)) | refine sub_tail ?_)); done) | (intro p hp; (try simp only [List.mem_cons, List.mem_append, List.cons_append, List.nil_append, List.append_assoc, List.not_mem_nil, or_false, false_or] at hp ⊢); first | assumption | grind))))
    · intro t9 hc
      have hc' := of_decide_eq_false hc
      clear hc
      k_steps
      · have hvb := vint_bound hoc hv
        rename told = 0 => h0
        subst h0
        unfold StopT
        try dsimp only at *
        rename Fr g' _ _ _ => lF'
        rename News g' _ _ _ => lN'
        refine lp_while (σ := Nat × Tok) (fun c => [(Str.ofString "after", .int (c.1 : Int) c.2)]) (fun c nx => nx = (x, tupO [Value.int 0 t, Value.int (↑e) u] 0) :: news ∧ e ≤ c.1 ∧ zskip ks c.1 = zskip ks e) (fun c => ks.length - c.1) [] (e, u) lF' lN' ?_ ⟨rfl, Nat.le_refl _, rfl⟩ ?_
        · intro p hp
          cases List.mem_singleton.mp hp
          rfl
        · clear lF' lN'
          rintro ⟨z, tz⟩ nx u1 h1 tk1 ⟨rfl, hez, hzz⟩ lF lN QW
          dsimp only at *
          k_steps
          · have hz : z < ks.length := by omega
            have h00 : ks.getD z 0 = 0 := by simpa using (by assumption : ks.getD (z : Int).toNat 0 = 0)
            rename Fr g' _ _ _ => lF'
            rename News g' _ _ (_ :: _) => lN'
            exact ⟨(z + 1, _), _, _, _, _, rfl, lF', lN', ⟨rfl, by show e ≤ z + 1; omega, by rw [← zskip_more hz h00]; exact hzz⟩, (fun p hp => by cases List.mem_singleton.mp hp; rfl), (fun y hy _ => by have hy' : y ≠ Str.ofString "after" := hy _ (.head _); simp [kstB, hy']), by show ks.length - (z + 1) < ks.length - z; omega⟩
          · have hst := zskip_stop (ks := ks) (z := z) (fun q => absurd q.2 (by simpa using (by assumption : ks.getD (z : Int).toNat 0 ≠ 0)))
            obtain rfl : zskip ks e = z := hzz.symm.trans hst
            rename Fr h₀ _ _ _ => lF'
            rename News h₀ _ _ (_ :: _) => lN'
            rename _ < _ ∧ x < _ ∧ _ => l4
            rename x < _ ∧ _ => l3
            exact fin_flat (hs _ _ (sOne_pad hv hc')) lF' lN' (by (first | ((repeat' (first | exact sub_refl | exact sub_nil | (refine sub_cons ?_ ?_; focus (((repeat (first | exact List.Mem.head _ | refine List.Mem.tail _ ?_))); done)) | refine sub_tail ?_)); done) | (intro p hp; (try simp only [List.mem_cons, List.mem_append, List.cons_append, List.nil_append, List.append_assoc, List.not_mem_nil, or_false, false_or] at hp ⊢); first | assumption | grind))) (.cons (.str _ _) (.cons (.int _ _) .nil)) l4.1 (fun q hq => Nat.lt_trans (lx q hq) l3.1)
          · have hst := zskip_stop (ks := ks) (z := z) (fun q => absurd q.1 (by omega))
            obtain rfl : zskip ks e = z := hzz.symm.trans hst
            rename Fr h₀ _ _ _ => lF'
            rename News h₀ _ _ (_ :: _) => lN'
            rename _ < _ ∧ x < _ ∧ _ => l4
            rename x < _ ∧ _ => l3
            exact fin_flat (hs _ _ (sOne_pad hv hc')) lF' lN' (by (first | ((repeat' (first | exact sub_refl | exact sub_nil | (refine sub_cons ?_ ?_; focus (((repeat (first | exact List.Mem.head _ | refine List.Mem.tail _ ?_))); done)) | refine sub_tail ?_)); done) | (intro p hp; (try simp only [List.mem_cons, List.mem_append, List.cons_append, List.nil_append, List.append_assoc, List.not_mem_nil, or_false, false_or] at hp ⊢); first | assumption | grind))) (.cons (.str _ _) (.cons (.int _ _) .nil)) l4.1 (fun q hq => Nat.lt_trans (lx q hq) l3.1)
      · rename told ≠ 0 => h0
        have hvb := vint_bound hoc hv
        unfold StopT
        try dsimp only at *
        refine if_pure (decide (told = 2 ∨ told = 3)) ?_ ?_ ?_
        · clear hn hs
          k_steps
          all_goals symm
          all_goals first
            | (apply decide_eq_true; first | exact .inl (by assumption) | exact .inr (by assumption))
            | (apply decide_eq_false; rintro (q | q) <;> exact absurd q (by assumption))
        · intro t9 h9
          have h23 := of_decide_eq_true h9
          clear h9
          k_steps
          unfold StopT
          try dsimp only at *
          refine' c_lack (by assumption) (by assumption) (by assumption) (by assumption) (by assumption) rfl ?hd ?hu hb hbl ?hn ?hs
          case hd => exact room (k := 4) hd rfl
          case hu => exact roomU (k := 32) hu rfl
          case hn =>
            intro hv2 h' tk' F'' N''
            k_steps
            refine hn 7 ?_ _ _ _ (by assumption) (cb_drop (by assumption) (by (first | ((repeat' (first | exact sub_refl | exact sub_nil | (refine sub_cons ?_ ?_; focus (((repeat (first | exact List.Mem.head _ | refine List.Mem.tail _ ?_))); done)) | refine sub_tail ?_)); done) | (intro p hp; (try simp only [List.mem_cons, List.mem_append, List.cons_append, List.nil_append, List.append_assoc, List.not_mem_nil, or_false, false_or] at hp ⊢); first | assumption | grind))))
            rw [sOne_body hv hc' h0]; unfold sBody; rw [if_pos h23]; rw [hv2]
          case hs =>
            intro d e2 hv2 x3 v3 u3 tl3 h' tk' hD F'' N'' ho1 ho2
            k_steps
            rename Fr h₀ _ _ _ => lF'
            rename News h₀ _ _ _ => lN'
            refine hs d e2 ?_ x3 v3 u3 tl3 _ _ hD lF' (cb_drop lN' (by (first | ((repeat' (first | exact sub_refl | exact sub_nil | (refine sub_cons ?_ ?_; focus (((repeat (first | exact List.Mem.head _ | refine List.Mem.tail _ ?_))); done)) | refine sub_tail ?_)); done) | (intro p hp; (try simp only [List.mem_cons, List.mem_append, List.cons_append, List.nil_append, List.append_assoc, List.not_mem_nil, or_false, false_or] at hp ⊢); first | assumption | grind)))) (fun p hp => ⟨(ho1 p hp).1, fun q hq => (ho1 p hp).2 q (.tail _ hq)⟩) (fun q hq => ho2 q (.tail _ hq))
            rw [sOne_body hv hc' h0]; unfold sBody; rw [if_pos h23]; rw [hv2]
        · intro t9 h9
          have h23 := of_decide_eq_false h9
          clear h9
          k_steps
          unfold StopT
          try dsimp only at *
          refine if_pure (decide (8 ≤ told ∧ told < 16)) ?_ ?_ ?_
          · clear hn hs
            k_steps
            all_goals symm
            all_goals first
              | (apply decide_eq_true; exact ⟨by assumption, by assumption⟩)
              | (apply decide_eq_false; intro q; first | exact absurd q.1 (by assumption) | exact absurd q.2 (by assumption))
          · intro t9 h9
            have h8 := of_decide_eq_true h9
            clear h9
            k_steps
            unfold StopT
            try dsimp only at *
            refine' c_lstream (by assumption) (by assumption) (by assumption) (by assumption) (by assumption) rfl ?hd ?hu hb hbl h8.1 h8.2 ?hn ?hs
            case hd => exact room (k := 4) hd rfl
            case hu => exact roomU (k := 32) hu rfl
            case hn =>
              intro hv2 h' tk' F'' N''
              k_steps
              refine hn 7 ?_ _ _ _ (by assumption) (cb_drop (by assumption) (by (first | ((repeat' (first | exact sub_refl | exact sub_nil | (refine sub_cons ?_ ?_; focus (((repeat (first | exact List.Mem.head _ | refine List.Mem.tail _ ?_))); done)) | refine sub_tail ?_)); done) | (intro p hp; (try simp only [List.mem_cons, List.mem_append, List.cons_append, List.nil_append, List.append_assoc, List.not_mem_nil, or_false, false_or] at hp ⊢); first | assumption | grind))))
              rw [sOne_body hv hc' h0]; unfold sBody; rw [if_neg h23, if_pos h8]; rw [hv2]
            case hs =>
              intro d e2 hv2 x3 v3 u3 tl3 h' tk' hD F'' N'' ho1 ho2
              k_steps
              rename Fr h₀ _ _ _ => lF'
              rename News h₀ _ _ _ => lN'
              refine hs d e2 ?_ x3 v3 u3 tl3 _ _ hD lF' (cb_drop lN' (by (first | ((repeat' (first | exact sub_refl | exact sub_nil | (refine sub_cons ?_ ?_; focus (((repeat (first | exact List.Mem.head _ | refine List.Mem.tail _ ?_))); done)) | refine sub_tail ?_)); done) | (intro p hp; (try simp only [List.mem_cons, List.mem_append, List.cons_append, List.nil_append, List.append_assoc, List.not_mem_nil, or_false, false_or] at hp ⊢); first | assumption | grind)))) (fun p hp => ⟨(ho1 p hp).1, fun q hq => (ho1 p hp).2 q (.tail _ hq)⟩) (fun q hq => ho2 q (.tail _ hq))
              rw [sOne_body hv hc' h0]; unfold sBody; rw [if_neg h23, if_pos h8]; rw [hv2]
          · intro t9 h9
            have h8 := of_decide_eq_false h9
            clear h9
            k_steps
            · rename told = 24 => h24
              unfold StopT
              try dsimp only at *
              refine' c_lgiven (tm := 0) (by assumption) (by assumption) (by assumption) (by assumption) (by assumption) rfl ?hd ?hu hb hbl ?hn ?hs
              case hd => exact room (k := 4) hd rfl
              case hu => exact roomU (k := 32) hu rfl
              case hn =>
                intro hv2 h' tk' F'' N''
                k_steps
                refine hn 7 ?_ _ _ _ (by assumption) (cb_drop (by assumption) (by (first | ((repeat' (first | exact sub_refl | exact sub_nil | (refine sub_cons ?_ ?_; focus (((repeat (first | exact List.Mem.head _ | refine List.Mem.tail _ ?_))); done)) | refine sub_tail ?_)); done) | (intro p hp; (try simp only [List.mem_cons, List.mem_append, List.cons_append, List.nil_append, List.append_assoc, List.not_mem_nil, or_false, false_or] at hp ⊢); first | assumption | grind))))
                rw [sOne_body hv hc' h0]; unfold sBody; rw [if_neg h23, if_neg h8, if_pos h24]; rw [hv2]
              case hs =>
                intro d e2 hv2 x3 v3 u3 tl3 h' tk' hD F'' N'' ho1 ho2
                k_steps
                rename Fr h₀ _ _ _ => lF'
                rename News h₀ _ _ _ => lN'
                refine hs d e2 ?_ x3 v3 u3 tl3 _ _ hD lF' (cb_drop lN' (by (first | ((repeat' (first | exact sub_refl | exact sub_nil | (refine sub_cons ?_ ?_; focus (((repeat (first | exact List.Mem.head _ | refine List.Mem.tail _ ?_))); done)) | refine sub_tail ?_)); done) | (intro p hp; (try simp only [List.mem_cons, List.mem_append, List.cons_append, List.nil_append, List.append_assoc, List.not_mem_nil, or_false, false_or] at hp ⊢); first | assumption | grind)))) (fun p hp => ⟨(ho1 p hp).1, fun q hq => (ho1 p hp).2 q (.tail _ hq)⟩) (fun q hq => ho2 q (.tail _ hq))
                rw [sOne_body hv hc' h0]; unfold sBody; rw [if_neg h23, if_neg h8, if_pos h24]; rw [hv2]
            · rename told ≠ 24 => h24
              unfold StopT
              try dsimp only at *
              refine' c_lother (by assumption) (by assumption) (by assumption) (by assumption) (by assumption) rfl ?hd ?hu hb hbl ?hn ?hs
              case hd => exact room (k := 4) hd rfl
              case hu => exact roomU (k := 32) hu rfl
              case hn =>
                intro hv2 h' tk' F'' N''
                k_steps
                refine hn 7 ?_ _ _ _ (by assumption) (cb_drop (by assumption) (by (first | ((repeat' (first | exact sub_refl | exact sub_nil | (refine sub_cons ?_ ?_; focus (((repeat (first | exact List.Mem.head _ | refine List.Mem.tail _ ?_))); done)) | refine sub_tail ?_)); done) | (intro p hp; (try simp only [List.mem_cons, List.mem_append, List.cons_append, List.nil_append, List.append_assoc, List.not_mem_nil, or_false, false_or] at hp ⊢); first | assumption | grind))))
                rw [sOne_body hv hc' h0]; unfold sBody; rw [if_neg h23, if_neg h8, if_neg h24]; rw [hv2]
              case hs =>
                intro d e2 hv2 x3 v3 u3 tl3 h' tk' hD F'' N'' ho1 ho2
                k_steps
                rename Fr h₀ _ _ _ => lF'
                rename News h₀ _ _ _ => lN'
                refine hs d e2 ?_ x3 v3 u3 tl3 _ _ hD lF' (cb_drop lN' (by (first | ((repeat' (first | exact sub_refl | exact sub_nil | (refine sub_cons ?_ ?_; focus (((repeat (first | exact List.Mem.head _ | refine List.Mem.tail _ ?_))); done)) | refine sub_tail ?_)); done) | (intro p hp; (try simp only [List.mem_cons, List.mem_append, List.cons_append, List.nil_append, List.append_assoc, List.not_mem_nil, or_false, false_or] at hp ⊢); first | assumption | grind)))) (fun p hp => ⟨(ho1 p hp).1, fun q hq => (ho1 p hp).2 q (.tail _ hq)⟩) (fun q hq => ho2 q (.tail _ hq))
                rw [sOne_body hv hc' h0]; unfold sBody; rw [if_neg h23, if_neg h8, if_neg h24]; rw [hv2]
end
end
/-! Yb -/
section
section
variable {w : World} {mean : ExcName → Option Value} {mg mb : Str → Option Value} {A₀ : Around} {base h₀ : Heap} {outer : List Env} {L : Addr} {m : Str → Option Value} {news : List (Addr × Obj)} {h : Heap} {gs : Array GenState} {dr : Drawn} {tk : Nat} {os : OsState} {cs : Scope}
    {dp un : Nat} {gd : Option (List Code)} {cn : Str} {a : Addr} {ccd : Value} {cl : List (Str × Addr)} {Q E : Value → Shared → Prop}
end
local macro_rules | `(tactic| walk_at "call type:bytes") => `(tactic| ((with_reducible show wpAny _ _ (call (Value.type "bytes") [Value.int 16 _]) _ _ _); refine call_bytes_16 ?_; intro t' k'))
local macro_rules | `(tactic| walk_at "eval List") => `(tactic| ((with_reducible show wpAny _ _ (eval (Expr.List (_ :: _ :: _ :: _ :: _ :: _ :: _ :: _ :: _ :: _ :: _ :: _) _) _) _ _ _); refine stop_ ?_))
section
variable {w : World} {mean : ExcName → Option Value} {mg mb : Str → Option Value} {A₀ : Around} {base h₀ : Heap} {outer : List Env} {L : Addr} {m : Str → Option Value} {news : List (Addr × Obj)} {h : Heap} {gs : Array GenState} {dr : Drawn} {tk : Nat} {os : OsState} {cs : Scope}
    {dp un : Nat} {gd : Option (List Code)} {cn : Str} {a : Addr} {ccd : Value} {cl : List (Str × Addr)} {Q E : Value → Shared → Prop}
set_option maxHeartbeats 40000000 in
theorem c_samples (B : Below A₀ base outer h₀) (F : Fr h₀ L h m) (X : (Mine.hd.heap_39 w.params).In h₀) (N : News h₀ L h (news)) (T : Top0 mean mg mb h₀) (hk : cs.kind = .function) (hd : dp + 1 < recursionLimit) (hu : un + 8 < cLine)
    (hs : ∀ (y : Addr) (vs : List Value) (n : Nat) (h' : Heap) (tk' : Nat), vs.length = 17 → (∀ v ∈ vs, ∃ b t, v = Value.bytes b t ∧ 1 ≤ b.size ∧ b.size ≤ 30) → Fr h₀ L h' m → News h₀ L h' ((y, listOf vs.toArray n) :: news) → (∀ p ∈ news, p.1 < y) → Q (.ref y) ⟨h', gs, dr, tk', os⟩) :
    wpAny (model Challenge.rw_no0080_01.row.prog w) (ktrTop dp un gd cn cs L a ccd cl outer) (call (.ref 262) []) Q E ⟨h, gs, dr, tk, os⟩ := by
  refine wpAny_call ?_
  refine' code_def (binds := []) B F X N T rfl rfl hk ?k6 ?k7 ?k8 ?k9 ?kB ?_ ?c2 ?c3 ?c4 ?c5
  (( (case k6 => k_is); (case k7 => k_is); (case k8 => exact room0 (by assumption)); (case k9 => exact BindsTo.of_eq rfl); (case c5 => decide); (case kB => exact locs rfl); (case c2 => exact rfl); (case c3 => exact rfl); (case c4 => exact rfl)))
  intro g' L' h' FG' F' N' B' X' T'
  k_fold
  refine let_goal ?_
  intro A1 Q1 E1
  k_steps
  unfold StopT
  have hx : nsIn (Mine.hd.heap_39 w.params) mainGlobals (Str.ofString "bytes") = some none := by k_is
  refine List_ ?_
  refine spliced_bt (news := news) ?all _ _ F' N' ?k
  case all =>
    repeat' (first
      | exact sub_nilP
      | ((with_reducible refine all_lit ?hh ?_); case hh => (refine' bt_lit X' T' hx PyProof.Rows.boot_bytes rfl rfl rfl ?c ?r ?z; (case c => (repeat (first | exact Consts.nil | apply Consts.cons))); (case r => rfl); (case z => rfl)))
      | ((with_reducible refine all_cat ?hh ?_); case hh => (refine' bt_cat X' T' hx PyProof.Rows.boot_bytes rfl rfl rfl ?c ?r ?z ?kn; (case c => (repeat (first | exact Consts.nil | apply Consts.cons))); (case r => rfl); (case z => rfl); (case kn => rfl)))
      | refine all_cons ?_ ?_)
    refine ⟨fun _ => rfl, fun s Q F N h => ?_⟩
    clear F' N'
    k_steps
    rename Fr g' _ _ _ => lF
    rename News g' _ _ _ => lN
    refine' h _ _ _ _ ?b1 ?b2 lF (cb_drop lN ?sub)
    case b1 => exact Nat.le_of_ble_eq_true rfl
    case b2 => exact Nat.le_of_ble_eq_true rfl
    case sub => (first | ((repeat' (first | exact sub_refl | exact sub_nil | (refine sub_cons ?_ ?_; focus (((repeat (first | exact List.Mem.head _ | refine List.Mem.tail _ ?_))); done)) | refine sub_tail ?_)); done) | (intro p hp; (try simp only [List.mem_cons, List.mem_append, List.cons_append, List.nil_append, List.append_assoc, List.not_mem_nil, or_false, false_or] at hp ⊢); first | assumption | grind))
  case k =>
    intro vs h2 k2 hl hv F2 N2
    refine newList_K F2 N2 (fun l h3 F3 N3 l3 => ?_) (by rw [hl, sizeLine_eq]; decide)
    clear F' N' F2 N2
    k_steps
    rename Fr h₀ _ _ _ => lF
    rename News h₀ _ _ _ => lN
    exact hs _ _ _ _ _ hl hv lF lN l3
end
section
end
end
/-! Ey -/
section
section
variable {w : World} {mean : ExcName → Option Value} {mg mb : Str → Option Value} {A₀ : Around} {base h₀ : Heap} {outer : List Env} {L : Addr} {m : Str → Option Value} {news : List (Addr × Obj)} {h : Heap} {gs : Array GenState} {dr : Drawn} {tk : Nat} {os : OsState} {cs : Scope}
    {dp un : Nat} {gd : Option (List Code)} {cn : Str} {a : Addr} {ccd : Value} {cl : List (Str × Addr)} {Q E : Value → Shared → Prop}
end
noncomputable abbrev excO (C : Value) (t : Addr) (dd : Option Addr) (cx : Value) : Obj := { cls := C, dict := dd, data := .fields #[.ref t, .none, cx, .none, .bool false, .none] }
section
variable {prog : Program} {w : World} {A : Around} {E : Value → Shared → Prop} {s : Shared} {g : Heap} {L e t C N fI : Addr} {m : Str → Option Value} {news : List (Addr × Obj)} {ns : List Str} {v : Value} {name : Str} {x : Str}
theorem fr_but {h h' : Heap} (F : Fr g L h m) (hg : g.get? e = none) (hL : e ≠ L) (k : ∀ b o, b ≠ e → h.get? b = some o → h'.get? b = some o) : Fr g L h' m := by
  obtain ⟨o, es, ep, ho, r⟩ := F.ns
  exact ⟨⟨o, es, ep, k L o (Ne.symm hL) ho, r⟩, fun b o q => k b o (fun z => by rw [z, hg] at q; cases q) (F.keep b o q), F.above⟩
theorem ExcC.keeps {h h' : Heap} (CC : ExcC h C N fI ns) (k : ∀ b o, h.get? b = some o → h'.get? b = some o) : ExcC h' C N fI ns := by
  obtain ⟨a1, a2, a3, a4, a5, a6, a7, a8, a9, b1, b2, b3, b4, mN, h1, ⟨o, es, ep, ho, r⟩, h3, h4, h5, ⟨of, h6, h7⟩⟩ := CC
  exact ⟨a1, a2, a3, a4, a5, a6, a7, a8, a9, b1, b2, b3, b4, mN, k _ _ h1, ⟨o, es, ep, k _ _ ho, r⟩, h3, h4, h5, ⟨of, k _ _ h6, h7⟩⟩
theorem ei_init {Q : Value → Shared → Prop} (F : Fr g L s.heap m) (CC : ExcC g C N fI ns) (Nw : News g L s.heap ((e, excO (.ref C) t none .none) :: news)) (hne : ∀ p ∈ news, p.1 ≠ e)
    (hq : ∀ h' t', Fr g L h' m → News g L h' ((e, excO (.ref C) t' none .none) :: news) → Q .none { s with heap := h' }) :
    wpAny (model prog w) A (call (.builtin "Exception.__init__") [.ref e, v]) Q E s := by
  obtain ⟨a1, a2, a3, a4, a5, a6, a7, a8, a9, b1, b2, b3, b4, mN, h1, hN, h3, h4, h5, _⟩ := CC.keeps F.keep
  have he := Nw _ (.head _)
  refine init_run (h := s.heap) PySem.F.excBase_Exception h1 he.1 rfl rfl rfl (by show 1 ≤ sizeLine; decide) fun h' x1 x2 => hq h' s.heap.objs.size (fr_but F he.2.2 he.2.1 x2) fun p hp => ?_
  rcases List.mem_cons.mp hp with rfl | hp
  · exact ⟨x1, he.2.1, he.2.2⟩
  · exact ⟨x2 _ _ (hne p hp) (Nw p (.tail _ hp)).1, (Nw p (.tail _ hp)).2⟩
theorem ei_put0 {Q : Unit → Shared → Prop} (F : Fr g L s.heap m) (CC : ExcC g C N fI ns) (Nw : News g L s.heap ((e, excO (.ref C) t none .none) :: news)) (hne : ∀ p ∈ news, p.1 ≠ e) (hm : name ∈ ns)
    (hB : typeLookup (.type "Exception") name = pure none)
    (hq : ∀ h' dx od tk', Fr g L h' m → News g L h' ((e, excO (.ref C) t (some dx) .none) :: (dx, od) :: news) → OD od (fun y => if y = name then some v else none) → (∀ p ∈ news, p.1 < dx) → e < dx → Q () { s with heap := h', toks := tk' }) :
    wpAny (model prog w) A (setAttr (.ref e) name v) Q E s := by
  obtain ⟨a1, a2, a3, a4, a5, a6, a7, a8, a9, b1, b2, b3, b4, mN, h1, hN, h3, h4, h5, _⟩ := CC.keeps F.keep
  have he := Nw _ (.head _)
  refine put0_attr (h := s.heap) PySem.F.store_Exception h1 hN h4 (h5 _ hm) hB he.1 rfl (by intro c q; cases q) rfl fun h' od tk' x1 x2 x3 x4 =>
    hq h' s.heap.objs.size od tk' (fr_but F he.2.2 he.2.1 x4) (fun p hp => ?_) x3 (fun p hp => Heap.lt_size (Nw p (.tail _ hp)).1) (Heap.lt_size he.1)
  rcases List.mem_cons.mp hp with rfl | hp
  · exact ⟨x1, he.2.1, he.2.2⟩
  · rcases List.mem_cons.mp hp with rfl | hp
    · refine ⟨x2, fun q => ?_, Heap.get?_none_of_le (Nat.le_trans F.above ?_)⟩
      · obtain ⟨o, _, _, ho, _⟩ := F.ns
        exact absurd (Heap.lt_size ho) (by rw [← q]; exact Nat.lt_irrefl _)
      · obtain ⟨o, _, _, ho, _⟩ := F.ns
        exact Nat.le_of_lt (Heap.lt_size ho)
    · exact ⟨x4 _ _ (hne p hp) (Nw p (.tail _ hp)).1, (Nw p (.tail _ hp)).2⟩
theorem ei_put {Q : Unit → Shared → Prop} {dx : Addr} {od : Obj} {mA : Str → Option Value} {names : List Str} (F : Fr g L s.heap m) (CC : ExcC g C N fI ns) (Nw : News g L s.heap ((e, excO (.ref C) t (some dx) .none) :: (dx, od) :: news)) (hO : OD od mA)
    (hne : ∀ p ∈ news, p.1 ≠ e ∧ p.1 ≠ dx) (hed : e ≠ dx) (hm : name ∈ ns) (hB : typeLookup (.type "Exception") name = pure none) (hw : Within mA names) (hsz : names.length ≤ sizeLine)
    (hq : ∀ h' od' tk', Fr g L h' m → News g L h' ((e, excO (.ref C) t (some dx) .none) :: (dx, od') :: news) → OD od' (fun y => if y = name then some v else mA y) → Q () { s with heap := h', toks := tk' }) :
    wpAny (model prog w) A (setAttr (.ref e) name v) Q E s := by
  obtain ⟨a1, a2, a3, a4, a5, a6, a7, a8, a9, b1, b2, b3, b4, mN, h1, hN, h3, h4, h5, _⟩ := CC.keeps F.keep
  have he := Nw _ (.head _)
  have hdx := Nw _ (.tail _ (.head _))
  have hgC : g.get? C ≠ none := fun q => by
    obtain ⟨_, _, _, _, _, _, _, _, _, _, _, _, _, _, z, _⟩ := CC
    rw [q] at z; cases z
  have I : s.heap.Inst e C mA := ⟨_, he.1, rfl, (by intro c q; cases q), .inr ⟨dx, rfl, Ne.symm hed, hO.ns1 hdx.1⟩⟩
  refine store_attr (h := s.heap) PySem.F.store_Exception h1 hN h4 (h5 _ hm) hB (fun q => hgC (q ▸ he.2.2)) I (fun h' tk' I' x2 x3 => ?_) hw hsz
  obtain ⟨o₁, y1, y2, y3, y4, y5⟩ := x3 _ he.1
  obtain ⟨o', z1, z2, z3, z4⟩ := I'
  obtain rfl : o' = o₁ := Option.some.inj (z1.symm.trans y1)
  have hdd := y5 dx rfl
  have k : ∀ b o, b ≠ e → b ≠ dx → s.heap.get? b = some o → h'.get? b = some o := fun b o n1 n2 q => x2 b o n1 (fun o₀ d q1 q2 => by rw [he.1] at q1; cases q1; cases q2; exact n2) q
  have hob : h'.get? e = some (excO (.ref C) t (some dx) .none) := by
    rw [y1]; obtain ⟨c1, c2, c3, c4⟩ := o'; simp only at y2 y3 y4 hdd; rw [y2, y3, y4, hdd]
  rcases z4 with ⟨z4, _⟩ | ⟨d', z5, _, z6⟩
  · rw [hdd] at z4; cases z4
  rw [hdd] at z5
  cases z5
  obtain ⟨od', w1, w2⟩ := OD.of z6
  obtain ⟨oL, es, ep, ho, r⟩ := F.ns
  refine hq h' od' tk' ⟨⟨oL, es, ep, k L oL (Ne.symm he.2.1) (Ne.symm hdx.2.1) ho, r⟩, fun b o q => k b o (fun z => by rw [z, he.2.2] at q; cases q) (fun z => by rw [z, hdx.2.2] at q; cases q) (F.keep b o q), F.above⟩ (fun p hp => ?_) w2
  rcases List.mem_cons.mp hp with rfl | hp
  · exact ⟨hob, he.2⟩
  · rcases List.mem_cons.mp hp with rfl | hp
    · exact ⟨w1, hdx.2⟩
    · have q := Nw p (.tail _ (.tail _ hp))
      exact ⟨k _ _ (hne p hp).1 (hne p hp).2 q.1, q.2⟩
end
section
end
end
/-! Fa -/
section
section
variable {w : World} {mean : ExcName → Option Value} {mg mb : Str → Option Value} {A₀ : Around} {base h₀ : Heap} {outer : List Env} {L : Addr} {m : Str → Option Value} {news : List (Addr × Obj)} {h : Heap} {gs : Array GenState} {dr : Drawn} {tk : Nat} {os : OsState} {cs : Scope}
    {dp un : Nat} {gd : Option (List Code)} {cn : Str} {a : Addr} {ccd : Value} {cl : List (Str × Addr)} {Q E : Value → Shared → Prop}
end
theorem sub_inst : isSubtype (.type "type") (.type "type") = pure true := by rw [isSubtype_type]; kernel_rfl
section
variable {prog : Program} {w : World} {A : Around} {E : Value → Shared → Prop} {s : Shared} {env : Env} {C N fI : Addr} {ns : List Str}
theorem raise_own {x : Expr} {pos : Pos} {Q : Flow → Shared → Prop}
    (h : wpAny (model prog w) A (eval x env) (fun v s₁ => ∃ a t dd cx, v = .ref a ∧ ExcC s₁.heap C N fI ns ∧ s₁.heap.get? a = some (excO (.ref C) t dd cx) ∧ wpAny (model prog w) A (raiseNew (.ref a) : Sem Flow) Q E s₁) E s) :
    wpAny (model prog w) A (exec (.Raise (some x) none pos) env) Q E s := by
  show wpAny (model prog w) A (do standAt pos; raiseStmt env (some (do let v ← eval x env; standAt pos; pure v)) none) Q E s
  refine wpAny_bind (wpAny_standAt ?_)
  unfold raiseStmt
  dsimp only
  refine wpAny_bind (wpAny_bind (wpAny_mono h (fun v s₁ h₁ => wpAny_bind (wpAny_standAt (wpAny_pure ?_))) fun _ _ x => x))
  obtain ⟨e, t, dd, cx, rfl, CC, he, hE⟩ := h₁
  obtain ⟨a1, a2, a3, a4, a5, a6, a7, a8, a9, b1, b2, b3, b4, mN, hC, hN, h3, h4, h5, _⟩ := CC
  have hcB : (Value.ref C :: excM).contains (.type "BaseException") = true := by rw [List.contains_cons]; rw [show excM.contains (.type "BaseException") = true by decide]; simp
  obtain ⟨hp, g, d, tk, os⟩ := s₁
  repeat (first | with_reducible refine wpAny_loadPart_at he ?_ | with_reducible refine wpAny_loadPart_at hC ?_ | (with_reducible refine wpAny_isSubtype_exc hC ?_; rw [hcB]) | wp_step)
  exact hE
end
section
variable {prog : Program} {w : World} {A : Around} {E : Value → Shared → Prop} {s : Shared}
theorem ent_unchain : entryFor table "proto.unchain" = some Builtin.«proto.unchain» := entryFor_of_fast (by kernel_rfl)
theorem raise_chain {α : Type} {Q : α → Shared → Prop} {e b : Addr} {oe ob : Obj} {vs us : Array Value} (hh : A.handled = some (.ref b)) (hne : b ≠ e) (he : s.heap.get? e = some oe) (hd : oe.data = .fields vs) (h2 : 2 < vs.size)
    (hb : s.heap.get? b = some ob) (hdb : ob.data = .fields us) (hb2 : us[2]? = some .none) (h : E (.ref e) { s with heap := s.heap.update e (Obj.mapFields (·.setIfInBounds 2 (.ref b))) }) : wpAny (model prog w) A (raiseNew (.ref e) : Sem α) Q E s := by
  unfold raiseNew
  refine wpAny_bind (wpAny_handled ?_)
  rw [hh]
  dsimp only
  rw [if_pos (by simpa using hne)]
  refine wpAny_bind (wpAny_holding (wpAny_runValue (codeAny_builtin ent_unchain ?_)))
  unfold Builtin.«proto.unchain»
  dsimp only
  refine wpAny_bind (wpAny_field hb hdb hb2 ?_)
  rw [if_pos (by rfl)]
  unfold ret
  refine wpAny_bind (wpAny_pure (wpAny_pure ?_))
  have := wpAny_setField (M := model prog w) (A := A) (E := E) (s := s) (x := .ref b) he hd h2 (Q := fun _ s' => wpAny (model prog w) A (Sem.raise (.ref e) : Sem α) Q E s') (wpAny_throw h)
  unfold setField at this
  exact wpAny_bind this
end
section
end
end
/-! Fb -/
section
section
variable {w : World} {mean : ExcName → Option Value} {mg mb : Str → Option Value} {A₀ : Around} {base h₀ : Heap} {outer : List Env} {L : Addr} {m : Str → Option Value} {news : List (Addr × Obj)} {h : Heap} {gs : Array GenState} {dr : Drawn} {tk : Nat} {os : OsState} {cs : Scope}
    {dp un : Nat} {gd : Option (List Code)} {cn : Str} {a : Addr} {ccd : Value} {cl : List (Str × Addr)} {Q E : Value → Shared → Prop}
end
section
variable {prog : Program} {w : World} {A₀ : Around} {E : Value → Shared → Prop} {s' : Shared} {base g g₀ G : Heap} {outer : List Env} {L a e C : Addr} {m : Str → Option Value} {name : Str} {scope : Scope} {cd cx : Value} {dd : Option Addr} {kp : List (Addr × Obj)}
  {n : Str} {b₀ : Stmt} {suite : List Stmt} {pos np : Pos} {rest : List ExceptHandler} {Q : Flow → Shared → Prop} {KF : Frag}
  {p : Program} {loose : List Str} {mean : ExcName → Option Value} {mg mb : Str → Option Value} {x : Str} {fl : Value}
/-- an exception that stands in this frame: the ground that it stands on -/
structure Lay (A₀ : Around) (base : Heap) (outer : List Env) (g : Heap) (L : Addr) (m : Str → Option Value) (e : Addr) (C : Value) (dd : Option Addr) (cx : Value) (kp : List (Addr × Obj)) (g' h : Heap) : Prop where
  turn : KtsTurn (outer.filterMap (·.frame)) g g'
  fr : Fr g' L h m
  below : Below A₀ base outer g'
  news : ∃ oe us, News g' L h ((e, oe) :: kp) ∧ oe.cls = C ∧ oe.dict = dd ∧ oe.data = .fields us ∧ us[2]? = some cx
theorem lay_of {B h : Heap} {C : Value} {l : List Env} (K : Below A₀ base outer g) (F : Fr g L G m) (hl : l = envOf name scope L a cd :: outer) (hB : base.StaysIn B) (hBG : ∀ b o, G.get? b = some o → b ∉ l.filterMap (·.frame) → B.get? b = some o)
    (hkp : ∀ q ∈ kp, B.get? q.1 = some q.2) (hkn : ∀ q ∈ kp, G.get? q.1 = none) (R : Fly B l e C dd cx fl h) (hsm : G.UpToSlots h) : ∃ g', Lay A₀ base outer g L m e C dd cx kp g' h := by
  subst hl
  have hL : B.get? L = none := by
    obtain ⟨_, ⟨L', _, hf, hn', _⟩, _⟩ := R.2.2.1
    obtain rfl : L = L' := Option.some.inj hf
    exact hn'
  obtain ⟨g₅, T₅, F₅, K₅⟩ := kts_ground K F hBG R.1 hsm
  refine ⟨g₅, T₅, F₅, K₅, ?_⟩
  obtain ⟨hkb, hen, hfl, oe, us, T, oT, ts, hoe, hoc, hod, hoed, h1, h2, _⟩ := R
  have ne₅ : g₅.get? e = none := T₅.none_ _ (kts_fresh F hBG hen fun o ho m => by
    obtain ⟨_, o', ho', hd⟩ := K.frames.mem m
    rw [ho] at ho'
    cases ho'
    obtain ⟨sl, hs⟩ := hsm _ _ (F.keep _ _ ho) hd
    rw [hoe] at hs
    cases hs
    exact hd _ hoed)
  refine ⟨oe, us, fun q hq => ?_, hoc, hod, hoed, h2⟩
  rcases List.mem_cons.mp hq with rfl | hq
  · refine ⟨hoe, fun z => ?_, ne₅⟩
    obtain ⟨o, es, ep, ho, r, _⟩ := F₅.ns
    dsimp only at z
    rw [← z, hoe] at ho
    cases ho
    rw [hoed] at r
    cases r
  · exact ⟨hkb _ _ (hkp q hq), (fun z => by have := hkp q hq; rw [z, hL] at this; cases this), T₅.none_ _ (kts_none F.keep (hkn q hq))⟩
theorem own_hit0 (R : Thrown base G (envOf name scope L a cd :: outer) e (.ref C) dd cx kp s'.heap) (F : Fr g L G m) (K : Below A₀ base outer g) (XB : KF.In base) (TB : Top p loose mean mg mb base)
    (ex : nsIn KF mainGlobals x = some (some (.ref C))) (q : ktsIn KF C "BaseException" = true)
    (k : ∀ h' g', Lay A₀ base outer g L m e (.ref C) dd cx kp g' h' → KF.In g' → Top p loose mean mg mb g' → wpAny (model prog w) ((A₀.deeper (envOf name scope L a cd)).mark (some (.ref e))) (execs (b₀ :: suite) (envOf name scope L a cd)) Q E { s' with heap := h' })
    (hE : PassesOwnAt (model prog w) ((A₀.deeper (envOf name scope L a cd)).mark (some (.ref e))) (A₀.deeper (envOf name scope L a cd)) (envOf name scope L a cd) E)
    (hk : scope.kind = .function := by rfl) (hx : (envOf name scope L a cd).kindOf x = some .globalImplicit := by rfl) (hd : (x == ("__debug__" : Str)) = false := by decide) :
    wpAny (model prog w) (A₀.deeper (envOf name scope L a cd)) (noteFrame (.ref e) (envOf name scope L a cd))
      (fun _ s₂ => wpAny (model prog w) (A₀.deeper (envOf name scope L a cd)) (setFlight (.ref e) none) (fun _ s₃ =>
        wpAny (model prog w) (A₀.deeper (envOf name scope L a cd)) (handleBy (.ref e) (envOf name scope L a cd) (.ExceptHandler (some (.Name x np)) none (b₀ :: suite) pos :: rest)) Q E s₃) E s₂) E s' := by
  obtain ⟨⟨B, hB, hBG, hkp, hfl⟩, hU, hkn⟩ := R
  refine fly_note (Around.frames_deeper K.stack) rfl hfl fun h₄ R₄ U₄ => ?_
  refine fly_set (fr := none) R₄ fun h₅ R₅ U₅ => ?_
  obtain ⟨g₅, Y₅⟩ := lay_of K F rfl hB hBG hkp hkn R₅ (hU.trans (U₄.trans U₅))
  have X₅ : KF.In g₅ := XB.keeps Y₅.below.stays
  have P₅ : TopRead p loose mg mb g₅ := topRead_of (TB.keeps Y₅.below.stays)
  obtain ⟨oe, us, N₅, hoc, hod, hoed, hu2⟩ := Y₅.news
  obtain ⟨nm, q', N, bs, bm, hdct, sn, sub, ab, col, dd', k0, k1, k2, k3, k5, newId, hC, hbase, hbT⟩ := kts_cls X₅ q
  have hC₅ := Y₅.fr.keep _ _ hC
  refine wpAny_handleBy_cons (codeAny_handlers_test (name_K Y₅.fr X₅ P₅ ex ?_ hk hx hd)) (by intro q; cases q)
  refine wpAny_excMatches_sub_self hC₅ (N₅ _ (.head _)).1 hoc hbase (codeAny_handlers_suite ?_)
  refine fly_set (fr := none) R₅ fun h₆ R₆ U₆ => ?_
  obtain ⟨g₆, Y₆⟩ := lay_of K F rfl hB hBG hkp hkn R₆ ((hU.trans (U₄.trans U₅)).trans U₆)
  exact wpAny_passesOwnAt hE (k h₆ g₆ Y₆ (XB.keeps Y₆.below.stays) (TB.keeps Y₆.below.stays))
theorem exc_miss {h : Heap} {g : Array GenState} {d : Drawn} {t : Nat} {os : OsState} {oe : Obj} {D : Addr} {Q : Bool → Shared → Prop} {nm q nm' q' : Str} {N N' : Addr} {bs bm bs' : List Value} {hdct hdct' : Bool} {sn sn' : List Str} {sub sub' : List Value} {ab ab' : Bool} {col col' : Option Bool} {dd dd' : Option Addr} {k0 k1 k2 k3 k5 i0 i1 i2 i3 i5 : Option Value} {newId newId' : String} {A : Around} {M : Model}
    (hC : h.get? C = some (excClassObj nm q C N bs bm hdct sn sub ab col dd k0 k1 k2 k3 k5 newId)) (hD : h.get? D = some (excClassObj nm' q' D N' bs' excM hdct' sn' sub' ab' col' dd' i0 i1 i2 i3 i5 newId')) (he : h.get? e = some oe) (hcls : oe.cls = .ref D) (hbase : bm.contains (.type "BaseException") = true) (hDC : D ≠ C)
    (hq : Q false ⟨h, g, d, t, os⟩) : wpAny M A (excMatches (.ref e) (.ref C)) Q E ⟨h, g, d, t, os⟩ := by
  have hcB : (Value.ref C :: bm).contains (.type "BaseException") = true := by rw [List.contains_cons, hbase, Bool.or_true]
  have hcC : (Value.ref D :: excM).contains (.ref C) = false := by rw [List.contains_cons]; rw [show excM.contains (.ref C) = false by rfl]; simp [Ne.symm hDC]
  have f := tc_notTuple
  unfold excMatches
  repeat (first | (with_reducible refine wpAny_loadPart_at he ?_; rw [hcls]) | with_reducible refine wpAny_loadPart_at hC ?_ | (with_reducible refine wpAny_isSubtype_exc hC ?_; rw [hcB]) | (with_reducible refine wpAny_isSubtype_exc hD ?_; rw [hcC]) | wp_step)
  all_goals exact hq
/-- an exception that goes on its way behind a try -/
def Held (base G : Heap) (l : List Env) (L e : Addr) (C : Value) (dd : Option Addr) (cx : Value) (kp : List (Addr × Obj)) (h : Heap) : Prop :=
  (∃ B, base.StaysIn B ∧ (∀ b o, G.get? b = some o → b ∉ l.filterMap (·.frame) → B.get? b = some o) ∧ (∀ q ∈ kp, B.get? q.1 = some q.2) ∧ Fly B l e C dd cx (rawInt L) h) ∧ G.UpToSlots h ∧ ∀ q ∈ kp, G.get? q.1 = none
theorem own_miss {D : Addr} {ns ns' : List Str} {N fI : Addr} (R : Thrown base G (envOf name scope L a cd :: outer) e (.ref D) dd cx kp s'.heap) (F : Fr g L G m) (K : Below A₀ base outer g) (XB : KF.In base) (TB : Top p loose mean mg mb base)
    (ex : nsIn KF mainGlobals x = some (some (.ref C))) (q : ktsIn KF C "BaseException" = true) (qD : ∀ h, KF.In h → ExcC h D N fI ns) (hDC : D ≠ C)
    (k : ∀ h', Held base G (envOf name scope L a cd :: outer) L e (.ref D) dd cx kp h' → E (.ref e) { s' with heap := h' })
    (hk : scope.kind = .function := by rfl) (hx : (envOf name scope L a cd).kindOf x = some .globalImplicit := by rfl) (hd : (x == ("__debug__" : Str)) = false := by decide) :
    wpAny (model prog w) (A₀.deeper (envOf name scope L a cd)) (noteFrame (.ref e) (envOf name scope L a cd))
      (fun _ s₂ => wpAny (model prog w) (A₀.deeper (envOf name scope L a cd)) (setFlight (.ref e) none) (fun _ s₃ =>
        wpAny (model prog w) (A₀.deeper (envOf name scope L a cd)) (handleBy (.ref e) (envOf name scope L a cd) [.ExceptHandler (some (.Name x np)) none (b₀ :: suite) pos]) Q E s₃) E s₂) E s' := by
  obtain ⟨⟨B, hB, hBG, hkp, hfl⟩, hU, hkn⟩ := R
  refine fly_note (Around.frames_deeper K.stack) rfl hfl fun h₄ R₄ U₄ => ?_
  refine fly_set (fr := none) R₄ fun h₅ R₅ U₅ => ?_
  obtain ⟨g₅, Y₅⟩ := lay_of K F rfl hB hBG hkp hkn R₅ (hU.trans (U₄.trans U₅))
  have X₅ : KF.In g₅ := XB.keeps Y₅.below.stays
  have P₅ : TopRead p loose mg mb g₅ := topRead_of (TB.keeps Y₅.below.stays)
  obtain ⟨oe, us, N₅, hoc, hod, hoed, hu2⟩ := Y₅.news
  obtain ⟨nm, q', N, bs, bm, hdct, sn, sub, ab, col, dd', k0, k1, k2, k3, k5, newId, hC, hbase, hbT⟩ := kts_cls X₅ q
  have hC₅ := Y₅.fr.keep _ _ hC
  obtain ⟨a1, a2, a3, a4, a5, a6, a7, a8, a9, b1, b2, b3, b4, mN, hD, _⟩ := (qD _ X₅).keeps Y₅.fr.keep
  refine wpAny_handleBy_cons (codeAny_handlers_test (name_K Y₅.fr X₅ P₅ ex ?_ hk hx hd)) (by intro q; cases q)
  refine exc_miss hC₅ hD (N₅ _ (.head _)).1 hoc hbase hDC ?_
  obtain ⟨_, _, _, oe', ws, T, oT, ts, he, hc', hd', hd2, h1, _⟩ := id R₅
  refine wpAny_handleBy_nil ?_
  unfold PySem.passOn
  refine wpAny_bind (wpAny_field he hd2 h1 ?_)
  rw [if_neg (show ¬ ((Value.ref T == Value.none) = true) from by simp)]
  first
    | exact wpAny_bind (wpAny_pure (wpAny_bind (fly_set (fr := some L) R₅ fun h' hh hs => wpAny_throw (k h' ⟨⟨B, hB, hBG, hkp, hh⟩, hU.trans (U₄.trans (U₅.trans hs)), hkn⟩))))
    | exact wpAny_bind (fly_set (fr := some L) R₅ fun h' hh hs => wpAny_throw (k h' ⟨⟨B, hB, hBG, hkp, hh⟩, hU.trans (U₄.trans (U₅.trans hs)), hkn⟩))
theorem held_leave {C : Value} {Q : Unit → Shared → Prop} {M : Model} (K : Below A₀ base outer g) (F : Fr g L G m) (R : Held base G (envOf name scope L a cd :: outer) L e C dd cx kp s'.heap)
    (hQ : ∀ h', Thrown base g outer e C dd cx kp h' → Q () { s' with heap := h' }) :
    wpAny M (A₀.deeper (envOf name scope L a cd)) (leaving (envOf name scope L a cd) (.ref e)) Q E s' := by
  obtain ⟨⟨B, hB, hg, hkp, hfl⟩, hU, hkn⟩ := R
  unfold leaving
  refine wpAny_bind (fly_note_again rfl hfl ?_)
  refine fly_set (fr := none) hfl fun h₂ R₂ U₂ => ?_
  obtain ⟨k1, k2, ⟨_, _, k3⟩, k4⟩ := R₂
  refine hQ h₂ ⟨⟨B, hB, fun b o q nm => hg b o (F.keep b o q) (fun hm => ?_), hkp, k1, k2, k3, k4⟩, (Heap.UpToSlots.of_keeps F.keep).trans (hU.trans U₂), fun q hq => kts_none F.keep (hkn q hq)⟩
  rcases kts_mem hm with z | z
  · rw [z, kts_self F] at q; cases q
  · exact nm z
theorem Thrown.turn {l : List Env} {C : Value} {g' h : Heap} (R : Thrown base g' l e C dd cx kp h) (T : KtsTurn (l.filterMap (·.frame)) g g') (hfr : ∀ b ∈ l.filterMap (·.frame), g.get? b ≠ none → True) : Thrown base g l e C dd cx kp h := by
  obtain ⟨⟨B, hB, hg, hkp, hfl⟩, hU, hkn⟩ := R
  refine ⟨⟨B, hB, fun b o q nm => hg b o (T.other b o q nm) nm, hkp, hfl⟩, fun b o q nf => ?_, fun q hq => ?_⟩
  · obtain ⟨sl, hs⟩ := T.up q
    obtain ⟨sl', hs'⟩ := hU _ _ hs nf
    exact ⟨sl', hs'⟩
  · cases z : g.get? q.1 with
    | none => rfl
    | some o => obtain ⟨sl, hs⟩ := T.up z; rw [hkn q hq] at hs; cases hs
theorem own_hitB (R : Thrown base G (envOf name scope L a cd :: outer) e (.ref C) dd cx kp s'.heap) (F : Fr g L G m) (K : Below A₀ base outer g) (XB : KF.In base) (TB : Top p loose mean mg mb base)
    (ex : nsIn KF mainGlobals x = some (some (.ref C))) (q : ktsIn KF C "BaseException" = true)
    (k : ∀ h' g' tk oe us, KtsTurn (outer.filterMap (·.frame)) g g' → Below A₀ base outer g' → Fr g' L h' (fun y => if y = n then some (.ref e) else m y) → News g' L h' ((e, oe) :: kp) → oe.cls = .ref C → oe.dict = dd → oe.data = .fields us → KF.In g' → Top p loose mean mg mb g' →
      wpAny (model prog w) ((A₀.deeper (envOf name scope L a cd)).mark (some (.ref e))) (execs (b₀ :: suite) (envOf name scope L a cd))
        (fun f s₄ => wpAny (model prog w) (A₀.deeper (envOf name scope L a cd)) (do bindName (envOf name scope L a cd) n .none; unbindBehindTheSuite (envOf name scope L a cd) n pos) (fun _ s₅ => Q f s₅) E s₄)
        (fun _ _ => False) { s' with heap := h', toks := tk })
    (hk : scope.kind = .function := by rfl) (hlo : (envOf name scope L a cd).kindOf n = some .local := by rfl) (hx : (envOf name scope L a cd).kindOf x = some .globalImplicit := by rfl) (hd : (x == ("__debug__" : Str)) = false := by decide) :
    wpAny (model prog w) (A₀.deeper (envOf name scope L a cd)) (noteFrame (.ref e) (envOf name scope L a cd))
      (fun _ s₂ => wpAny (model prog w) (A₀.deeper (envOf name scope L a cd)) (setFlight (.ref e) none) (fun _ s₃ =>
        wpAny (model prog w) (A₀.deeper (envOf name scope L a cd)) (handleBy (.ref e) (envOf name scope L a cd) (.ExceptHandler (some (.Name x np)) (some n) (b₀ :: suite) pos :: rest)) Q E s₃) E s₂) E s' := by
  obtain ⟨⟨B, hB, hBG, hkp, hfl⟩, hU, hkn⟩ := R
  refine fly_note (Around.frames_deeper K.stack) rfl hfl fun h₄ R₄ U₄ => ?_
  refine fly_set (fr := none) R₄ fun h₅ R₅ U₅ => ?_
  obtain ⟨g₅, Y₅⟩ := lay_of K F rfl hB hBG hkp hkn R₅ (hU.trans (U₄.trans U₅))
  have X₅ : KF.In g₅ := XB.keeps Y₅.below.stays
  have P₅ : TopRead p loose mg mb g₅ := topRead_of (TB.keeps Y₅.below.stays)
  obtain ⟨oe, us, N₅, hoc, hod, hoed, hu2⟩ := Y₅.news
  obtain ⟨nm, q', N, bs, bm, hdct, sn, sub, ab, col, dd', k0, k1, k2, k3, k5, newId, hC, hbase, hbT⟩ := kts_cls X₅ q
  have hC₅ := Y₅.fr.keep _ _ hC
  refine wpAny_handleBy_cons (codeAny_handlers_test (name_K Y₅.fr X₅ P₅ ex ?_ hk hx hd)) (by intro q; cases q)
  refine wpAny_excMatches_sub_self hC₅ (N₅ _ (.head _)).1 hoc hbase (codeAny_handlers_suite_as ?_)
  refine fly_set (fr := none) R₅ fun h₆ R₆ U₆ => ?_
  obtain ⟨g₆, Y₆⟩ := lay_of K F rfl hB hBG hkp hkn R₆ ((hU.trans (U₄.trans U₅)).trans U₆)
  obtain ⟨oe, us, N₆, hoc, hod, hoed, hu2⟩ := Y₆.news
  refine stN Y₆.fr N₆ (fun h₇ F₇ N₇ => ?_) hk hlo
  exact wpAny_noRaise (k h₇ g₆ _ oe us Y₆.turn Y₆.below F₇ N₇ hoc hod hoed (XB.keeps Y₆.below.stays) (TB.keeps Y₆.below.stays))
end
section
end
end
/-! Tx -/
section
open PySem PySem.W PyProof.Rows
theorem gts_mem {env : Env} {L b : Addr} {outer : List Env} (hf : env.frame = some L) (hm : b ∈ (env :: outer).filterMap (·.frame)) : b = L ∨ b ∈ outer.filterMap (·.frame) := by
  obtain ⟨env', he, hf'⟩ := List.mem_filterMap.mp hm
  rcases List.mem_cons.mp he with rfl | he
  · rw [hf] at hf'; exact .inl (Option.some.inj hf').symm
  · exact .inr (List.mem_filterMap.mpr ⟨env', he, hf'⟩)
section
variable {M : Model} {A : Around} {E : Value → Shared → Prop} {s' : Shared} {base g g₂ G : Heap} {outer : List Env} {L a e : Addr} {m : Str → Option Value} {env : Env} {C cx : Value} {dd : Option Addr} {Q : Unit → Shared → Prop} {kp : List (Addr × Obj)}
theorem throw_firstX {oe : Obj} {vs : Array Value} (hf : env.frame = some L) (hk : env.scope.kind = .function) (K : Below A base outer g) (F : Fr g L s'.heap m) (N : News g L s'.heap ((e, oe) :: kp)) (hd : oe.data = .fields vs) (h1 : vs[1]? = some .none) (h2 : vs[2]? = some cx) (hne : ∀ q ∈ kp, q.1 ≠ e)
    (hQ : ∀ h', Thrown base g outer e oe.cls oe.dict cx kp h' → Q () { s' with heap := h' })  :
    wpAny M (A.deeper env) (leaving env (.ref e)) Q E s' := by
  have K' := pushX (env := env) K F hf hk
  have hes := (N _ (.head _)).1
  have hen := (N _ (.head _)).2.2
  generalize hfs : (env :: outer).filterMap (·.frame) = fs at *
  have hin : ∀ env1 ∈ (env :: outer), ∀ b, env1.frame = some b → b ∈ e :: fs := fun env1 he b hb => .tail _ (hfs ▸ List.mem_filterMap.mpr ⟨env1, he, hb⟩)
  have bn : ∀ b ∈ fs, base.get? b = none := fun b hb => (K'.frames.mem (hfs ▸ hb)).1
  have st : base.StaysIn (hideAll s'.heap (e :: fs)) := fun b o q => hideAll_get _ (K'.stays b o q) fun hm => by
    rcases List.mem_cons.mp hm with rfl | hm
    · have := K.stays _ _ q
      rw [hen] at this; cases this
    · rw [bn b hm] at q; cases q
  have sg : ∀ b o, g.get? b = some o → b ∉ outer.filterMap (·.frame) → (hideAll s'.heap (e :: fs)).get? b = some o := fun b o q nm => hideAll_get _ (F.keep b o q) fun hm => by
    rcases List.mem_cons.mp hm with rfl | hm
    · rw [hen] at q; cases q
    · rw [← hfs] at hm
      rcases gts_mem hf hm with z | z
      · rw [z, kts_self F] at q; cases q
      · exact nm z
  have sk : ∀ q ∈ kp, (hideAll s'.heap (e :: fs)).get? q.1 = some q.2 := fun q hq => hideAll_get _ (N q (.tail _ hq)).1 fun hm => by
    rcases List.mem_cons.mp hm with z | hm
    · exact hne q hq z
    · rw [← hfs] at hm
      rcases gts_mem hf hm with z | z
      · exact (N q (.tail _ hq)).2.1 z
      · obtain ⟨_, o, ho, _⟩ := K.frames.mem z
        rw [(N q (.tail _ hq)).2.2] at ho; cases ho
  have fr : s'.heap.FunFrames (hideAll s'.heap (e :: fs)) (env :: outer) := funFrames_hide K'.frames hin
  unfold leaving
  refine wpAny_bind (fly_note_first (B := hideAll s'.heap (e :: fs)) K'.stack fr hf hes (fun b o q => of_hideAll _ q) (hideAll_none _ (.head _)) hd h1 h2 fun h₁ R₁ U₁ => ?_)
  refine fly_set (fr := none) R₁ fun h₂ R₂ U₂ => ?_
  obtain ⟨k1, k2, ⟨_, _, k3⟩, k4⟩ := R₂
  exact hQ h₂ ⟨⟨_, st, sg, sk, k1, k2, k3, k4⟩, (Heap.UpToSlots.of_keeps F.keep).trans (U₁.trans U₂), fun q hq => (N q (.tail _ hq)).2.2⟩
theorem throw_nextX (hf : env.frame = some L) (hk : env.scope.kind = .function) (K : Below A base outer g) (F : Fr g L g₂ m) (R : Thrown base g₂ (env :: outer) e C dd cx kp s'.heap)
    (hQ : ∀ h', Thrown base g outer e C dd cx kp h' → Q () { s' with heap := h' }) :
    wpAny M (A.deeper env) (leaving env (.ref e)) Q E s' := by
  obtain ⟨⟨B, hB, hg, hkp, hfl⟩, hU, hkn⟩ := R
  unfold leaving
  refine wpAny_bind (fly_note (Around.frames_deeper K.stack) hf hfl fun h₁ R₁ U₁ => ?_)
  refine fly_set (fr := none) R₁ fun h₂ R₂ U₂ => ?_
  obtain ⟨k1, k2, ⟨_, _, k3⟩, k4⟩ := R₂
  refine hQ h₂ ⟨⟨B, hB, fun b o q nm => hg b o (F.keep b o q) (fun hm => ?_), hkp, k1, k2, k3, k4⟩, (Heap.UpToSlots.of_keeps F.keep).trans (hU.trans (U₁.trans U₂)), fun q hq => kts_none F.keep (hkn q hq)⟩
  rcases gts_mem hf hm with z | z
  · rw [z, kts_self F] at q; cases q
  · exact nm z
theorem held_leaveX (hf : env.frame = some L) (K : Below A base outer g) (F : Fr g L G m) (R : Held base G (env :: outer) L e C dd cx kp s'.heap)
    (hQ : ∀ h', Thrown base g outer e C dd cx kp h' → Q () { s' with heap := h' }) :
    wpAny M (A.deeper env) (leaving env (.ref e)) Q E s' := by
  obtain ⟨⟨B, hB, hg, hkp, hfl⟩, hU, hkn⟩ := R
  unfold leaving
  refine wpAny_bind (fly_note_again hf hfl ?_)
  refine fly_set (fr := none) hfl fun h₂ R₂ U₂ => ?_
  obtain ⟨k1, k2, ⟨_, _, k3⟩, k4⟩ := R₂
  refine hQ h₂ ⟨⟨B, hB, fun b o q nm => hg b o (F.keep b o q) (fun hm => ?_), hkp, k1, k2, k3, k4⟩, (Heap.UpToSlots.of_keeps F.keep).trans (hU.trans U₂), fun q hq => kts_none F.keep (hkn q hq)⟩
  rcases gts_mem hf hm with z | z
  · rw [z, kts_self F] at q; cases q
  · exact nm z
theorem note_same {e : Value} {env env' : Env} (h : env.frame = env'.frame) : noteFrame e env = noteFrame e env' := by
  unfold noteFrame PySem.frameOf; rw [h]
end
end
/-! V7 -/
section
section
variable {w : World} {mean : ExcName → Option Value} {mg mb : Str → Option Value} {A₀ : Around} {base h₀ : Heap} {outer : List Env} {L : Addr} {m : Str → Option Value} {news : List (Addr × Obj)} {h : Heap} {gs : Array GenState} {dr : Drawn} {tk : Nat} {os : OsState} {cs : Scope}
    {dp un : Nat} {gd : Option (List Code)} {cn : Str} {a : Addr} {ccd : Value} {cl : List (Str × Addr)} {Q E : Value → Shared → Prop}
end
section
variable {w : World} {mean : ExcName → Option Value} {mg mb : Str → Option Value} {A₀ : Around} {base h₀ : Heap} {outer : List Env} {L : Addr} {m : Str → Option Value} {news : List (Addr × Obj)} {h : Heap} {gs : Array GenState} {dr : Drawn} {tk : Nat} {os : OsState} {cs : Scope}
    {dp un : Nat} {gd : Option (List Code)} {cn : Str} {a : Addr} {ccd : Value} {cl : List (Str × Addr)} {Q E : Value → Shared → Prop}
set_option maxHeartbeats 40000000 in
theorem i_short {hh : Option Value} (B : Below A₀ base outer h₀) (F : Fr h₀ L h m) (X : (Mine.hd.heap_39 w.params).In h₀) {e t : Addr} (N : News h₀ L h ((e, excO (.ref 58) t none .none) :: news)) (T : Top0 mean mg mb h₀) (hk : cs.kind = .function) (hd : dp + 1 < recursionLimit) (hu : un + 8 < cLine)
    (hne : ∀ p ∈ news, p.1 ≠ e) {x : Str} {tx : Tok}
    (hs : ∀ h' t' dx od tk', Fr h₀ L h' m → News h₀ L h' ((e, excO (.ref 58) t' (some dx) .none) :: (dx, od) :: news) → dx ≠ e → Q .none ⟨h', gs, dr, tk', os⟩) :
    wpAny (model Challenge.rw_no0080_01.row.prog w) { handled := hh, depth := dp, frames := some (envX cn cs L a ccd cl :: outer), guards := gd, units := un } (call (.ref 55) [.ref e, .str x tx]) Q E ⟨h, gs, dr, tk, os⟩ := by
  refine wpAny_call ?_
  refine' code_def (binds := [(Str.ofString "self", .ref e), (Str.ofString "text", .str x tx)]) B F X N T rfl rfl hk ?k6 ?k7 ?k8 ?k9 ?kB ?_ ?c2 ?c3 ?c4 ?c5
  (( (case k6 => k_is); (case k7 => k_is); (case k8 => exact room0 (by assumption)); (case k9 => exact BindsTo.of_eq rfl); (case c5 => decide); (case kB => exact locs rfl); (case c2 => exact rfl); (case c3 => exact rfl); (case c4 => exact rfl)))
  intro g' L' h' FG' F' N' B' X' T'
  k_fold
  refine let_goal ?_
  intro A1 Q1 E1
  k_steps
  refine exc_getm F' X' (by k_is) ?_
  k_steps
  refine ei_init (by assumption) (short_cls X') (by assumption) hne fun h1 t1 lF lN => ?_
  k_steps
  refine ei_put0 (by assumption) (short_cls X') (by assumption) hne (.head _) (by rw [typeLookup_type, builtinLookup_eq_fast]; kernel_rfl) fun h2 dx od tk2 lF lN hO l1 l2 => ?_
  k_steps
  all_goals exact hs _ _ _ _ _ (by assumption) (by assumption) (Nat.ne_of_gt l2)
end
end
/-! V8 -/
section
section
variable {w : World} {mean : ExcName → Option Value} {mg mb : Str → Option Value} {A₀ : Around} {base h₀ : Heap} {outer : List Env} {L : Addr} {m : Str → Option Value} {news : List (Addr × Obj)} {h : Heap} {gs : Array GenState} {dr : Drawn} {tk : Nat} {os : OsState} {cs : Scope}
    {dp un : Nat} {gd : Option (List Code)} {cn : Str} {a : Addr} {ccd : Value} {cl : List (Str × Addr)} {Q E : Value → Shared → Prop}
end
section
variable {w : World} {mean : ExcName → Option Value} {mg mb : Str → Option Value} {A₀ : Around} {base h₀ : Heap} {outer : List Env} {L : Addr} {m : Str → Option Value} {news : List (Addr × Obj)} {h : Heap} {gs : Array GenState} {dr : Drawn} {tk : Nat} {os : OsState} {cs : Scope}
    {dp un : Nat} {gd : Option (List Code)} {cn : Str} {a : Addr} {ccd : Value} {cl : List (Str × Addr)} {Q E : Value → Shared → Prop}
set_option maxHeartbeats 40000000 in
theorem i_quic {hh : Option Value} (B : Below A₀ base outer h₀) (F : Fr h₀ L h m) (X : (Mine.hd.heap_39 w.params).In h₀) {e t : Addr} (N : News h₀ L h ((e, excO (.ref 38) t none .none) :: news)) (T : Top0 mean mg mb h₀) (hk : cs.kind = .function) (hd : dp + 1 < recursionLimit) (hu : un + 8 < cLine)
    (hne : ∀ p ∈ news, p.1 ≠ e) {x : Str} {tx tc tf : Tok} {c f : Int} (hc : 0 ≤ c) (hc2 : c ≤ 20) (hcl : (Str.ofString (toString c)).length ≤ 20) (hxl : x.length ≤ 200)
    (hs : ∀ h' t' dx od tk' mA, Fr h₀ L h' m → News h₀ L h' ((e, excO (.ref 38) t' (some dx) .none) :: (dx, od) :: news) → OD od mA → mA (Str.ofString "code") = some (.int c tc) → e < dx → Q .none ⟨h', gs, dr, tk', os⟩) :
    wpAny (model Challenge.rw_no0080_01.row.prog w) { handled := hh, depth := dp, frames := some (envX cn cs L a ccd cl :: outer), guards := gd, units := un } (call (.ref 35) [.ref e, .int c tc, .int f tf, .str x tx]) Q E ⟨h, gs, dr, tk, os⟩ := by
  refine wpAny_call ?_
  refine' code_def (binds := [(Str.ofString "self", .ref e), (Str.ofString "code", .int c tc), (Str.ofString "frame_type", .int f tf), (Str.ofString "text", .str x tx)]) B F X N T rfl rfl hk ?k6 ?k7 ?k8 ?k9 ?kB ?_ ?c2 ?c3 ?c4 ?c5
  (( (case k6 => k_is); (case k7 => k_is); (case k8 => exact room0 (by assumption)); (case k9 => exact BindsTo.of_eq rfl); (case c5 => decide); (case kB => exact locs rfl); (case c2 => exact rfl); (case c3 => exact rfl); (case c4 => exact rfl)))
  intro g' L' h' FG' F' N' B' X' T'
  k_fold
  refine let_goal ?_
  intro A1 Q1 E1
  k_steps
  refine exc_getm F' X' (by k_is) ?_
  k_steps
  refine ei_init (by assumption) (quic_cls X') (by assumption) hne fun h1 t1 lF lN => ?_
  k_steps
  refine ei_put0 (by assumption) (quic_cls X') (by assumption) hne (.head _) (by rw [typeLookup_type, builtinLookup_eq_fast]; kernel_rfl) fun h2 dx od tk2 lF lN hO l1 l2 => ?_
  k_steps
  have hne2 : ∀ p ∈ news, p.1 ≠ e ∧ p.1 ≠ dx := fun p hp => ⟨hne p hp, Nat.ne_of_lt (l1 p hp)⟩
  refine ei_put (names := [Str.ofString "code"]) (by assumption) (quic_cls X') (by assumption) hO hne2 (Nat.ne_of_lt l2) (.tail _ (.head _)) (by rw [typeLookup_type, builtinLookup_eq_fast]; kernel_rfl) (by within_ways) (by size_fits) fun h3 od3 tk3 lF lN hO3 => ?_
  k_steps
  refine ei_put (names := [Str.ofString "frame_type", Str.ofString "code"]) (by assumption) (quic_cls X') (by assumption) hO3 hne2 (Nat.ne_of_lt l2) (.tail _ (.tail _ (.head _))) (by rw [typeLookup_type, builtinLookup_eq_fast]; kernel_rfl) (by within_ways) (by size_fits) fun h4 od4 tk4 lF lN hO4 => ?_
  k_steps
  all_goals exact hs _ _ _ _ _ _ (by assumption) (by assumption) hO4 (by rfl) l2
end
end
/-! At -/
section
section
variable {w : World} {mean : ExcName → Option Value} {mg mb : Str → Option Value} {A₀ : Around} {base h₀ : Heap} {outer : List Env} {L : Addr} {m : Str → Option Value} {news : List (Addr × Obj)} {h : Heap} {gs : Array GenState} {dr : Drawn} {tk : Nat} {os : OsState} {cs : Scope}
    {dp un : Nat} {gd : Option (List Code)} {cn : Str} {a : Addr} {ccd : Value} {cl : List (Str × Addr)} {Q E : Value → Shared → Prop}
end
open Builtin Builtin.ObjectAttr
section
variable {prog : Program} {w : World} {A : Around} {E : Value → Shared → Prop} {h : Heap} {g : Array GenState} {d : Drawn} {t : Nat} {os : OsState} {a : Addr} {o : Obj} {vs : Array Value} {dx : Addr}
  {nm q : Str} {C N : Addr} {bs : List Value} {sn : List Str} {sub : List Value} {ab : Bool} {col : Option Bool} {dd : Option Addr} {k0 k1 k2 k3 k5 : Option Value} {newId : String} {mN mA : Str → Option Value} {name : Str} {v : Value}
theorem at_entry {tk : Tok} {Q : Fin → Shared → Prop} (hC : h.get? C = some (excClassObj nm q C N bs excM true sn sub ab col dd k0 k1 k2 k3 k5 newId)) (hN : h.Ns N mN) (hna : mN name = none) (hB : typeLookup (.type "Exception") name = pure none)
    (hx : h.get? a = some o) (hc : o.cls = .ref C) (hd : o.data = .fields vs) (hdx : o.dict = some dx) (hns : h.Ns1 dx mA) (hv : mA name = some v) (hq : Q (.done (.ret v)) ⟨h, g, d, t, os⟩) :
    wpAny (model prog w) A (Builtin.«object.__getattribute__» ⟨[.ref a, .str name tk], []⟩) Q E ⟨h, g, d, t, os⟩ := by
  unfold Builtin.«object.__getattribute__»
  repeat (first | (with_reducible refine wpAny_loadPart_at hx ?_; rw [hc]) | (with_reducible refine wpAny_typeLookup_exc hC hN F.attrBase_Exception.mro hB ?_; rw [hna]) | wp_step)
  split
  · rename_i c hcd
    rw [hd] at hcd; cases hcd
  unfold instanceDict
  repeat (first | (with_reducible refine wpAny_loadPart_at hx ?_; rw [hc]) | with_reducible refine wpAny_loadPart_at hC ?_ | wp_step)
  rw [hdx]
  repeat (first | (with_reducible refine wpAny_nsGet hns.ns ?_; rw [hv]) | wp_step)
  exact hq
theorem at_call {tk : Tok} {R : Result → Shared → Prop} (hC : h.get? C = some (excClassObj nm q C N bs excM true sn sub ab col dd k0 k1 k2 k3 k5 newId)) (hN : h.Ns N mN) (hna : mN name = none) (hB : typeLookup (.type "Exception") name = pure none)
    (hx : h.get? a = some o) (hc : o.cls = .ref C) (hd : o.data = .fields vs) (hdx : o.dict = some dx) (hns : h.Ns1 dx mA) (hv : mA name = some v) (hq : R (.ok (.ret v)) ⟨h, g, d, t, os⟩) :
    codeAny (model prog w) A (.call (.builtin "BaseException.__getattribute__") ⟨[.ref a, .str name tk], []⟩) R ⟨h, g, d, t, os⟩ :=
  codeAny_call_builtin F.attr_Exception.ga.plain F.entry_bexc_ga (wpAny_check_ga_own F.attrBase_Exception hC .base hx hc (at_entry hC hN hna hB hx hc hd hdx hns hv hq))
theorem at_by {tk : Tok} {fill expr : Bool} {Q : Value → Shared → Prop} (hC : h.get? C = some (excClassObj nm q C N bs excM true sn sub ab col dd k0 k1 k2 k3 k5 newId)) (hN : h.Ns N mN) (h1 : mN "__getattribute__" = none) (h2 : mN "__getattr__" = none) (hna : mN name = none) (hB : typeLookup (.type "Exception") name = pure none)
    (hx : h.get? a = some o) (hc : o.cls = .ref C) (hd : o.data = .fields vs) (hdx : o.dict = some dx) (hns : h.Ns1 dx mA) {i : Int} {ti : Tok} (hv : mA name = some (.int i ti)) (hq : Q (.int i ti) ⟨h, g, d, t, os⟩) :
    wpAny (model prog w) A (getAttrBy (.ref a) (.str name tk) fill expr) Q E ⟨h, g, d, t, os⟩ := by
  have f3 := F.attr_Exception.ga.bind (.ref a)
  have hx0 : (expr && onTheHeap (Value.builtin "BaseException.__getattribute__")) = false := by cases expr <;> rfl
  have hx2 : (Value.builtin "BaseException.__getattribute__" == Value.builtin "object.__getattribute__") = false := by decide +kernel
  have hx1 : (onTheHeap (Value.ref C) && Value.builtin "BaseException.__getattribute__" == Value.builtin "object.__getattribute__") = false := by rw [hx2]; rfl
  unfold getAttrBy
  repeat (any_goals (first | assumption | (with_reducible refine wpAny_loadPart_at hx ?_; rw [hc]) | (with_reducible refine wpAny_typeLookup_exc hC hN F.attrBase_Exception.mro F.attr_Exception.ga.lookup ?_; rw [h1]) | (with_reducible refine wpAny_typeLookup_exc hC hN F.attrBase_Exception.mro F.attrBase_Exception.noGetattr ?_; rw [h2]) | wp_step))
  refine at_call hC hN hna hB hx hc hd hdx hns hv ?_
  repeat (any_goals (first | assumption | wp_step | exact wpAny_pure hq))
theorem at_attr {expr : Bool} {Q : Value → Shared → Prop} (hC : h.get? C = some (excClassObj nm q C N bs excM true sn sub ab col dd k0 k1 k2 k3 k5 newId)) (hN : h.Ns N mN) (h1 : mN "__getattribute__" = none) (h2 : mN "__getattr__" = none) (hna : mN name = none) (hB : typeLookup (.type "Exception") name = pure none)
    (hx : h.get? a = some o) (hc : o.cls = .ref C) (hd : o.data = .fields vs) (hdx : o.dict = some dx) (hns : h.Ns1 dx mA) {i : Int} {ti : Tok} (hv : mA name = some (.int i ti)) (hq : Q (.int i ti) ⟨h, g, d, t + 1, os⟩) :
    wpAny (model prog w) A (getAttr (.ref a) name expr) Q E ⟨h, g, d, t, os⟩ := by
  unfold getAttr
  repeat (any_goals (first | assumption | with_reducible apply at_by hC hN h1 h2 hna hB hx hc hd hdx hns hv | wp_step))
theorem code_noLook : typeLookup (.type "Exception") (Str.ofString "code") = pure none := by rw [typeLookup_type, builtinLookup_eq_fast]; kernel_rfl
theorem at_code {w : World} {s : Shared} {g0 : Heap} {L e dx : Addr} {m : Str → Option Value} {oe od : Obj} {rest : List (Addr × Obj)} {us : Array Value} {mA : Str → Option Value} {c : Int} {tc : Tok} {expr : Bool} {Q : Value → Shared → Prop} (X : (Mine.hd.heap_39 w.params).In g0) (F : Fr g0 L s.heap m)
    (N : News g0 L s.heap ((e, oe) :: (dx, od) :: rest)) (hc : oe.cls = .ref 38) (hd : oe.data = .fields us) (hdx : oe.dict = some dx) (hO : OD od mA) (hv : mA (Str.ofString "code") = some (.int c tc)) (hq : Q (.int c tc) { s with toks := s.toks + 1 }) :
    wpAny (model prog w) A (getAttr (.ref e) (Str.ofString "code") expr) Q E s := by
  obtain ⟨a1, a2, a3, a4, a5, a6, a7, a8, a9, b1, b2, b3, b4, mN, h1, hN, h3, h4, h5, of, h6, h7⟩ := (quic_cls X).keeps F.keep
  exact at_attr (h := s.heap) h1 hN (h5 _ (by simp)) (h5 _ (by simp)) (h5 _ (by simp)) code_noLook (N _ (.head _)).1 hc hd hdx (hO.ns1 (N _ (.tail _ (.head _))).1) hv hq
end
section
end
end
/-! Ez -/
section
section
variable {w : World} {mean : ExcName → Option Value} {mg mb : Str → Option Value} {A₀ : Around} {base h₀ : Heap} {outer : List Env} {L : Addr} {m : Str → Option Value} {news : List (Addr × Obj)} {h : Heap} {gs : Array GenState} {dr : Drawn} {tk : Nat} {os : OsState} {cs : Scope}
    {dp un : Nat} {gd : Option (List Code)} {cn : Str} {a : Addr} {ccd : Value} {cl : List (Str × Addr)} {Q E : Value → Shared → Prop}
end
section
variable {w : World} {mean : ExcName → Option Value} {mg mb : Str → Option Value} {A₀ : Around} {base h₀ : Heap} {outer : List Env} {L : Addr} {m : Str → Option Value} {news : List (Addr × Obj)} {h : Heap} {gs : Array GenState} {dr : Drawn} {tk : Nat} {os : OsState} {cs : Scope}
    {dp un : Nat} {gd : Option (List Code)} {cn : Str} {a : Addr} {ccd : Value} {cl : List (Str × Addr)} {Q E : Value → Shared → Prop}
theorem und {hh : Option Value} {C : Addr} {vals : List Value} : ∃ gd', Around.under { handled := hh, depth := dp, frames := some (envX cn cs L a ccd cl :: outer), guards := gd, units := un } (.builtin "type.__call__" ⟨.ref C :: vals, []⟩) = { handled := hh, depth := dp + 1, frames := some (envX cn cs L a ccd cl :: outer), guards := gd', units := un + 1 } := ⟨pushGuards (Code.guards (.builtin "type.__call__" ⟨.ref C :: vals, []⟩)) gd, by unfold Around.under; congr 1⟩
theorem fr_all {g h h' : Heap} {L : Addr} {m : Str → Option Value} (F : Fr g L h m) (k : ∀ b o, h.get? b = some o → h'.get? b = some o) : Fr g L h' m := by
  obtain ⟨o, es, ep, ho, r⟩ := F.ns
  exact ⟨⟨o, es, ep, k L o ho, r⟩, fun b o q => k b o (F.keep b o q), F.above⟩
theorem mk_short {hh : Option Value} (B : Below A₀ base outer h₀) (F : Fr h₀ L h m) (X : (Mine.hd.heap_39 w.params).In h₀) (N : News h₀ L h news) (T : Top0 mean mg mb h₀) (hk : cs.kind = .function) (hd : dp + 2 < recursionLimit) (hu : un + 16 < cLine)
    {x : Str} {tx : Tok}
    (hs : ∀ h' e t' dx od tk', Fr h₀ L h' m → News h₀ L h' ((e, excO (.ref 58) t' (some dx) .none) :: (dx, od) :: news) → (∀ p ∈ news, p.1 ≠ e) → dx ≠ e → Q (.ref e) ⟨h', gs, dr, tk', os⟩) :
    wpAny (model Challenge.rw_no0080_01.row.prog w) { handled := hh, depth := dp, frames := some (envX cn cs L a ccd cl :: outer), guards := gd, units := un } (call (.ref 58) [.str x tx]) Q E ⟨h, gs, dr, tk, os⟩ := by
  obtain ⟨a1, a2, a3, a4, a5, a6, a7, a8, a9, b1, b2, b3, b4, mN, h1, hN, h3, h4, h5, of, h6, h7⟩ := (short_cls X).keeps F.keep
  refine wpAny_call_exc_init PySem.F.excBase_Exception h1 hN h3 h6 h7 (fun h' e M => ?_) (by show 1 ≤ sizeLine; decide)
  obtain ⟨k1, k2, t, k3, k4, k5⟩ := M
  obtain ⟨gd', hg'⟩ := und (dp := dp) (un := un) (gd := gd) (cn := cn) (cs := cs) (L := L) (a := a) (ccd := ccd) (cl := cl) (outer := outer) (hh := hh) (C := 58) (vals := [.str x tx])
  rw [hg']
  have hne : ∀ p ∈ news, p.1 ≠ e := fun p hp q => by rw [← q, (N p hp).1] at k2; cases k2
  have he : e ≠ L := fun q => by obtain ⟨o, _, _, ho, _⟩ := F.ns; rw [← q, k2] at ho; cases ho
  refine i_short (t := t) B (fr_all F k1) X (fun p hp => ?_) T hk (by omega) (by omega) hne fun h2 t' dx od tk' F2 N2 n2 => ⟨rfl, hs _ _ _ _ _ _ F2 N2 hne n2⟩
  rcases List.mem_cons.mp hp with rfl | hp
  · exact ⟨k3, he, kts_none F.keep k2⟩
  · exact ⟨k1 _ _ (N p hp).1, (N p hp).2⟩
theorem mk_quic {hh : Option Value} (B : Below A₀ base outer h₀) (F : Fr h₀ L h m) (X : (Mine.hd.heap_39 w.params).In h₀) (N : News h₀ L h news) (T : Top0 mean mg mb h₀) (hk : cs.kind = .function) (hd : dp + 2 < recursionLimit) (hu : un + 16 < cLine)
    {x : Str} {tx tc tf : Tok} {c f : Int} (hc : 0 ≤ c) (hc2 : c ≤ 20) (hcl : (Str.ofString (toString c)).length ≤ 20) (hxl : x.length ≤ 200)
    (hs : ∀ h' e t' dx od tk' mA, Fr h₀ L h' m → News h₀ L h' ((e, excO (.ref 38) t' (some dx) .none) :: (dx, od) :: news) → (∀ p ∈ news, p.1 ≠ e) → dx ≠ e → OD od mA → mA (Str.ofString "code") = some (.int c tc) → Q (.ref e) ⟨h', gs, dr, tk', os⟩) :
    wpAny (model Challenge.rw_no0080_01.row.prog w) { handled := hh, depth := dp, frames := some (envX cn cs L a ccd cl :: outer), guards := gd, units := un } (call (.ref 38) [.int c tc, .int f tf, .str x tx]) Q E ⟨h, gs, dr, tk, os⟩ := by
  obtain ⟨a1, a2, a3, a4, a5, a6, a7, a8, a9, b1, b2, b3, b4, mN, h1, hN, h3, h4, h5, of, h6, h7⟩ := (quic_cls X).keeps F.keep
  refine wpAny_call_exc_init PySem.F.excBase_Exception h1 hN h3 h6 h7 (fun h' e M => ?_) (by show 3 ≤ sizeLine; decide)
  obtain ⟨k1, k2, t, k3, k4, k5⟩ := M
  obtain ⟨gd', hg'⟩ := und (dp := dp) (un := un) (gd := gd) (cn := cn) (cs := cs) (L := L) (a := a) (ccd := ccd) (cl := cl) (outer := outer) (hh := hh) (C := 38) (vals := [.int c tc, .int f tf, .str x tx])
  rw [hg']
  have hne : ∀ p ∈ news, p.1 ≠ e := fun p hp q => by rw [← q, (N p hp).1] at k2; cases k2
  have he : e ≠ L := fun q => by obtain ⟨o, _, _, ho, _⟩ := F.ns; rw [← q, k2] at ho; cases ho
  refine i_quic (t := t) B (fr_all F k1) X (fun p hp => ?_) T hk (by omega) (by omega) hne hc hc2 hcl hxl fun h2 t' dx od tk' mA F2 N2 hO hcd n2 => ⟨rfl, hs _ _ _ _ _ _ _ F2 N2 hne (Nat.ne_of_gt n2) hO hcd⟩
  rcases List.mem_cons.mp hp with rfl | hp
  · exact ⟨k3, he, kts_none F.keep k2⟩
  · exact ⟨k1 _ _ (N p hp).1, (N p hp).2⟩
end
end
/-! V6 -/
section
section
variable {w : World} {mean : ExcName → Option Value} {mg mb : Str → Option Value} {A₀ : Around} {base h₀ : Heap} {outer : List Env} {L : Addr} {m : Str → Option Value} {news : List (Addr × Obj)} {h : Heap} {gs : Array GenState} {dr : Drawn} {tk : Nat} {os : OsState} {cs : Scope}
    {dp un : Nat} {gd : Option (List Code)} {cn : Str} {a : Addr} {ccd : Value} {cl : List (Str × Addr)} {Q E : Value → Shared → Prop}
end
section
variable {w : World} {mean : ExcName → Option Value} {mg mb : Str → Option Value} {A₀ : Around} {base h₀ : Heap} {outer : List Env} {L : Addr} {m : Str → Option Value} {news : List (Addr × Obj)} {h : Heap} {gs : Array GenState} {dr : Drawn} {tk : Nat} {os : OsState} {cs : Scope}
    {dp un : Nat} {gd : Option (List Code)} {cn : Str} {a : Addr} {ccd : Value} {cl : List (Str × Addr)} {Q E : Value → Shared → Prop}
/-- what a raising callee tells its caller -/
def EShort (E : Value → Shared → Prop) (base h₀ : Heap) (L : Addr) (m : Str → Option Value) (l : List Env) (news : List (Addr × Obj)) (gs : Array GenState) (dr : Drawn) (os : OsState) : Prop :=
  ∀ g e dd h' tk', Fr h₀ L g m → Thrown base g l e (.ref 58) dd .none news h' → E (.ref e) ⟨h', gs, dr, tk', os⟩
set_option maxHeartbeats 40000000 in
theorem p_whole (B : Below A₀ base outer h₀) (F : Fr h₀ L h m) (X : (Mine.hd.heap_39 w.params).In h₀) (N : News h₀ L h news) (T : Top0 mean mg mb h₀) (hk : cs.kind = .function) (hd : dp + 4 < recursionLimit) (hu : un + 32 < cLine)
    {b : Array UInt8} {ks : List Int} {tb ta ts : Tok} {at_ size : Nat} (hb : KBw.bInts b = ks) (hbl : ks.length ≤ 100) 
    (he : ks.length < at_ + size → EShort E base h₀ L m (envX cn cs L a ccd cl :: outer) news gs dr os)
    (hs : at_ + size ≤ ks.length → ∀ t h' tk', Fr h₀ L h' m → News h₀ L h' news → Q (.int (vfold 0 ((ks.drop at_).take size)) t) ⟨h', gs, dr, tk', os⟩) :
    wpAny (model Challenge.rw_no0080_01.row.prog w) (ktrTop dp un gd cn cs L a ccd cl outer) (call (.ref 69) [.bytes b tb, .int (at_ : Int) ta, .int (size : Int) ts]) Q E ⟨h, gs, dr, tk, os⟩ := by
  have hoc := oct_of hb
  refine wpAny_call ?_
  refine' code_def (binds := [(Str.ofString "data", .bytes b tb), (Str.ofString "at", .int (at_ : Int) ta), (Str.ofString "size", .int (size : Int) ts)]) B F X N T rfl rfl hk ?k6 ?k7 ?k8 ?k9 ?kB ?_ ?c2 ?c3 ?c4 ?c5
  (( (case k6 => k_is); (case k7 => k_is); (case k8 => exact room0 (by assumption)); (case k9 => exact BindsTo.of_eq rfl); (case c5 => decide); (case kB => exact locs rfl); (case c2 => exact rfl); (case c3 => exact rfl); (case c4 => exact rfl)))
  intro g' L' h' FG' F' N' B' X' T'
  k_fold
  refine let_goal ?_
  intro A1 Q1 E1
  k_steps
  · have hlen : ks.length < at_ + size := by omega
    unfold StopT
    refine raise_own (C := 58) (N := 57) (fI := 55) (ns := [Str.ofString "text"]) ?_
    k_steps
    unfold StopT
    refine' mk_short (by assumption) (by assumption) (by assumption) (by assumption) (by assumption) rfl ?hd ?hu ?hs
    case hd => exact room (k := 2) hd rfl
    case hu => exact roomU (k := 16) hu rfl
    intro h2 e t2 dx od tk2 F2 N2 n1 n2
    refine ⟨_, _, _, _, rfl, (short_cls X').keeps F2.keep, (N2 _ (.head _)).1, wpAny_raiseNew_none rfl ?_⟩
    refine throw_first (oe := excO (.ref 58) t2 (some dx) .none) (kp := news) (by assumption) F2 (fun p hp => ?_) rfl rfl rfl n1 fun h3 R => he hlen _ _ _ _ _ FG' R
    rcases List.mem_cons.mp hp with rfl | hp
    · exact N2 _ (.head _)
    · exact N2 _ (.tail _ (.tail _ hp))
  · unfold StopT
    dsimp only at *
    rename Fr _ _ _ _ => lF'
    rename News _ _ _ _ => lN'
    rename KBw.bInts (KBy.picked _ _ _) = _ => hc
    have hlen : at_ + size ≤ ks.length := by omega
    have hcl : min at_ ks.length = at_ := by omega
    have hcr : clipAt ks.length ((at_ : Int) + (size : Int)) = at_ + size := by
      rw [← Int.natCast_add, clipAt_nat]; omega
    rw [hcl, hcr, show at_ + size - at_ = size by omega] at hc
    refine' lp_bytes (σ := Int × Tok) (fun c => [(Str.ofString "found", .int c.1 c.2)]) (fun i c nx => nx = news ∧ c.1 = vfold 0 (((ks.drop at_).take size).take i)) [Str.ofString "octet"] (_, _) rfl hc lF' lN' ?kk ?kf ?turn ?done
    case kk => intro p hp; rw [List.mem_singleton.mp hp]; exact rfl
    case kf => exact ⟨rfl, rfl⟩
    case turn =>
      clear lF' lN'
      rintro i c nx k t u h tk own hki hn0 hn1 ⟨rfl, hP⟩ hoff F'' N''
      k_fold
      refine let_post ?_
      intro Qt
      k_steps
      refine' lp_end (_, _) _ (by assumption) (by assumption) (fun p hp => List.mem_append.mpr (.inl hp)) (fun p hp => List.mem_append.mpr (.inr hp)) hoff ?hk ?hr ?hp
      case hk => intro p hp; rw [List.mem_singleton.mp hp]; exact rfl
      case hr => ((intro z h1 h2 h3; (simp only [List.forall_mem_cons, List.not_mem_nil, false_implies, implies_true, and_true, ne_eq] at h2); (simp only [List.contains_cons, List.contains_nil, Bool.or_false, Bool.or_eq_false_iff, beq_eq_false_iff_ne, ne_eq] at h3); (simp [kstB, h1, h2, h3]; done)))
      case hp => exact ⟨rfl, by rw [List.take_add_one, hki]; show _ = vfold _ (_ ++ [k]); rw [vfold_snoc, ← hP]⟩
    case done =>
      clear lF' lN'
      rintro c nx u h tk ⟨rfl, hP⟩ F'' N''
      rw [List.take_length] at hP
      dsimp only
      k_steps
      rename Fr h₀ _ _ _ => lF'
      rename News h₀ _ _ _ => lN'
      rw [hP]
      exact hs hlen _ _ _ lF' lN'
end
section
end
end
/-! W1 -/
section
section
variable {w : World} {mean : ExcName → Option Value} {mg mb : Str → Option Value} {A₀ : Around} {base h₀ : Heap} {outer : List Env} {L : Addr} {m : Str → Option Value} {news : List (Addr × Obj)} {h : Heap} {gs : Array GenState} {dr : Drawn} {tk : Nat} {os : OsState} {cs : Scope}
    {dp un : Nat} {gd : Option (List Code)} {cn : Str} {a : Addr} {ccd : Value} {cl : List (Str × Addr)} {Q E : Value → Shared → Prop}
end
/-- what a callee tells that raises a QuicError of a code -/
def EQuic (E : Value → Shared → Prop) (base h₀ : Heap) (L : Addr) (m : Str → Option Value) (l : List Env) (news : List (Addr × Obj)) (gs : Array GenState) (dr : Drawn) (os : OsState) (c : Int) : Prop :=
  ∀ g e dx od cx h' tk' mA tc, Fr h₀ L g m → Thrown base g l e (.ref 38) (some dx) cx ((dx, od) :: news) h' → OD od mA → mA (Str.ofString "code") = some (.int c tc) → E (.ref e) ⟨h', gs, dr, tk', os⟩
section
variable {w : World} {mean : ExcName → Option Value} {mg mb : Str → Option Value} {A₀ : Around} {base h₀ : Heap} {outer : List Env} {L : Addr} {m : Str → Option Value} {news : List (Addr × Obj)} {h : Heap} {gs : Array GenState} {dr : Drawn} {tk : Nat} {os : OsState} {cs : Scope}
    {dp un : Nat} {gd : Option (List Code)} {cn : Str} {a : Addr} {ccd : Value} {cl : List (Str × Addr)} {Q E : Value → Shared → Prop}
set_option maxHeartbeats 40000000 in
theorem p_refuse {told : Int} {tt tx : Tok} {x : Str} (B : Below A₀ base outer h₀) (F : Fr h₀ L h m) (X : (Mine.hd.heap_39 w.params).In h₀) (N : News h₀ L h news) (T : Top0 mean mg mb h₀) (hk : cs.kind = .function) (hd : dp + 3 < recursionLimit) (hu : un + 24 < cLine)
    (hxl : x.length ≤ 200) (he : EQuic E base h₀ L m (envX cn cs L a ccd cl :: outer) news gs dr os 7) :
    wpAny (model Challenge.rw_no0080_01.row.prog w) (ktrTop dp un gd cn cs L a ccd cl outer) (call (.ref 161) [.int told tt, .str x tx]) Q E ⟨h, gs, dr, tk, os⟩ := by
  refine wpAny_call ?_
  refine' code_def (binds := [(Str.ofString "told", .int told tt), (Str.ofString "text", .str x tx)]) B F X N T rfl rfl hk ?k6 ?k7 ?k8 ?k9 ?kB ?_ ?c2 ?c3 ?c4 ?c5
  (( (case k6 => k_is); (case k7 => k_is); (case k8 => exact room0 (by assumption)); (case k9 => exact BindsTo.of_eq rfl); (case c5 => decide); (case kB => exact locs rfl); (case c2 => exact rfl); (case c3 => exact rfl); (case c4 => exact rfl)))
  intro g' L' h' FG' F' N' B' X' T'
  k_fold
  refine let_goal ?_
  intro A1 Q1 E1
  k_steps
  unfold StopT
  refine raise_own (C := 38) (N := 37) (fI := 35) (ns := [Str.ofString "code", Str.ofString "frame_type", Str.ofString "text", Str.ofString "__getattribute__", Str.ofString "__getattr__"]) ?_
  k_steps
  unfold StopT
  refine' mk_quic (by assumption) (by assumption) (by assumption) (by assumption) (by assumption) rfl ?hd1 ?hu1 (by decide) (by decide) (by decide) hxl ?hs1
  case hd1 => exact room (k := 2) hd rfl
  case hu1 => exact roomU (k := 16) hu rfl
  intro h2 e t2 dx od tk2 mA F2 N2 n1 n2 hO hcd
  refine ⟨_, _, _, _, rfl, (quic_cls X').keeps F2.keep, (N2 _ (.head _)).1, wpAny_raiseNew_none rfl ?_⟩
  refine throw_first (oe := excO (.ref 38) t2 (some dx) .none) (kp := (dx, od) :: news) (by assumption) F2 N2 rfl rfl rfl (fun q hq => ?_) fun h3 R => he _ _ _ _ _ _ _ _ _ FG' R hO hcd
  rcases List.mem_cons.mp hq with rfl | hq
  · exact n2
  · exact n1 _ hq
end
section
end
end
/-! V10 -/
section
section
variable {w : World} {mean : ExcName → Option Value} {mg mb : Str → Option Value} {A₀ : Around} {base h₀ : Heap} {outer : List Env} {L : Addr} {m : Str → Option Value} {news : List (Addr × Obj)} {h : Heap} {gs : Array GenState} {dr : Drawn} {tk : Nat} {os : OsState} {cs : Scope}
    {dp un : Nat} {gd : Option (List Code)} {cn : Str} {a : Addr} {ccd : Value} {cl : List (Str × Addr)} {Q E : Value → Shared → Prop}
end
section
variable {w : World} {mean : ExcName → Option Value} {mg mb : Str → Option Value} {A₀ : Around} {base h₀ : Heap} {outer : List Env} {L : Addr} {m : Str → Option Value} {news : List (Addr × Obj)} {h : Heap} {gs : Array GenState} {dr : Drawn} {tk : Nat} {os : OsState} {cs : Scope}
    {dp un : Nat} {gd : Option (List Code)} {cn : Str} {a : Addr} {ccd : Value} {cl : List (Str × Addr)} {Q E : Value → Shared → Prop}
set_option maxHeartbeats 40000000 in
theorem p_gv (B : Below A₀ base outer h₀) (F : Fr h₀ L h m) (X : (Mine.hd.heap_39 w.params).In h₀) (N : News h₀ L h news) (T : Top0 mean mg mb h₀) (hk : cs.kind = .function) (hd : dp + 5 < recursionLimit) (hu : un + 40 < cLine)
    {b : Array UInt8} {ks : List Int} {tb ta : Tok} {at_ : Nat} (hb : KBw.bInts b = ks) (hbl : ks.length ≤ 100) 
    (he : vint ks at_ = none → EShort E base h₀ L m (envX cn cs L a ccd cl :: outer) news gs dr os)
    (hs : ∀ n e, vint ks at_ = some (n, e) → ∀ x t u h' tk', Fr h₀ L h' m → News h₀ L h' ((x, tupO [.int n t, .int (e : Int) u] 0) :: news) → (∀ p ∈ news, p.1 < x) → Q (.ref x) ⟨h', gs, dr, tk', os⟩) :
    wpAny (model Challenge.rw_no0080_01.row.prog w) (ktrTop dp un gd cn cs L a ccd cl outer) (call (.ref 83) [.bytes b tb, .int (at_ : Int) ta]) Q E ⟨h, gs, dr, tk, os⟩ := by
  have hoc := oct_of hb
  refine wpAny_call ?_
  refine' code_def (binds := [(Str.ofString "data", .bytes b tb), (Str.ofString "at", .int (at_ : Int) ta)]) B F X N T rfl rfl hk ?k6 ?k7 ?k8 ?k9 ?kB ?_ ?c2 ?c3 ?c4 ?c5
  (( (case k6 => k_is); (case k7 => k_is); (case k8 => exact room0 (by assumption)); (case k9 => exact BindsTo.of_eq rfl); (case c5 => decide); (case kB => exact locs rfl); (case c2 => exact rfl); (case c3 => exact rfl); (case c4 => exact rfl)))
  intro g' L' h' FG' F' N' B' X' T'
  k_fold
  refine let_goal ?_
  intro A1 Q1 E1
  k_steps
  · have hlen : vint ks at_ = none := by unfold vint; rw [if_pos (by omega)]
    unfold StopT
    refine raise_own (C := 58) (N := 57) (fI := 55) (ns := [Str.ofString "text"]) ?_
    k_steps
    unfold StopT
    refine' mk_short (by assumption) (by assumption) (by assumption) (by assumption) (by assumption) rfl ?hd ?hu ?hs
    case hd => exact room (k := 2) hd rfl
    case hu => exact roomU (k := 16) hu rfl
    intro h2 e t2 dx od tk2 F2 N2 n1 n2
    refine ⟨_, _, _, _, rfl, (short_cls X').keeps F2.keep, (N2 _ (.head _)).1, wpAny_raiseNew_none rfl ?_⟩
    refine throw_first (oe := excO (.ref 58) t2 (some dx) .none) (kp := news) (by assumption) F2 (fun p hp => ?_) rfl rfl rfl n1 fun h3 R => he hlen _ _ _ _ _ FG' R
    rcases List.mem_cons.mp hp with rfl | hp
    · exact N2 _ (.head _)
    · exact N2 _ (.tail _ (.tail _ hp))
  · have hk := hoc.getD at_
    obtain ⟨t9, hx, hj, hi0, hi4⟩ := sizes_at hk.1 hk.2 336 337 338 339
    have hvs := vsize_bound hk.1 hk.2
    rename Fr _ _ _ _ => lF'
    refine item_tuple (items := ([Value.int 1 336, Value.int 2 337, Value.int 4 338, Value.int 8 339] : List Value).toArray) (j := ((ks.getD at_ 0).fdiv 64).toNat) ⟨_, lF'.keep _ _ (X' 62 (tupO [Value.int 1 336, Value.int 2 337, Value.int 4 338, Value.int 8 339] 0) (by k_is)), rfl, _, rfl⟩ (by simp only [Int.toNat_natCast]; show _ ≤ (ks.getD at_ 0).fdiv 64; omega) (by simp only [Int.toNat_natCast]; show (ks.getD at_ 0).fdiv 64 < _; omega) hj (by rw [List.getElem?_toArray]; exact hx) ?_
    k_steps
    unfold StopT
    try dsimp only at *
    refine' p_whole (by assumption) (by assumption) (by assumption) (by assumption) (by assumption) rfl ?hd2 ?hu2 hb hbl ?he2 ?hs2
    case hd2 => exact room (k := 4) hd rfl
    case hu2 => exact roomU (k := 32) hu rfl
    case he2 =>
      intro hw g e dd h2 tk2 F2 R
      have hv : vint ks at_ = none := by unfold vint; rw [if_neg (by omega), if_pos (by omega)]
      refine throw_next (by assumption) F2 R fun h3 R3 => he hv _ _ _ _ _ FG' R3
    case hs2 =>
      intro hw t h2 tk2 F2 N2
      have hv : vint ks at_ = some (vfold ((ks.getD at_ 0).fmod 64) ((ks.drop (at_ + 1)).take (vsize (ks.getD at_ 0) - 1)), at_ + vsize (ks.getD at_ 0)) := by
        unfold vint; rw [if_neg (by omega), if_neg (by omega)]
      have hmask := vint_mask hoc hw
      have hs' := hs _ _ hv
      rw [← hmask] at hs'
      k_steps
      rename Fr h₀ _ _ _ => lF2
      rename News h₀ _ _ _ => lN2
      rename ∀ p ∈ news, p.1 < _ => lL
      rw [← Int.natCast_add] at lN2
      exact hs' _ _ _ _ _ lF2 lN2 lL
end
section
end
end
/-! V11 -/
section
section
variable {w : World} {mean : ExcName → Option Value} {mg mb : Str → Option Value} {A₀ : Around} {base h₀ : Heap} {outer : List Env} {L : Addr} {m : Str → Option Value} {news : List (Addr × Obj)} {h : Heap} {gs : Array GenState} {dr : Drawn} {tk : Nat} {os : OsState} {cs : Scope}
    {dp un : Nat} {gd : Option (List Code)} {cn : Str} {a : Addr} {ccd : Value} {cl : List (Str × Addr)} {Q E : Value → Shared → Prop}
end
noncomputable abbrev rdO (w : World) (t1 t2 : Tok) (b : Array UInt8) (tb : Tok) (at_ : Nat) (ta : Tok) : Obj :=
  dictOf [⟨PyData.keyHash w.params (Str.ofString "data"), .str (Str.ofString "data") t1, .bytes b tb⟩, ⟨PyData.keyHash w.params (Str.ofString "at"), .str (Str.ofString "at") t2, .int (at_ : Int) ta⟩] 2
section
variable {w : World} {mean : ExcName → Option Value} {mg mb : Str → Option Value} {A₀ : Around} {base h₀ : Heap} {outer : List Env} {L : Addr} {m : Str → Option Value} {news : List (Addr × Obj)} {h : Heap} {gs : Array GenState} {dr : Drawn} {tk : Nat} {os : OsState} {cs : Scope}
    {dp un : Nat} {gd : Option (List Code)} {cn : Str} {a : Addr} {ccd : Value} {cl : List (Str × Addr)} {Q E : Value → Shared → Prop}
set_option maxHeartbeats 40000000 in
theorem p_varint {x dx : Addr} {t1 t2 : Tok} {b : Array UInt8} {ks : List Int} {tb ta : Tok} {at_ : Nat} (B : Below A₀ base outer h₀) (F : Fr h₀ L h m) (X : (Mine.hd.heap_39 w.params).In h₀) (N : News h₀ L h ((x, instObj 135 dx) :: (dx, rdO w t1 t2 b tb at_ ta) :: news)) (T : Top0 mean mg mb h₀) (hk : cs.kind = .function) (hd : dp + 6 < recursionLimit) (hu : un + 48 < cLine)
    (hb : KBw.bInts b = ks) (hbl : ks.length ≤ 100) (hxd : x ≠ dx) (hdx : ∀ p ∈ news, p.1 ≠ dx)
    (he : vint ks at_ = none → EShort E base h₀ L m (envX cn cs L a ccd cl :: outer) news gs dr os)
    (hs : ∀ n e, vint ks at_ = some (n, e) → ∀ t u h' tk', Fr h₀ L h' m → News h₀ L h' ((x, instObj 135 dx) :: (dx, rdO w t1 t2 b tb e u) :: news) → Q (.int n t) ⟨h', gs, dr, tk', os⟩) :
    wpAny (model Challenge.rw_no0080_01.row.prog w) (ktrTop dp un gd cn cs L a ccd cl outer) (call (.ref 132) [.ref x]) Q E ⟨h, gs, dr, tk, os⟩ := by
  refine wpAny_call ?_
  refine' code_def (binds := [(Str.ofString "self", .ref x)]) B F X N T rfl rfl hk ?k6 ?k7 ?k8 ?k9 ?kB ?_ ?c2 ?c3 ?c4 ?c5
  (( (case k6 => k_is); (case k7 => k_is); (case k8 => exact room0 (by assumption)); (case k9 => exact BindsTo.of_eq rfl); (case c5 => decide); (case kB => exact locs rfl); (case c2 => exact rfl); (case c3 => exact rfl); (case c4 => exact rfl)))
  intro g' L' h' FG' F' N' B' X' T'
  k_fold
  refine let_goal ?_
  intro A1 Q1 E1
  k_steps
  unfold StopT
  try dsimp only at *
  refine' p_gv (by assumption) (by assumption) (by assumption) (by assumption) (by assumption) rfl ?hd ?hu hb hbl ?he ?hs
  case hd => exact room (k := 5) hd rfl
  case hu => exact roomU (k := 40) hu rfl
  case he =>
    intro hv g e dd h2 tk2 F2 R
    refine throw_next (by assumption) F2 (R.less (kp' := news) fun q hq => .tail _ (.tail _ hq)) fun h3 R3 => he hv _ _ _ _ _ FG' R3
  case hs =>
    intro n e hv y t u h2 tk2 F2 N2 l2
    have hs' := hs _ _ hv
    k_steps
    try dsimp only at *
    refine' set_dict ?k1 ?k2 ?k3 ?k4 ?k5 ?k6 ?k7 ?k8 ?k9 ?k10 ?k11 ?k12 ?k13 ?_
    case k1 => k_asm
    case k2 => k_asm
    case k3 => k_asm
    case k4 => k_inst
    case k5 => exact rfl
    case k6 => k_is
    case k7 => k_is
    case k8 => k_is
    case k9 => k_is
    case k10 => k_get
    case k11 => k_put
    case k12 => exact .tail (Nat.ne_of_gt (l2 _ (.tail _ (.head _)))) (.tail hxd (.head hdx))
    case k13 => exact Nat.le_of_ble_eq_true rfl
    k_whole
    intro h' F' N'
    try k_sweep
    k_steps
    exact hs' _ _ _ _ (by assumption) (cb_drop (by assumption) (fun p hp => List.Mem.tail _ hp))
set_option maxHeartbeats 40000000 in
theorem p_left {x dx : Addr} {t1 t2 : Tok} {b : Array UInt8} {ks : List Int} {tb ta : Tok} {at_ : Nat} (B : Below A₀ base outer h₀) (F : Fr h₀ L h m) (X : (Mine.hd.heap_39 w.params).In h₀) (N : News h₀ L h ((x, instObj 135 dx) :: (dx, rdO w t1 t2 b tb at_ ta) :: news)) (T : Top0 mean mg mb h₀) (hk : cs.kind = .function) (hd : dp + 1 < recursionLimit) (hu : un + 8 < cLine)
    (hb : KBw.bInts b = ks) (hbl : ks.length ≤ 100)
    (hs : ∀ t h' tk', Fr h₀ L h' m → News h₀ L h' ((x, instObj 135 dx) :: (dx, rdO w t1 t2 b tb at_ ta) :: news) → Q (.int ((ks.length : Int) - (at_ : Int)) t) ⟨h', gs, dr, tk', os⟩) :
    wpAny (model Challenge.rw_no0080_01.row.prog w) (ktrTop dp un gd cn cs L a ccd cl outer) (call (.ref 104) [.ref x]) Q E ⟨h, gs, dr, tk, os⟩ := by
  refine wpAny_call ?_
  refine' code_def (binds := [(Str.ofString "self", .ref x)]) B F X N T rfl rfl hk ?k6 ?k7 ?k8 ?k9 ?kB ?_ ?c2 ?c3 ?c4 ?c5
  (( (case k6 => k_is); (case k7 => k_is); (case k8 => exact room0 (by assumption)); (case k9 => exact BindsTo.of_eq rfl); (case c5 => decide); (case kB => exact locs rfl); (case c2 => exact rfl); (case c3 => exact rfl); (case c4 => exact rfl)))
  intro g' L' h' FG' F' N' B' X' T'
  k_fold
  refine let_goal ?_
  intro A1 Q1 E1
  k_steps
  exact hs _ _ _ (by assumption) (cb_drop (by assumption) (by (first | ((repeat' (first | exact sub_refl | exact sub_nil | (refine sub_cons ?_ ?_; focus (((repeat (first | exact List.Mem.head _ | refine List.Mem.tail _ ?_))); done)) | refine sub_tail ?_)); done) | (intro p hp; (try simp only [List.mem_cons, List.mem_append, List.cons_append, List.nil_append, List.append_assoc, List.not_mem_nil, or_false, false_or] at hp ⊢); first | assumption | grind))))
end
section
end
end
/-! V12 -/
section
section
variable {w : World} {mean : ExcName → Option Value} {mg mb : Str → Option Value} {A₀ : Around} {base h₀ : Heap} {outer : List Env} {L : Addr} {m : Str → Option Value} {news : List (Addr × Obj)} {h : Heap} {gs : Array GenState} {dr : Drawn} {tk : Nat} {os : OsState} {cs : Scope}
    {dp un : Nat} {gd : Option (List Code)} {cn : Str} {a : Addr} {ccd : Value} {cl : List (Str × Addr)} {Q E : Value → Shared → Prop}
end
section
variable {w : World} {mean : ExcName → Option Value} {mg mb : Str → Option Value} {A₀ : Around} {base h₀ : Heap} {outer : List Env} {L : Addr} {m : Str → Option Value} {news : List (Addr × Obj)} {h : Heap} {gs : Array GenState} {dr : Drawn} {tk : Nat} {os : OsState} {cs : Scope}
    {dp un : Nat} {gd : Option (List Code)} {cn : Str} {a : Addr} {ccd : Value} {cl : List (Str × Addr)} {Q E : Value → Shared → Prop}
theorem rd_set {A : Around} {s : Shared} {Q : Unit → Shared → Prop} {x dx : Addr} {t1 t2 : Tok} {b : Array UInt8} {tb ta t : Tok} {at_ n : Nat} {v : Int} (hv : v = (n : Int)) (F : Fr h₀ L s.heap m) (X' : (Mine.hd.heap_39 w.params).In h₀) (N : News h₀ L s.heap ((x, instObj 135 dx) :: (dx, rdO w t1 t2 b tb at_ ta) :: news)) (hxd : x ≠ dx) (hdx : ∀ p ∈ news, p.1 ≠ dx)
    (k : ∀ h', Fr h₀ L h' m → News h₀ L h' ((x, instObj 135 dx) :: (dx, rdO w t1 t2 b tb n t) :: news) → Q () { s with heap := h', toks := s.toks + 2 }) :
    wpAny (model Challenge.rw_no0080_01.row.prog w) A (setAttr (.ref x) (Str.ofString "at") (.int v t)) Q E s := by
  subst hv
  refine' set_dict ?k1 ?k2 ?k3 ?k4 ?k5 ?k6 ?k7 ?k8 ?k9 ?k10 ?k11 ?k12 ?k13 ?_
  case k1 => k_asm
  case k2 => k_asm
  case k3 => k_asm
  case k4 => k_inst
  case k5 => exact rfl
  case k6 => k_is
  case k7 => k_is
  case k8 => k_is
  case k9 => k_is
  case k10 => k_get
  case k11 => k_put
  case k12 => exact .tail hxd (.head hdx)
  case k13 => exact Nat.le_of_ble_eq_true rfl
  exact fun h' F' N' => k h' F' N'
set_option maxHeartbeats 40000000 in
theorem p_take {x dx : Addr} {t1 t2 : Tok} {b : Array UInt8} {ks : List Int} {tb ta tm : Tok} {at_ many : Nat} (B : Below A₀ base outer h₀) (F : Fr h₀ L h m) (X : (Mine.hd.heap_39 w.params).In h₀) (N : News h₀ L h ((x, instObj 135 dx) :: (dx, rdO w t1 t2 b tb at_ ta) :: news)) (T : Top0 mean mg mb h₀) (hk : cs.kind = .function) (hd : dp + 4 < recursionLimit) (hu : un + 32 < cLine)
    (hb : KBw.bInts b = ks) (hbl : ks.length ≤ 100) (hxd : x ≠ dx) (hdx : ∀ p ∈ news, p.1 ≠ dx)
    (he : ks.length < at_ + many → EShort E base h₀ L m (envX cn cs L a ccd cl :: outer) news gs dr os)
    (hs : at_ + many ≤ ks.length → ∀ b' t u h' tk', KBw.bInts b' = (ks.drop at_).take many → Fr h₀ L h' m → News h₀ L h' ((x, instObj 135 dx) :: (dx, rdO w t1 t2 b tb (at_ + many) u) :: news) → Q (.bytes b' t) ⟨h', gs, dr, tk', os⟩) :
    wpAny (model Challenge.rw_no0080_01.row.prog w) (ktrTop dp un gd cn cs L a ccd cl outer) (call (.ref 111) [.ref x, .int (many : Int) tm]) Q E ⟨h, gs, dr, tk, os⟩ := by
  refine wpAny_call ?_
  refine' code_def (binds := [(Str.ofString "self", .ref x), (Str.ofString "many", .int (many : Int) tm)]) B F X N T rfl rfl hk ?k6 ?k7 ?k8 ?k9 ?kB ?_ ?c2 ?c3 ?c4 ?c5
  (( (case k6 => k_is); (case k7 => k_is); (case k8 => exact room0 (by assumption)); (case k9 => exact BindsTo.of_eq rfl); (case c5 => decide); (case kB => exact locs rfl); (case c2 => exact rfl); (case c3 => exact rfl); (case c4 => exact rfl)))
  intro g' L' h' FG' F' N' B' X' T'
  k_fold
  refine let_goal ?_
  intro A1 Q1 E1
  k_steps
  unfold StopT
  try dsimp only at *
  refine' p_left (by assumption) (by assumption) (by assumption) (by assumption) (by assumption) rfl ?hd ?hu hb hbl ?hs
  case hd => exact room (k := 1) hd rfl
  case hu => exact roomU (k := 8) hu rfl
  intro t3 h3 tk3 F3 N3
  k_steps
  · have hlen : ks.length < at_ + many := by omega
    unfold StopT
    refine raise_own (C := 58) (N := 57) (fI := 55) (ns := [Str.ofString "text"]) ?_
    k_steps
    unfold StopT
    refine' mk_short (by assumption) (by assumption) (by assumption) (by assumption) (by assumption) rfl ?hd1 ?hu1 ?hs1
    case hd1 => exact room (k := 2) hd rfl
    case hu1 => exact roomU (k := 16) hu rfl
    intro h2 e t2 dx od tk2 F2 N2 n1 n2
    refine ⟨_, _, _, _, rfl, (short_cls X').keeps F2.keep, (N2 _ (.head _)).1, wpAny_raiseNew_none rfl ?_⟩
    refine throw_first (oe := excO (.ref 58) t2 (some dx) .none) (kp := news) (by assumption) F2 (fun p hp => ?_) rfl rfl rfl (fun q hq => n1 _ (.tail _ (.tail _ hq))) fun h3 R => he hlen _ _ _ _ _ FG' R
    rcases List.mem_cons.mp hp with rfl | hp
    · exact N2 _ (.head _)
    · exact N2 _ (.tail _ (.tail _ (.tail _ (.tail _ hp))))
  have hlen : at_ + many ≤ ks.length := by omega
  refine rd_set (n := at_ + many) (by omega) (by assumption) (by assumption) (by assumption) hxd hdx fun h4 F4 N4 => ?_
  k_steps
  try dsimp only at *
  rename KBw.bInts (KBy.picked _ _ _) = _ => hc
  have hcl : clipAt ks.length (((at_ + many : Nat) : Int) - (many : Int)) = at_ := by
    rw [show (((at_ + many : Nat) : Int) - (many : Int)) = (at_ : Int) by omega, clipAt_nat]; omega
  have hcr : min (at_ + many) ks.length = at_ + many := by omega
  rw [hcl, hcr, show at_ + many - at_ = many by omega] at hc
  exact hs hlen _ _ _ _ _ hc (by assumption) (cb_drop (by assumption) (by (first | ((repeat' (first | exact sub_refl | exact sub_nil | (refine sub_cons ?_ ?_; focus (((repeat (first | exact List.Mem.head _ | refine List.Mem.tail _ ?_))); done)) | refine sub_tail ?_)); done) | (intro p hp; (try simp only [List.mem_cons, List.mem_append, List.cons_append, List.nil_append, List.append_assoc, List.not_mem_nil, or_false, false_or] at hp ⊢); first | assumption | grind))))
set_option maxHeartbeats 40000000 in
theorem p_wholem {x dx : Addr} {t1 t2 : Tok} {b : Array UInt8} {ks : List Int} {tb ta tm : Tok} {at_ many : Nat} (B : Below A₀ base outer h₀) (F : Fr h₀ L h m) (X : (Mine.hd.heap_39 w.params).In h₀) (N : News h₀ L h ((x, instObj 135 dx) :: (dx, rdO w t1 t2 b tb at_ ta) :: news)) (T : Top0 mean mg mb h₀) (hk : cs.kind = .function) (hd : dp + 5 < recursionLimit) (hu : un + 40 < cLine)
    (hb : KBw.bInts b = ks) (hbl : ks.length ≤ 100) (hxd : x ≠ dx) (hdx : ∀ p ∈ news, p.1 ≠ dx)
    (he : ks.length < at_ + many → EShort E base h₀ L m (envX cn cs L a ccd cl :: outer) news gs dr os)
    (hs : at_ + many ≤ ks.length → ∀ t u h' tk', Fr h₀ L h' m → News h₀ L h' ((x, instObj 135 dx) :: (dx, rdO w t1 t2 b tb (at_ + many) u) :: news) → Q (.int (vfold 0 ((ks.drop at_).take many)) t) ⟨h', gs, dr, tk', os⟩) :
    wpAny (model Challenge.rw_no0080_01.row.prog w) (ktrTop dp un gd cn cs L a ccd cl outer) (call (.ref 125) [.ref x, .int (many : Int) tm]) Q E ⟨h, gs, dr, tk, os⟩ := by
  refine wpAny_call ?_
  refine' code_def (binds := [(Str.ofString "self", .ref x), (Str.ofString "size", .int (many : Int) tm)]) B F X N T rfl rfl hk ?k6 ?k7 ?k8 ?k9 ?kB ?_ ?c2 ?c3 ?c4 ?c5
  (( (case k6 => k_is); (case k7 => k_is); (case k8 => exact room0 (by assumption)); (case k9 => exact BindsTo.of_eq rfl); (case c5 => decide); (case kB => exact locs rfl); (case c2 => exact rfl); (case c3 => exact rfl); (case c4 => exact rfl)))
  intro g' L' h' FG' F' N' B' X' T'
  k_fold
  refine let_goal ?_
  intro A1 Q1 E1
  k_steps
  unfold StopT
  try dsimp only at *
  refine' p_whole (by assumption) (by assumption) (by assumption) (by assumption) (by assumption) rfl ?hd ?hu hb hbl ?he ?hs
  case hd => exact room (k := 4) hd rfl
  case hu => exact roomU (k := 32) hu rfl
  case he =>
    intro hw g e dd h2 tk2 F2 R
    refine throw_next (by assumption) F2 (R.less (kp' := news) fun q hq => .tail _ (.tail _ hq)) fun h3 R3 => he hw _ _ _ _ _ FG' R3
  case hs =>
    intro hw t h2 tk2 F2 N2
    k_steps
    refine rd_set (n := at_ + many) (by omega) (by assumption) (by assumption) (by assumption) hxd hdx fun h4 F4 N4 => ?_
    k_steps
    exact hs hw _ _ _ _ (by assumption) (cb_drop (by assumption) (by (first | ((repeat' (first | exact sub_refl | exact sub_nil | (refine sub_cons ?_ ?_; focus (((repeat (first | exact List.Mem.head _ | refine List.Mem.tail _ ?_))); done)) | refine sub_tail ?_)); done) | (intro p hp; (try simp only [List.mem_cons, List.mem_append, List.cons_append, List.nil_append, List.append_assoc, List.not_mem_nil, or_false, false_or] at hp ⊢); first | assumption | grind))))
end
section
end
end
/-! V13 -/
section
section
variable {w : World} {mean : ExcName → Option Value} {mg mb : Str → Option Value} {A₀ : Around} {base h₀ : Heap} {outer : List Env} {L : Addr} {m : Str → Option Value} {news : List (Addr × Obj)} {h : Heap} {gs : Array GenState} {dr : Drawn} {tk : Nat} {os : OsState} {cs : Scope}
    {dp un : Nat} {gd : Option (List Code)} {cn : Str} {a : Addr} {ccd : Value} {cl : List (Str × Addr)} {Q E : Value → Shared → Prop}
end
section
variable {w : World} {mean : ExcName → Option Value} {mg mb : Str → Option Value} {A₀ : Around} {base h₀ : Heap} {outer : List Env} {L : Addr} {m : Str → Option Value} {news : List (Addr × Obj)} {h : Heap} {gs : Array GenState} {dr : Drawn} {tk : Nat} {os : OsState} {cs : Scope}
    {dp un : Nat} {gd : Option (List Code)} {cn : Str} {a : Addr} {ccd : Value} {cl : List (Str × Addr)} {Q E : Value → Shared → Prop}
set_option maxHeartbeats 40000000 in
theorem p_make {b : Array UInt8} {tb : Tok} (B : Below A₀ base outer h₀) (F : Fr h₀ L h m) (X : (Mine.hd.heap_39 w.params).In h₀) (N : News h₀ L h news) (T : Top0 mean mg mb h₀) (hk : cs.kind = .function) (hd : dp + 2 < recursionLimit) (hu : un + 16 < cLine)
    (hs : ∀ x dx t1 t2 ta h' tk', dx < x → (∀ p ∈ news, p.1 < dx) → Fr h₀ L h' m → News h₀ L h' ((x, instObj 135 dx) :: (dx, rdO w t1 t2 b tb 0 ta) :: news) → Q (.ref x) ⟨h', gs, dr, tk', os⟩) :
    wpAny (model Challenge.rw_no0080_01.row.prog w) (ktrTop dp un gd cn cs L a ccd cl outer) (call (.ref 135) [.bytes b tb]) Q E ⟨h, gs, dr, tk, os⟩ := by
  refine wpAny_call (make_K (fI := 97) F N (X.keeps F.keep) (by k_is) (by k_is) (by k_is) fun x dx h1 F1 N1 l1 l2 => ?_)
  obtain ⟨gd', hg'⟩ := und (dp := dp) (un := un) (gd := gd) (cn := cn) (cs := cs) (L := L) (a := a) (ccd := ccd) (cl := cl) (outer := outer) (hh := none) (C := 135) (vals := [.bytes b tb])
  rw [hg']
  refine' code_def (binds := [(Str.ofString "self", .ref x), (Str.ofString "data", .bytes b tb)]) B F1 X N1 T rfl rfl hk ?k6 ?k7 ?k8 ?k9 ?kB ?_ ?c2 ?c3 ?c4 ?c5
  (case k8 => exact room (k := 0) hd rfl)
  (case k6 => k_is); (case k7 => k_is); (case k9 => exact BindsTo.of_eq rfl); (case c5 => decide); (case kB => exact locs rfl); (case c2 => exact rfl); (case c3 => exact rfl); (case c4 => exact rfl)
  intro g' L' h' FG' F' N' B' X' T'
  k_fold
  refine let_goal ?_
  intro A1 Q1 E1
  have N0 : News g' L' h' ((x, instObj 135 dx) :: (dx, dictOf [] 0) :: news) := N'
  clear N'
  have hxd : x ≠ dx := Nat.ne_of_gt l2
  have hdx : ∀ p ∈ news, p.1 ≠ dx := fun p hp => Nat.ne_of_lt (l1 p hp)
  k_steps
  rename News h₀ _ _ _ => lN
  dsimp only [InitBack]; (try refine ⟨rfl, ?_⟩); (try dsimp only)
  exact hs _ _ _ _ _ _ _ l2 l1 (by assumption) lN
end
section
end
end
/-! W2 -/
section
section
variable {w : World} {mean : ExcName → Option Value} {mg mb : Str → Option Value} {A₀ : Around} {base h₀ : Heap} {outer : List Env} {L : Addr} {m : Str → Option Value} {news : List (Addr × Obj)} {h : Heap} {gs : Array GenState} {dr : Drawn} {tk : Nat} {os : OsState} {cs : Scope}
    {dp un : Nat} {gd : Option (List Code)} {cn : Str} {a : Addr} {ccd : Value} {cl : List (Str × Addr)} {Q E : Value → Shared → Prop}
end
section
variable {w : World} {mean : ExcName → Option Value} {mg mb : Str → Option Value} {A₀ : Around} {base h₀ : Heap} {outer : List Env} {L : Addr} {m : Str → Option Value} {news : List (Addr × Obj)} {h : Heap} {gs : Array GenState} {dr : Drawn} {tk : Nat} {os : OsState} {cs : Scope}
    {dp un : Nat} {gd : Option (List Code)} {cn : Str} {a : Addr} {ccd : Value} {cl : List (Str × Addr)} {Q E : Value → Shared → Prop}
def Long (at_ e : Nat) (n : Int) : Prop := (e - at_ > 1 ∧ n < 64) ∨ (e - at_ > 2 ∧ n < 16384) ∨ (e - at_ > 4 ∧ n < 2 ^ 30)
theorem long_yes {d : Nat} {n k : Int} (hf : d = 1 ∧ n < 64 ∨ d = 2 ∧ n < 16384 ∨ d = 4 ∧ n < 1073741824 ∨ d = 8) (hk : k = 1 ∧ n < 64 ∨ k = 2 ∧ 64 ≤ n ∧ n < 16384 ∨ k = 4 ∧ 16384 ≤ n ∧ n < 1073741824 ∨ k = 8 ∧ 1073741824 ≤ n) (h : (d : Int) ≠ k) :
    (d > 1 ∧ n < 64) ∨ (d > 2 ∧ n < 16384) ∨ (d > 4 ∧ n < 2 ^ 30) := by
  have big {a b : Int} (q : n < a) (p : b ≤ n) (r : a ≤ b) : False := absurd (Int.lt_of_lt_of_le q (Int.le_trans r p)) (Int.lt_irrefl _)
  rcases hk with ⟨rfl, hn⟩ | ⟨rfl, h1, hn⟩ | ⟨rfl, h1, hn⟩ | ⟨rfl, h1⟩
  · refine .inl ⟨?_, hn⟩
    rcases hf with ⟨rfl, _⟩ | ⟨rfl, _⟩ | ⟨rfl, _⟩ | rfl
    · exact absurd rfl h
    · exact by decide
    · exact by decide
    · exact by decide
  · refine .inr (.inl ⟨?_, hn⟩)
    rcases hf with ⟨rfl, q⟩ | ⟨rfl, _⟩ | ⟨rfl, _⟩ | rfl
    · exact (big q h1 (by decide)).elim
    · exact absurd rfl h
    · exact by decide
    · exact by decide
  · refine .inr (.inr ⟨?_, hn⟩)
    rcases hf with ⟨rfl, q⟩ | ⟨rfl, q⟩ | ⟨rfl, _⟩ | rfl
    · exact (big q h1 (by decide)).elim
    · exact (big q h1 (by decide)).elim
    · exact absurd rfl h
    · exact by decide
  · rcases hf with ⟨rfl, q⟩ | ⟨rfl, q⟩ | ⟨rfl, q⟩ | rfl
    · exact (big q h1 (by decide)).elim
    · exact (big q h1 (by decide)).elim
    · exact (big q h1 (by decide)).elim
    · exact absurd rfl h
theorem long_not {d : Nat} {n k : Int} (hk : k = 1 ∧ n < 64 ∨ k = 2 ∧ 64 ≤ n ∧ n < 16384 ∨ k = 4 ∧ 16384 ≤ n ∧ n < 1073741824 ∨ k = 8 ∧ 1073741824 ≤ n) (h : (d : Int) = k) :
    ¬ ((d > 1 ∧ n < 64) ∨ (d > 2 ∧ n < 16384) ∨ (d > 4 ∧ n < 2 ^ 30)) := by
  have big {a b : Int} (q : n < a) (p : b ≤ n) (r : a ≤ b) : False := absurd (Int.lt_of_lt_of_le q (Int.le_trans r p)) (Int.lt_irrefl _)
  have up {m c : Nat} (hm : (d : Int) = m) (q : d > c) (r : m ≤ c) : False := absurd (Nat.lt_of_lt_of_le q ((Int.ofNat.inj hm).symm ▸ r)) (Nat.lt_irrefl _)
  rintro (⟨q, p⟩ | ⟨q, p⟩ | ⟨q, p⟩) <;> rcases hk with ⟨rfl, hn⟩ | ⟨rfl, h1, hn⟩ | ⟨rfl, h1, hn⟩ | ⟨rfl, h1⟩
  · exact up (m := 1) h q (by decide)
  · exact big p h1 (by decide)
  · exact big p h1 (by decide)
  · exact big p h1 (by decide)
  · exact up (m := 1) h q (by decide)
  · exact up (m := 2) h q (by decide)
  · exact big p h1 (by decide)
  · exact big p h1 (by decide)
  · exact up (m := 1) h q (by decide)
  · exact up (m := 2) h q (by decide)
  · exact up (m := 4) h q (by decide)
  · exact big p h1 (by decide)
theorem fit_sub {at_ e : Nat} {n : Int} (h : e = at_ + 1 ∧ n < 64 ∨ e = at_ + 2 ∧ n < 16384 ∨ e = at_ + 4 ∧ n < 1073741824 ∨ e = at_ + 8) : e - at_ = 1 ∧ n < 64 ∨ e - at_ = 2 ∧ n < 16384 ∨ e - at_ = 4 ∧ n < 1073741824 ∨ e - at_ = 8 := by
  rcases h with ⟨rfl, q⟩ | ⟨rfl, q⟩ | ⟨rfl, q⟩ | rfl
  · exact .inl ⟨Nat.add_sub_cancel_left _ _, q⟩
  · exact .inr (.inl ⟨Nat.add_sub_cancel_left _ _, q⟩)
  · exact .inr (.inr (.inl ⟨Nat.add_sub_cancel_left _ _, q⟩))
  · exact .inr (.inr (.inr (Nat.add_sub_cancel_left _ _)))
set_option maxHeartbeats 40000000 in
theorem p_type {x dx : Addr} {t1 t2 : Tok} {b : Array UInt8} {ks : List Int} {tb ta : Tok} {at_ : Nat} (B : Below A₀ base outer h₀) (F : Fr h₀ L h m) (X : (Mine.hd.heap_39 w.params).In h₀) (N : News h₀ L h ((x, instObj 135 dx) :: (dx, rdO w t1 t2 b tb at_ ta) :: news)) (T : Top0 mean mg mb h₀) (hk : cs.kind = .function) (hd : dp + 7 < recursionLimit) (hu : un + 56 < cLine)
    (hb : KBw.bInts b = ks) (hbl : ks.length ≤ 100) (hxd : x ≠ dx) (hdx : ∀ p ∈ news, p.1 ≠ dx)
    (he : vint ks at_ = none → EShort E base h₀ L m (envX cn cs L a ccd cl :: outer) news gs dr os)
    (hq : ∀ n e, vint ks at_ = some (n, e) → Long at_ e n → EQuic E base h₀ L m (envX cn cs L a ccd cl :: outer) news gs dr os 10)
    (hs : ∀ n e, vint ks at_ = some (n, e) → ¬ Long at_ e n → ∀ t u h' tk', Fr h₀ L h' m → News h₀ L h' ((x, instObj 135 dx) :: (dx, rdO w t1 t2 b tb e u) :: news) → Q (.int n t) ⟨h', gs, dr, tk', os⟩) :
    wpAny (model Challenge.rw_no0080_01.row.prog w) (ktrTop dp un gd cn cs L a ccd cl outer) (call (.ref 168) [.ref x]) Q E ⟨h, gs, dr, tk, os⟩ := by
  have hoc := oct_of hb
  refine wpAny_call ?_
  refine' code_def (binds := [(Str.ofString "reader", .ref x)]) B F X N T rfl rfl hk ?k6 ?k7 ?k8 ?k9 ?kB ?_ ?c2 ?c3 ?c4 ?c5
  (( (case k6 => k_is); (case k7 => k_is); (case k8 => exact room0 (by assumption)); (case k9 => exact BindsTo.of_eq rfl); (case c5 => decide); (case kB => exact locs rfl); (case c2 => exact rfl); (case c3 => exact rfl); (case c4 => exact rfl)))
  intro g' L' h' FG' F' N' B' X' T'
  k_fold
  refine let_goal ?_
  intro A1 Q1 E1
  k_steps
  unfold StopT
  try dsimp only at *
  refine' p_varint (by assumption) (by assumption) (by assumption) (by assumption) (by assumption) rfl ?hd ?hu hb hbl hxd hdx ?he ?hs
  case hd => exact room (k := 6) hd rfl
  case hu => exact roomU (k := 48) hu rfl
  case he =>
    intro hv g e dd h2 tk2 F2 R
    refine throw_next (by assumption) F2 R fun h3 R3 => he hv _ _ _ _ _ FG' R3
  case hs =>
    intro n e hv t u h2 tk2 F2 N2
    have hvb := vint_bound hoc hv
    have hvf := vint_fit hoc hv
    k_steps
    unfold StopT
    try dsimp only at *
    refine' p_size (by assumption) (by assumption) (by assumption) (by assumption) (by assumption) rfl ?hd1 ?hu1 hvb.1 hvb.2.1 ?hs1
    case hd1 => exact room (k := 4) hd rfl
    case hu1 => exact roomU (k := 32) hu rfl
    intro k t3 h3 tk3 hkk F3 N3
    k_steps
    · have hlong : Long at_ e n := long_yes (fit_sub hvf) hkk (by rw [Int.ofNat_sub (Nat.le_of_lt hvb.2.2.1)]; assumption)
      unfold StopT
      refine raise_own (C := 38) (N := 37) (fI := 35) (ns := [Str.ofString "code", Str.ofString "frame_type", Str.ofString "text", Str.ofString "__getattribute__", Str.ofString "__getattr__"]) ?_
      k_steps
      unfold StopT
      refine' mk_quic (by assumption) (by assumption) (by assumption) (by assumption) (by assumption) rfl ?hd2 ?hu2 (by decide) (by decide) (by decide) (by decide) ?hs2
      case hd2 => exact room (k := 2) hd rfl
      case hu2 => exact roomU (k := 16) hu rfl
      intro h2 e2 t2 dx2 od tk2 mA F2 N2 n1 n2 hO hcd
      refine ⟨_, _, _, _, rfl, (quic_cls X').keeps F2.keep, (N2 _ (.head _)).1, wpAny_raiseNew_none rfl ?_⟩
      refine throw_first (oe := excO (.ref 38) t2 (some dx2) .none) (kp := (dx2, od) :: news) (by assumption) F2 (fun p hp => ?_) rfl rfl rfl (fun q hq => ?_) fun h3 R => hq n e hv hlong _ _ _ _ _ _ _ _ _ FG' R hO hcd
      · rcases List.mem_cons.mp hp with rfl | hp
        · exact N2 _ (.head _)
        · rcases List.mem_cons.mp hp with rfl | hp
          · exact N2 _ (.tail _ (.head _))
          · exact N2 _ (.tail _ (.tail _ (.tail _ (.tail _ hp))))
      · rcases List.mem_cons.mp hq with rfl | hq
        · exact n2
        · exact n1 _ (.tail _ (.tail _ hq))
    · have hlong : ¬ Long at_ e n := long_not hkk (by rw [Int.ofNat_sub (Nat.le_of_lt hvb.2.2.1)]; assumption)
      exact hs n e hv hlong _ _ _ _ (by assumption) (by assumption)
end
section
end
end
/-! W3 -/
section
section
variable {w : World} {mean : ExcName → Option Value} {mg mb : Str → Option Value} {A₀ : Around} {base h₀ : Heap} {outer : List Env} {L : Addr} {m : Str → Option Value} {news : List (Addr × Obj)} {h : Heap} {gs : Array GenState} {dr : Drawn} {tk : Nat} {os : OsState} {cs : Scope}
    {dp un : Nat} {gd : Option (List Code)} {cn : Str} {a : Addr} {ccd : Value} {cl : List (Str × Addr)} {Q E : Value → Shared → Prop}
end
section
variable {M : Model} {A : Around} {E0 : Value → Shared → Prop} {E1 : Value → Shared → Prop} {base g h₀ : Heap} {outer : List Env} {L L₁ a : Addr} {m m₁ : Str → Option Value} {name : Str} {scope : Scope} {cd : Value} {news news' : List (Addr × Obj)} {gs : Array GenState} {dr : Drawn} {os : OsState}
theorem short_next (K : Below A base outer g) (FG : Fr h₀ L g m) (he : EShort E0 base h₀ L m outer news gs dr os) (hsub : ∀ q ∈ news, q ∈ news') :
    EShort (fun e s' => wpAny M (A.deeper (envOf name scope L₁ a cd)) (leaving (envOf name scope L₁ a cd) e) (fun _ s'' => E0 e s'') (fun e' s'' => E1 e' s'') s') base g L₁ m₁ (envOf name scope L₁ a cd :: outer) news' gs dr os :=
  fun _ _ _ _ _ F2 R => throw_next K F2 (R.less hsub) fun _ R3 => he _ _ _ _ _ FG R3
theorem quic_next {c : Int} (K : Below A base outer g) (FG : Fr h₀ L g m) (he : EQuic E0 base h₀ L m outer news gs dr os c) (hsub : ∀ q ∈ news, q ∈ news') :
    EQuic (fun e s' => wpAny M (A.deeper (envOf name scope L₁ a cd)) (leaving (envOf name scope L₁ a cd) e) (fun _ s'' => E0 e s'') (fun e' s'' => E1 e' s'') s') base g L₁ m₁ (envOf name scope L₁ a cd :: outer) news' gs dr os c :=
  fun _ _ _ _ _ _ _ _ _ F2 R hO hc => throw_next K F2 (R.less (fun q hq => by
    rcases List.mem_cons.mp hq with rfl | hq
    · exact .head _
    · exact .tail _ (hsub q hq))) fun _ R3 => he _ _ _ _ _ _ _ _ _ FG R3 hO hc
end
noncomputable def sCnt (ks : List Int) (at_ : Nat) : Option (List Int × Nat) := (vint ks at_).bind fun r => sTail ks r.2 r.1.toNat
/-- what a callee tells that reads a frame -/
def OutF (Q : Value → Shared → Prop) (w : World) (h₀ : Heap) (L : Addr) (m : Str → Option Value) (news : List (Addr × Obj)) (gs : Array GenState) (dr : Drawn) (os : OsState) (x dx : Addr) (t1 t2 : Tok) (b : Array UInt8) (tb : Tok) (d : D) (e : Nat) : Prop :=
  ∀ v tl u h' tk', DIn tl v d → Fr h₀ L h' m → News h₀ L h' ((x, instObj 135 dx) :: (dx, rdO w t1 t2 b tb e u) :: (tl ++ news)) → (∀ p ∈ tl, x < p.1 ∧ dx < p.1 ∧ ∀ q ∈ news, q.1 < p.1) → Q v ⟨h', gs, dr, tk', os⟩
theorem fin_fr {Q : Value → Shared → Prop} {w : World} {h₀ : Heap} {L : Addr} {m : Str → Option Value} {news : List (Addr × Obj)} {gs : Array GenState} {dr : Drawn} {os : OsState} {x dx y : Addr} {t1 t2 u : Tok} {b : Array UInt8} {tb : Tok} {ds : List D} {e : Nat} {vs : List Value} {h' : Heap} {tk' : Nat} {rest : List (Addr × Obj)}
    (hQ : OutF Q w h₀ L m news gs dr os x dx t1 t2 b tb (.tuple ds) e) (lF : Fr h₀ L h' m) (lN : News h₀ L h' ((y, tupO vs 0) :: rest)) (hr : ∀ p ∈ (x, instObj 135 dx) :: (dx, rdO w t1 t2 b tb e u) :: news, p ∈ rest) (hl : x < y ∧ dx < y ∧ AllLt y news) (hD : DAll [] vs ds) :
    Q (.ref y) ⟨h', gs, dr, tk', os⟩ := by
  refine hQ (.ref y) [(y, tupO vs 0)] u h' tk' (.tuple (.head _) (hD.mono (fun p (hp : p ∈ ([] : List (Addr × Obj))) => by cases hp))) lF (fun p hp => lN p ?_) ?_
  · rcases List.mem_cons.mp hp with rfl | hp
    · exact .tail _ (hr _ (.head _))
    · rcases List.mem_cons.mp hp with rfl | hp
      · exact .tail _ (hr _ (.tail _ (.head _)))
      · rcases List.mem_append.mp hp with hp | hp
        · rw [List.mem_singleton.mp hp]; exact .head _
        · exact .tail _ (hr _ (.tail _ (.tail _ hp)))
  · intro p hp
    rw [List.mem_singleton.mp hp]
    exact ⟨hl.1, hl.2.1, tb_ltOf hl.2.2⟩
section
variable {w : World} {mean : ExcName → Option Value} {mg mb : Str → Option Value} {A₀ : Around} {base h₀ : Heap} {outer : List Env} {L : Addr} {m : Str → Option Value} {news : List (Addr × Obj)} {h : Heap} {gs : Array GenState} {dr : Drawn} {tk : Nat} {os : OsState} {cs : Scope}
    {dp un : Nat} {gd : Option (List Code)} {cn : Str} {a : Addr} {ccd : Value} {cl : List (Str × Addr)} {Q E : Value → Shared → Prop}
set_option maxHeartbeats 40000000 in
theorem p_counted {x dx : Addr} {t1 t2 : Tok} {b : Array UInt8} {ks : List Int} {tb ta : Tok} {at_ : Nat} (B : Below A₀ base outer h₀) (F : Fr h₀ L h m) (X : (Mine.hd.heap_39 w.params).In h₀) (N : News h₀ L h ((x, instObj 135 dx) :: (dx, rdO w t1 t2 b tb at_ ta) :: news)) (T : Top0 mean mg mb h₀) (hk : cs.kind = .function) (hd : dp + 7 < recursionLimit) (hu : un + 56 < cLine)
    (hb : KBw.bInts b = ks) (hbl : ks.length ≤ 100) (hxd : x ≠ dx) (hdx : ∀ p ∈ news, p.1 ≠ dx)
    (he : sCnt ks at_ = none → EShort E base h₀ L m (envX cn cs L a ccd cl :: outer) news gs dr os)
    (hs : ∀ o e, sCnt ks at_ = some (o, e) → ∀ b' t u h' tk', KBw.bInts b' = o → Fr h₀ L h' m → News h₀ L h' ((x, instObj 135 dx) :: (dx, rdO w t1 t2 b tb e u) :: news) → Q (.bytes b' t) ⟨h', gs, dr, tk', os⟩) :
    wpAny (model Challenge.rw_no0080_01.row.prog w) (ktrTop dp un gd cn cs L a ccd cl outer) (call (.ref 175) [.ref x]) Q E ⟨h, gs, dr, tk, os⟩ := by
  have hoc := oct_of hb
  refine wpAny_call ?_
  refine' code_def (binds := [(Str.ofString "reader", .ref x)]) B F X N T rfl rfl hk ?k6 ?k7 ?k8 ?k9 ?kB ?_ ?c2 ?c3 ?c4 ?c5
  (( (case k6 => k_is); (case k7 => k_is); (case k8 => exact room0 (by assumption)); (case k9 => exact BindsTo.of_eq rfl); (case c5 => decide); (case kB => exact locs rfl); (case c2 => exact rfl); (case c3 => exact rfl); (case c4 => exact rfl)))
  intro g' L' h' FG' F' N' B' X' T'
  k_fold
  refine let_goal ?_
  intro A1 Q1 E1
  k_steps
  unfold StopT
  try dsimp only at *
  refine' p_varint (by assumption) (by assumption) (by assumption) (by assumption) (by assumption) rfl ?hd1 ?hu1 hb hbl hxd hdx ?he1 ?hs1
  case hd1 => exact room (k := 6) hd rfl
  case hu1 => exact roomU (k := 48) hu rfl
  case he1 =>
    intro hv
    exact short_next B' FG' (he (by unfold sCnt; rw [hv]; rfl)) fun q hq => hq
  case hs1 =>
    intro n e hv t u h2 tk2 F2 N2
    have hvb := vint_bound hoc hv
    obtain ⟨n, rfl⟩ := Int.eq_ofNat_of_zero_le hvb.1
    k_steps
    unfold StopT
    try dsimp only at *
    refine' p_take (by assumption) (by assumption) (by assumption) (by assumption) (by assumption) rfl ?hd2 ?hu2 hb hbl hxd hdx ?he2 ?hs2
    case hd2 => exact room (k := 4) hd rfl
    case hu2 => exact roomU (k := 32) hu rfl
    case he2 =>
      intro hlt
      exact short_next B' FG' (he (by unfold sCnt sTail; rw [hv]; exact if_pos hlt)) fun q hq => hq
    case hs2 =>
      intro hle b' t u h3 tk3 hbb F3 N3
      k_steps
      refine hs _ _ ?_ _ _ _ _ _ hbb (by assumption) (by assumption)
      unfold sCnt sTail; rw [hv]; exact if_neg (by omega)
end
section
end
end
/-! W4 -/
section
section
variable {w : World} {mean : ExcName → Option Value} {mg mb : Str → Option Value} {A₀ : Around} {base h₀ : Heap} {outer : List Env} {L : Addr} {m : Str → Option Value} {news : List (Addr × Obj)} {h : Heap} {gs : Array GenState} {dr : Drawn} {tk : Nat} {os : OsState} {cs : Scope}
    {dp un : Nat} {gd : Option (List Code)} {cn : Str} {a : Addr} {ccd : Value} {cl : List (Str × Addr)} {Q E : Value → Shared → Prop}
end
theorem nums1 (ks : List Int) (at_ : Nat) : nums ks at_ 1 = (vint ks at_).map fun r => ([r.1], r.2) := rfl
theorem nums2 (ks : List Int) (at_ : Nat) : nums ks at_ 2 = (vint ks at_).bind fun r => (vint ks r.2).map fun q => ([r.1, q.1], q.2) := by
  show (nums ks at_ 1).bind (nstep ks) = _
  rw [nums1]; cases vint ks at_ <;> rfl
theorem cnt0 (ks : List Int) (at_ : Nat) : sCounted ks at_ 0 = (sCnt ks at_).map fun t => ([], t.1, t.2) := by
  unfold sCounted sCnt; rw [nums1]; cases vint ks at_ <;> rfl
theorem cnt1 (ks : List Int) (at_ : Nat) : sCounted ks at_ 1 = (vint ks at_).bind fun r => (sCnt ks r.2).map fun t => ([r.1], t.1, t.2) := by
  unfold sCounted sCnt; rw [nums2]
  cases vint ks at_ with
  | none => rfl
  | some r =>
    show ((vint ks r.2).map fun q => ([r.1, q.1], q.2)).bind _ = ((vint ks r.2).bind _).map _
    cases vint ks r.2 <;> rfl
theorem nums3 (ks : List Int) (at_ : Nat) : nums ks at_ 3 = (vint ks at_).bind fun r => (vint ks r.2).bind fun q => (vint ks q.2).map fun z => ([r.1, q.1, z.1], z.2) := by
  show (nums ks at_ 2).bind (nstep ks) = _
  rw [nums2]
  cases vint ks at_ with
  | none => rfl
  | some r =>
    show ((vint ks r.2).map fun q => ([r.1, q.1], q.2)).bind _ = (vint ks r.2).bind _
    cases vint ks r.2 <;> rfl
theorem cnt2 (ks : List Int) (at_ : Nat) : sCounted ks at_ 2 = (vint ks at_).bind fun r => (vint ks r.2).bind fun q => (sCnt ks q.2).map fun t => ([r.1, q.1], t.1, t.2) := by
  unfold sCounted sCnt; rw [nums3]
  cases vint ks at_ with
  | none => rfl
  | some r =>
    show ((vint ks r.2).bind fun q => (vint ks q.2).map fun z => ([r.1, q.1, z.1], z.2)).bind _ = (vint ks r.2).bind _
    cases vint ks r.2 with
    | none => rfl
    | some q =>
      show ((vint ks q.2).map fun z => ([r.1, q.1, z.1], z.2)).bind _ = ((vint ks q.2).bind _).map _
      cases vint ks q.2 <;> rfl
theorem other6 (ks : List Int) (at_ : Nat) : sOther ks at_ 6 = (vint ks at_).bind fun r => (sCnt ks r.2).bind fun t => if 2 ^ 62 ≤ r.1 + (t.1.length : Int) then none else some (.tuple [.str (Str.ofString "crypto"), .int r.1, .bytes t.1], t.2) := by
  show (sCounted ks at_ 1).bind _ = _
  rw [cnt1]
  cases vint ks at_ with
  | none => rfl
  | some r =>
    show ((sCnt ks r.2).map _).bind _ = (sCnt ks r.2).bind _
    cases sCnt ks r.2 <;> rfl
theorem other28 (ks : List Int) (at_ : Nat) : sOther ks at_ 28 = (vint ks at_).bind fun r => (vint ks r.2).bind fun q => (sCnt ks q.2).map fun t => (.tuple [.str (Str.ofString "close"), .int r.1, .int q.1, .bytes t.1], t.2) := by
  show (sCounted ks at_ 2).map _ = _
  rw [cnt2]
  cases vint ks at_ with
  | none => rfl
  | some r =>
    show ((vint ks r.2).bind _).map _ = (vint ks r.2).bind _
    cases vint ks r.2 with
    | none => rfl
    | some q =>
      show ((sCnt ks q.2).map _).map _ = (sCnt ks q.2).map _
      cases sCnt ks q.2 <;> rfl
theorem other29 (ks : List Int) (at_ : Nat) : sOther ks at_ 29 = (vint ks at_).bind fun r => (sCnt ks r.2).map fun t => (.tuple [.str (Str.ofString "close"), .int r.1, .none, .bytes t.1], t.2) := by
  show (sCounted ks at_ 1).map _ = _
  rw [cnt1]
  cases vint ks at_ with
  | none => rfl
  | some r =>
    show ((sCnt ks r.2).map _).map _ = (sCnt ks r.2).map _
    cases sCnt ks r.2 <;> rfl
theorem sCnt_bound {ks o : List Int} {at_ e : Nat} (ho : Oct ks) (h : sCnt ks at_ = some (o, e)) : o.length ≤ ks.length ∧ e ≤ ks.length ∧ at_ < e := by
  unfold sCnt at h
  cases hv : vint ks at_ with
  | none => rw [hv] at h; cases h
  | some r =>
    have hb := vint_bound ho (hv.trans (by rfl : some r = some (r.1, r.2)))
    rw [hv] at h
    simp only [Option.bind_some, sTail] at h
    split at h
    · cases h
    · obtain ⟨h1, h2⟩ := Prod.mk.inj (Option.some.inj h)
      subst h1 h2
      refine ⟨?_, by omega, by omega⟩
      rw [List.length_take, List.length_drop]; omega
section
variable {w : World} {mean : ExcName → Option Value} {mg mb : Str → Option Value} {A₀ : Around} {base h₀ : Heap} {outer : List Env} {L : Addr} {m : Str → Option Value} {news : List (Addr × Obj)} {h : Heap} {gs : Array GenState} {dr : Drawn} {tk : Nat} {os : OsState} {cs : Scope}
    {dp un : Nat} {gd : Option (List Code)} {cn : Str} {a : Addr} {ccd : Value} {cl : List (Str × Addr)} {Q E : Value → Shared → Prop}
set_option maxHeartbeats 40000000 in
theorem p_crypto {told : Int} {tt : Tok} {x dx : Addr} {t1 t2 : Tok} {b : Array UInt8} {ks : List Int} {tb ta : Tok} {at_ : Nat} (B : Below A₀ base outer h₀) (F : Fr h₀ L h m) (X : (Mine.hd.heap_39 w.params).In h₀) (N : News h₀ L h ((x, instObj 135 dx) :: (dx, rdO w t1 t2 b tb at_ ta) :: news)) (T : Top0 mean mg mb h₀) (hk : cs.kind = .function) (hd : dp + 9 < recursionLimit) (hu : un + 72 < cLine)
    (hb : KBw.bInts b = ks) (hbl : ks.length ≤ 100) (hxd : x ≠ dx) (hdx : ∀ p ∈ news, p.1 ≠ dx)
    (he : sOther ks at_ 6 = none → EShort E base h₀ L m (envX cn cs L a ccd cl :: outer) news gs dr os) (hq : sOther ks at_ 6 = none → EQuic E base h₀ L m (envX cn cs L a ccd cl :: outer) news gs dr os 7)
    (hs : ∀ d e, sOther ks at_ 6 = some (d, e) → OutF Q w h₀ L m news gs dr os x dx t1 t2 b tb d e) :
    wpAny (model Challenge.rw_no0080_01.row.prog w) (ktrTop dp un gd cn cs L a ccd cl outer) (call (.ref 201) [.ref x, .int told tt]) Q E ⟨h, gs, dr, tk, os⟩ := by
  have hoc := oct_of hb
  refine wpAny_call ?_
  refine' code_def (binds := [(Str.ofString "reader", .ref x), (Str.ofString "told", .int told tt)]) B F X N T rfl rfl hk ?k6 ?k7 ?k8 ?k9 ?kB ?_ ?c2 ?c3 ?c4 ?c5
  (( (case k6 => k_is); (case k7 => k_is); (case k8 => exact room0 (by assumption)); (case k9 => exact BindsTo.of_eq rfl); (case c5 => decide); (case kB => exact locs rfl); (case c2 => exact rfl); (case c3 => exact rfl); (case c4 => exact rfl)))
  intro g' L' h' FG' F' N' B' X' T'
  k_fold
  refine let_goal ?_
  intro A1 Q1 E1
  k_steps
  unfold StopT
  try dsimp only at *
  refine' p_varint (by assumption) (by assumption) (by assumption) (by assumption) (by assumption) rfl ?hd1 ?hu1 hb hbl hxd hdx ?he1 ?hs1
  case hd1 => exact room (k := 6) hd rfl
  case hu1 => exact roomU (k := 48) hu rfl
  case he1 =>
    intro hv
    exact short_next B' FG' (he (by rw [other6, hv]; rfl)) fun q hq => hq
  case hs1 =>
    intro n e hv t u h2 tk2 F2 N2
    k_steps
    unfold StopT
    try dsimp only at *
    refine' p_counted (by assumption) (by assumption) (by assumption) (by assumption) (by assumption) rfl ?hd2 ?hu2 hb hbl hxd hdx ?he2 ?hs2
    case hd2 => exact room (k := 7) hd rfl
    case hu2 => exact roomU (k := 56) hu rfl
    case he2 =>
      intro hlt
      exact short_next B' FG' (he (by rw [other6, hv]; show (sCnt ks e).bind _ = none; rw [hlt]; rfl)) fun q hq => hq
    case hs2 =>
      intro o e2 hcn b' t3 u3 h3 tk3 hbb F3 N3
      have hob := sCnt_bound hoc hcn
      have hvb := vint_bound hoc hv
      have hol : o.length ≤ 100 := by omega
      k_steps
      · rename 4611686018427387903 < _ => hA
        unfold StopT
        try dsimp only at *
        refine' p_refuse (by assumption) (by assumption) (by assumption) (by assumption) (by assumption) rfl ?hd3 ?hu3 (by decide) ?hq3
        case hd3 => exact room (k := 3) hd rfl
        case hu3 => exact roomU (k := 24) hu rfl
        case hq3 =>
          refine quic_next B' FG' (hq ?_) fun q hq => .tail _ (.tail _ hq)
          rw [other6, hv]; show (sCnt ks e).bind _ = none; rw [hcn]; exact if_pos (by show (2 : Int) ^ 62 ≤ n + (o.length : Int); omega)
      · rename ¬ (4611686018427387903 < _) => hA
        rename Fr h₀ _ _ _ => lF
        rename News h₀ _ _ _ => lN
        rename x < _ ∧ dx < _ ∧ _ => lD
        have hd : sOther ks at_ 6 = some (.tuple [.str (Str.ofString "crypto"), .int n, .bytes o], e2) := by
          rw [other6, hv]; show (sCnt ks e).bind _ = _; rw [hcn]; exact if_neg (by show ¬ (2 : Int) ^ 62 ≤ n + (o.length : Int); omega)
        exact fin_fr (hs _ _ hd) lF lN (fun p hp => hp) lD (.cons (.str _ _) (.cons (.int _ _) (.cons (.bytes _ hbb) .nil)))
set_option maxHeartbeats 40000000 in
theorem p_close {told : Int} {tt : Tok} {x dx : Addr} {t1 t2 : Tok} {b : Array UInt8} {ks : List Int} {tb ta : Tok} {at_ : Nat} (B : Below A₀ base outer h₀) (F : Fr h₀ L h m) (X : (Mine.hd.heap_39 w.params).In h₀) (N : News h₀ L h ((x, instObj 135 dx) :: (dx, rdO w t1 t2 b tb at_ ta) :: news)) (T : Top0 mean mg mb h₀) (hk : cs.kind = .function) (hd : dp + 9 < recursionLimit) (hu : un + 72 < cLine)
    (hb : KBw.bInts b = ks) (hbl : ks.length ≤ 100) (hxd : x ≠ dx) (hdx : ∀ p ∈ news, p.1 ≠ dx) (ht : told = 28 ∨ told = 29)
    (he : sOther ks at_ told = none → EShort E base h₀ L m (envX cn cs L a ccd cl :: outer) news gs dr os)
    (hs : ∀ d e, sOther ks at_ told = some (d, e) → OutF Q w h₀ L m news gs dr os x dx t1 t2 b tb d e) :
    wpAny (model Challenge.rw_no0080_01.row.prog w) (ktrTop dp un gd cn cs L a ccd cl outer) (call (.ref 215) [.ref x, .int told tt]) Q E ⟨h, gs, dr, tk, os⟩ := by
  have hoc := oct_of hb
  refine wpAny_call ?_
  refine' code_def (binds := [(Str.ofString "reader", .ref x), (Str.ofString "told", .int told tt)]) B F X N T rfl rfl hk ?k6 ?k7 ?k8 ?k9 ?kB ?_ ?c2 ?c3 ?c4 ?c5
  (( (case k6 => k_is); (case k7 => k_is); (case k8 => exact room0 (by assumption)); (case k9 => exact BindsTo.of_eq rfl); (case c5 => decide); (case kB => exact locs rfl); (case c2 => exact rfl); (case c3 => exact rfl); (case c4 => exact rfl)))
  intro g' L' h' FG' F' N' B' X' T'
  k_fold
  refine let_goal ?_
  intro A1 Q1 E1
  k_steps
  unfold StopT
  try dsimp only at *
  refine' p_varint (by assumption) (by assumption) (by assumption) (by assumption) (by assumption) rfl ?hd1 ?hu1 hb hbl hxd hdx ?he1 ?hs1
  case hd1 => exact room (k := 6) hd rfl
  case hu1 => exact roomU (k := 48) hu rfl
  case he1 =>
    intro hv
    refine short_next B' FG' (he ?_) fun q hq => hq
    rcases ht with rfl | rfl
    · rw [other28, hv]; rfl
    · rw [other29, hv]; rfl
  case hs1 =>
    intro n e hv t u h2 tk2 F2 N2
    k_steps
    · rename told = 28 => h28
      subst h28
      unfold StopT
      try dsimp only at *
      refine' p_varint (by assumption) (by assumption) (by assumption) (by assumption) (by assumption) rfl ?hd2 ?hu2 hb hbl hxd hdx ?he2 ?hs2
      case hd2 => exact room (k := 6) hd rfl
      case hu2 => exact roomU (k := 48) hu rfl
      case he2 =>
        intro hv2
        exact short_next B' FG' (he (by rw [other28, hv]; show (vint ks e).bind _ = none; rw [hv2]; rfl)) fun q hq => hq
      case hs2 =>
        intro n2 e2 hv2 t3 u3 h3 tk3 F3 N3
        k_steps
        unfold StopT
        try dsimp only at *
        refine' p_counted (by assumption) (by assumption) (by assumption) (by assumption) (by assumption) rfl ?hd3 ?hu3 hb hbl hxd hdx ?he3 ?hs3
        case hd3 => exact room (k := 7) hd rfl
        case hu3 => exact roomU (k := 56) hu rfl
        case he3 =>
          intro hlt
          exact short_next B' FG' (he (by rw [other28, hv]; show (vint ks e).bind _ = none; rw [hv2]; show (sCnt ks e2).map _ = none; rw [hlt]; rfl)) fun q hq => hq
        case hs3 =>
          intro o e3 hcn b' t4 u4 h4 tk4 hbb F4 N4
          k_steps
          rename Fr h₀ _ _ _ => lF
          rename News h₀ _ _ _ => lN
          rename x < _ ∧ dx < _ ∧ _ => lD
          have hd : sOther ks at_ 28 = some (.tuple [.str (Str.ofString "close"), .int n, .int n2, .bytes o], e3) := by
            rw [other28, hv]; show (vint ks e).bind _ = _; rw [hv2]; show (sCnt ks e2).map _ = _; rw [hcn]; rfl
          exact fin_fr (hs _ _ hd) lF lN (fun p hp => hp) lD (.cons (.str _ _) (.cons (.int _ _) (.cons (.int _ _) (.cons (.bytes _ hbb) .nil))))
    · rename told ≠ 28 => h28
      obtain rfl : told = 29 := by omega
      unfold StopT
      try dsimp only at *
      refine' p_counted (by assumption) (by assumption) (by assumption) (by assumption) (by assumption) rfl ?hd4 ?hu4 hb hbl hxd hdx ?he4 ?hs4
      case hd4 => exact room (k := 7) hd rfl
      case hu4 => exact roomU (k := 56) hu rfl
      case he4 =>
        intro hlt
        exact short_next B' FG' (he (by rw [other29, hv]; show (sCnt ks e).map _ = none; rw [hlt]; rfl)) fun q hq => hq
      case hs4 =>
        intro o e3 hcn b' t4 u4 h4 tk4 hbb F4 N4
        k_steps
        rename Fr h₀ _ _ _ => lF
        rename News h₀ _ _ _ => lN
        rename x < _ ∧ dx < _ ∧ _ => lD
        have hd : sOther ks at_ 29 = some (.tuple [.str (Str.ofString "close"), .int n, .none, .bytes o], e3) := by
          rw [other29, hv]; show (sCnt ks e).map _ = _; rw [hcn]; rfl
        exact fin_fr (hs _ _ hd) lF lN (fun p hp => hp) lD (.cons (.str _ _) (.cons (.int _ _) (.cons .none (.cons (.bytes _ hbb) .nil))))
end
section
end
end
/-! W5 -/
section
section
variable {w : World} {mean : ExcName → Option Value} {mg mb : Str → Option Value} {A₀ : Around} {base h₀ : Heap} {outer : List Env} {L : Addr} {m : Str → Option Value} {news : List (Addr × Obj)} {h : Heap} {gs : Array GenState} {dr : Drawn} {tk : Nat} {os : OsState} {cs : Scope}
    {dp un : Nat} {gd : Option (List Code)} {cn : Str} {a : Addr} {ccd : Value} {cl : List (Str × Addr)} {Q E : Value → Shared → Prop}
end
theorem bit4s {told : Int} (h0 : 8 ≤ told) (h1 : told < 16) : Builtin.bitAnd (told - 8) 4 ≠ 0 ↔ told.toNat / 4 % 2 = 1 :=
  oct8 (P := fun told => Builtin.bitAnd (told - 8) 4 ≠ 0 ↔ told.toNat / 4 % 2 = 1) h0 h1 (by decide +kernel)
theorem bit2s {told : Int} (h0 : 8 ≤ told) (h1 : told < 16) : Builtin.bitAnd (told - 8) 2 ≠ 0 ↔ told.toNat / 2 % 2 = 1 :=
  oct8 (P := fun told => Builtin.bitAnd (told - 8) 2 ≠ 0 ↔ told.toNat / 2 % 2 = 1) h0 h1 (by decide +kernel)
theorem bit1s {told : Int} (h0 : 8 ≤ told) (h1 : told < 16) : Builtin.bitAnd (told - 8) 1 ≠ 0 ↔ told.toNat % 2 = 1 :=
  oct8 (P := fun told => Builtin.bitAnd (told - 8) 1 ≠ 0 ↔ told.toNat % 2 = 1) h0 h1 (by decide +kernel)
noncomputable def strmTo (told n off : Int) (t : List Int × Nat) : Option (D × Nat) :=
  if 2 ^ 62 ≤ off + (t.1.length : Int) then none else some (.tuple [.str (Str.ofString "stream"), .int n, .int off, .bytes t.1, .bool (decide (told.toNat % 2 = 1))], t.2)
theorem strm11 {ks : List Int} {at_ : Nat} {told : Int} (h2 : told.toNat / 2 % 2 = 1) (h4 : told.toNat / 4 % 2 = 1) :
    sStream ks at_ told = (vint ks at_).bind fun r => (vint ks r.2).bind fun q => (sCnt ks q.2).bind (strmTo told r.1 q.1) := by
  rw [sStream_c h2, if_pos h4, cnt2]
  cases vint ks at_ with
  | none => rfl
  | some r =>
    show ((vint ks r.2).bind _).bind _ = (vint ks r.2).bind _
    cases vint ks r.2 with
    | none => rfl
    | some q =>
      show ((sCnt ks q.2).map _).bind _ = (sCnt ks q.2).bind _
      cases sCnt ks q.2 with
      | none => rfl
      | some t => show sStreamTo told ([r.1, q.1], t.1, t.2) = strmTo told r.1 q.1 t; unfold sStreamTo strmTo; dsimp only; rw [if_pos h4]; rfl
theorem strm10 {ks : List Int} {at_ : Nat} {told : Int} (h2 : told.toNat / 2 % 2 = 1) (h4 : ¬ told.toNat / 4 % 2 = 1) :
    sStream ks at_ told = (vint ks at_).bind fun r => (sCnt ks r.2).bind (strmTo told r.1 0) := by
  rw [sStream_c h2, if_neg h4, cnt1]
  cases vint ks at_ with
  | none => rfl
  | some r =>
    show ((sCnt ks r.2).map _).bind _ = (sCnt ks r.2).bind _
    cases sCnt ks r.2 with
    | none => rfl
    | some t => show sStreamTo told ([r.1], t.1, t.2) = strmTo told r.1 0 t; unfold sStreamTo strmTo; dsimp only; rw [if_neg h4]; rfl
theorem strm01 {ks : List Int} {at_ : Nat} {told : Int} (h2 : ¬ told.toNat / 2 % 2 = 1) (h4 : told.toNat / 4 % 2 = 1) :
    sStream ks at_ told = (vint ks at_).bind fun r => (vint ks r.2).bind fun q => strmTo told r.1 q.1 (ks.drop q.2, ks.length) := by
  rw [sStream_n h2, if_pos h4, nums2]
  cases vint ks at_ with
  | none => rfl
  | some r =>
    show (((vint ks r.2).map _).map _).bind _ = (vint ks r.2).bind _
    cases vint ks r.2 with
    | none => rfl
    | some q => show sStreamTo told ([r.1, q.1], ks.drop q.2, ks.length) = strmTo told r.1 q.1 _; unfold sStreamTo strmTo; dsimp only; rw [if_pos h4]; rfl
theorem strm00 {ks : List Int} {at_ : Nat} {told : Int} (h2 : ¬ told.toNat / 2 % 2 = 1) (h4 : ¬ told.toNat / 4 % 2 = 1) :
    sStream ks at_ told = (vint ks at_).bind fun r => strmTo told r.1 0 (ks.drop r.2, ks.length) := by
  rw [sStream_n h2, if_neg h4, nums1]
  cases vint ks at_ with
  | none => rfl
  | some r => show sStreamTo told ([r.1], ks.drop r.2, ks.length) = strmTo told r.1 0 _; unfold sStreamTo strmTo; dsimp only; rw [if_neg h4]; rfl
section
variable {w : World} {mean : ExcName → Option Value} {mg mb : Str → Option Value} {A₀ : Around} {base h₀ : Heap} {outer : List Env} {L : Addr} {m : Str → Option Value} {news : List (Addr × Obj)} {h : Heap} {gs : Array GenState} {dr : Drawn} {tk : Nat} {os : OsState} {cs : Scope}
    {dp un : Nat} {gd : Option (List Code)} {cn : Str} {a : Addr} {ccd : Value} {cl : List (Str × Addr)} {Q E : Value → Shared → Prop}
set_option maxHeartbeats 40000000 in
theorem p_stream {told : Int} {tt : Tok} {x dx : Addr} {t1 t2 : Tok} {b : Array UInt8} {ks : List Int} {tb ta : Tok} {at_ : Nat} (B : Below A₀ base outer h₀) (F : Fr h₀ L h m) (X : (Mine.hd.heap_39 w.params).In h₀) (N : News h₀ L h ((x, instObj 135 dx) :: (dx, rdO w t1 t2 b tb at_ ta) :: news)) (T : Top0 mean mg mb h₀) (hk : cs.kind = .function) (hd : dp + 9 < recursionLimit) (hu : un + 72 < cLine)
    (hb : KBw.bInts b = ks) (hbl : ks.length ≤ 100) (hxd : x ≠ dx) (hdx : ∀ p ∈ news, p.1 ≠ dx) (ht0 : 8 ≤ told) (ht1 : told < 16)
    (he : sStream ks at_ told = none → EShort E base h₀ L m (envX cn cs L a ccd cl :: outer) news gs dr os) (hq : sStream ks at_ told = none → EQuic E base h₀ L m (envX cn cs L a ccd cl :: outer) news gs dr os 7)
    (hs : ∀ d e, sStream ks at_ told = some (d, e) → OutF Q w h₀ L m news gs dr os x dx t1 t2 b tb d e) :
    wpAny (model Challenge.rw_no0080_01.row.prog w) (ktrTop dp un gd cn cs L a ccd cl outer) (call (.ref 194) [.ref x, .int told tt]) Q E ⟨h, gs, dr, tk, os⟩ := by
  have hoc := oct_of hb
  refine wpAny_call ?_
  refine' code_def (binds := [(Str.ofString "reader", .ref x), (Str.ofString "told", .int told tt)]) B F X N T rfl rfl hk ?k6 ?k7 ?k8 ?k9 ?kB ?_ ?c2 ?c3 ?c4 ?c5
  (( (case k6 => k_is); (case k7 => k_is); (case k8 => exact room0 (by assumption)); (case k9 => exact BindsTo.of_eq rfl); (case c5 => decide); (case kB => exact locs rfl); (case c2 => exact rfl); (case c3 => exact rfl); (case c4 => exact rfl)))
  intro g' L' h' FG' F' N' B' X' T'
  k_fold
  refine let_goal ?_
  intro A1 Q1 E1
  k_steps
  have hbool : (Builtin.bitAnd (told - 8) 1 != 0) = decide (told.toNat % 2 = 1) := by
    have := bit1s ht0 ht1
    by_cases q : told.toNat % 2 = 1
    · rw [decide_eq_true q]; simpa using this.2 q
    · rw [decide_eq_false q]; simpa using fun z => q (this.1 z)
  have sS := @strm11 ks at_ told
  have sT := @strm10 ks at_ told
  have sU := @strm01 ks at_ told
  have sV := @strm00 ks at_ told
  unfold StopT
  try dsimp only at *
  refine' p_varint (by assumption) (by assumption) (by assumption) (by assumption) (by assumption) rfl ?hd1 ?hu1 hb hbl hxd hdx ?he1 ?hs1
  case hd1 => exact room (k := 6) hd rfl
  case hu1 => exact roomU (k := 48) hu rfl
  case he1 =>
    intro hv
    refine short_next B' FG' (he ?_) fun q hq => hq
    by_cases h2 : told.toNat / 2 % 2 = 1 <;> by_cases h4 : told.toNat / 4 % 2 = 1
    · rw [strm11 h2 h4, hv]; rfl
    · rw [strm10 h2 h4, hv]; rfl
    · rw [strm01 h2 h4, hv]; rfl
    · rw [strm00 h2 h4, hv]; rfl
  case hs1 =>
    intro n e hv t u h2 tk2 F2 N2
    have hvb := vint_bound hoc hv
    simp only [hv, Option.bind_some] at sS sT sU sV
    k_steps
    · rename Builtin.bitAnd (told - 8) 4 ≠ 0 => h4
      have h4' := (bit4s ht0 ht1).1 h4
      unfold StopT
      try dsimp only at *
      refine' p_varint (by assumption) (by assumption) (by assumption) (by assumption) (by assumption) rfl ?hd2 ?hu2 hb hbl hxd hdx ?he2 ?hs2
      case hd2 => exact room (k := 6) hd rfl
      case hu2 => exact roomU (k := 48) hu rfl
      case he2 =>
        intro hv2
        refine short_next B' FG' (he ?_) fun q hq => hq
        by_cases h2 : told.toNat / 2 % 2 = 1
        · rw [sS h2 h4', hv2]; rfl
        · rw [sU h2 h4', hv2]; rfl
      case hs2 =>
        intro n2 e2 hv2 t3 u3 h3 tk3 F3 N3
        have hvb2 := vint_bound hoc hv2
        simp only [hv2, Option.bind_some] at sS sU
        k_steps
        · rename Builtin.bitAnd (told - 8) 2 ≠ 0 => h2
          have h2' := (bit2s ht0 ht1).1 h2
          unfold StopT
          try dsimp only at *
          refine' p_counted (by assumption) (by assumption) (by assumption) (by assumption) (by assumption) rfl ?hd3 ?hu3 hb hbl hxd hdx ?he3 ?hs3
          case hd3 => exact room (k := 7) hd rfl
          case hu3 => exact roomU (k := 56) hu rfl
          case he3 =>
            intro hlt
            exact short_next B' FG' (he (by rw [sS h2' h4', hlt]; rfl)) fun q hq => hq
          case hs3 =>
            intro o e3 hcn b' t4 u4 h4 tk4 hbb F4 N4
            have hob := sCnt_bound hoc hcn
            have hol : o.length ≤ 100 := by omega
            k_steps
            · rename 4611686018427387903 < _ => hA
              unfold StopT
              try dsimp only at *
              refine' p_refuse (by assumption) (by assumption) (by assumption) (by assumption) (by assumption) rfl ?hd3r ?hu3r (by decide) ?hq3r
              case hd3r => exact room (k := 3) hd rfl
              case hu3r => exact roomU (k := 24) hu rfl
              case hq3r =>
                refine quic_next B' FG' (hq ?_) fun q hq => .tail _ (.tail _ hq)
                rw [sS h2' h4']; rw [hcn]; exact if_pos (by show (2 : Int) ^ 62 ≤ n2 + ((o).length : Int); first | exact big62.mp hA | exact fun q => hA (big62.mpr q) | omega)
            · rename ¬ (4611686018427387903 < _) => hA
              rename Fr h₀ _ _ _ => lF
              rename News h₀ _ _ _ => lN
              rename x < _ ∧ dx < _ ∧ _ => lD
              have hd : sStream ks at_ told = some (.tuple [.str (Str.ofString "stream"), .int n, .int n2, .bytes (o), .bool (decide (told.toNat % 2 = 1))], e3) := by
                rw [sS h2' h4']; rw [hcn]; exact if_neg (by show ¬ (2 : Int) ^ 62 ≤ n2 + ((o).length : Int); first | exact big62.mp hA | exact fun q => hA (big62.mpr q) | omega)
              refine fin_fr (hs _ _ hd) lF lN (fun p hp => hp) lD (.cons (.str _ _) (.cons (.int _ _) (.cons (.int _ _) (.cons (.bytes _ hbb) (.cons ?_ .nil)))))
              rw [hbool]; exact .bool _
        · rename Builtin.bitAnd (told - 8) 2 = 0 => h2
          have h2' : ¬ told.toNat / 2 % 2 = 1 := fun q => (bit2s ht0 ht1).2 q h2
          unfold StopT
          try dsimp only at *
          refine' p_left (by assumption) (by assumption) (by assumption) (by assumption) (by assumption) rfl ?hd4 ?hu4 hb hbl ?hs4
          case hd4 => exact room (k := 1) hd rfl
          case hu4 => exact roomU (k := 8) hu rfl
          intro t4 h4 tk4 F4 N4
          rw [← Int.ofNat_sub hvb2.2.2.2.1]
          k_steps
          unfold StopT
          try dsimp only at *
          refine' p_take (by assumption) (by assumption) (by assumption) (by assumption) (by assumption) rfl ?hd4t ?hu4t hb hbl hxd hdx ?he4t ?hs4t
          case hd4t => exact room (k := 4) hd rfl
          case hu4t => exact roomU (k := 32) hu rfl
          case he4t =>
            intro hlt
            rw [Nat.add_sub_cancel' hvb2.2.2.2.1] at hlt
            exact absurd hlt (Nat.lt_irrefl _)
          case hs4t =>
            intro hle b' t5 u5 h5 tk5 hbb F5 N5
            rw [Nat.add_sub_cancel' hvb2.2.2.2.1] at N5
            rw [List.take_of_length_le (by rw [List.length_drop]; exact Nat.le_refl _)] at hbb
            have hol : (ks.drop e2).length ≤ 100 := by rw [List.length_drop]; exact Nat.le_trans (Nat.sub_le _ _) hbl
            k_steps
            · rename 4611686018427387903 < _ => hA
              unfold StopT
              try dsimp only at *
              refine' p_refuse (by assumption) (by assumption) (by assumption) (by assumption) (by assumption) rfl ?hd4r ?hu4r (by decide) ?hq4r
              case hd4r => exact room (k := 3) hd rfl
              case hu4r => exact roomU (k := 24) hu rfl
              case hq4r =>
                refine quic_next B' FG' (hq ?_) fun q hq => .tail _ (.tail _ hq)
                rw [sU h2' h4']; exact if_pos (by show (2 : Int) ^ 62 ≤ n2 + ((ks.drop e2).length : Int); rw [List.length_drop]; first | exact big62.mp hA | exact fun q => hA (big62.mpr q) | omega)
            · rename ¬ (4611686018427387903 < _) => hA
              rename Fr h₀ _ _ _ => lF
              rename News h₀ _ _ _ => lN
              rename x < _ ∧ dx < _ ∧ _ => lD
              have hd : sStream ks at_ told = some (.tuple [.str (Str.ofString "stream"), .int n, .int n2, .bytes (ks.drop e2), .bool (decide (told.toNat % 2 = 1))], ks.length) := by
                rw [sU h2' h4']; exact if_neg (by show ¬ (2 : Int) ^ 62 ≤ n2 + ((ks.drop e2).length : Int); rw [List.length_drop]; first | exact big62.mp hA | exact fun q => hA (big62.mpr q) | omega)
              refine fin_fr (hs _ _ hd) lF lN (fun p hp => hp) lD (.cons (.str _ _) (.cons (.int _ _) (.cons (.int _ _) (.cons (.bytes _ hbb) (.cons ?_ .nil)))))
              rw [hbool]; exact .bool _
    · rename Builtin.bitAnd (told - 8) 4 = 0 => h4
      have h4' : ¬ told.toNat / 4 % 2 = 1 := fun q => (bit4s ht0 ht1).2 q h4
      rename Builtin.bitAnd (told - 8) 2 ≠ 0 => h2
      have h2' := (bit2s ht0 ht1).1 h2
      unfold StopT
      try dsimp only at *
      refine' p_counted (by assumption) (by assumption) (by assumption) (by assumption) (by assumption) rfl ?hd5 ?hu5 hb hbl hxd hdx ?he5 ?hs5
      case hd5 => exact room (k := 7) hd rfl
      case hu5 => exact roomU (k := 56) hu rfl
      case he5 =>
        intro hlt
        exact short_next B' FG' (he (by rw [sT h2' h4', hlt]; rfl)) fun q hq => hq
      case hs5 =>
        intro o e3 hcn b' t4 u4 h4 tk4 hbb F4 N4
        have hob := sCnt_bound hoc hcn
        have hol : o.length ≤ 100 := by omega
        k_steps
        rename Fr h₀ _ _ _ => lF
        rename News h₀ _ _ _ => lN
        rename x < _ ∧ dx < _ ∧ _ => lD
        have hd : sStream ks at_ told = some (.tuple [.str (Str.ofString "stream"), .int n, .int 0, .bytes (o), .bool (decide (told.toNat % 2 = 1))], e3) := by
          rw [sT h2' h4']; rw [hcn]; exact if_neg (by show ¬ (2 : Int) ^ 62 ≤ 0 + ((o).length : Int); first | exact big62.mp hA | exact fun q => hA (big62.mpr q) | omega)
        refine fin_fr (hs _ _ hd) lF lN (fun p hp => hp) lD (.cons (.str _ _) (.cons (.int _ _) (.cons (.int _ _) (.cons (.bytes _ hbb) (.cons ?_ .nil)))))
        rw [hbool]; exact .bool _
    · rename Builtin.bitAnd (told - 8) 4 = 0 => h4
      have h4' : ¬ told.toNat / 4 % 2 = 1 := fun q => (bit4s ht0 ht1).2 q h4
      rename Builtin.bitAnd (told - 8) 2 = 0 => h2
      have h2' : ¬ told.toNat / 2 % 2 = 1 := fun q => (bit2s ht0 ht1).2 q h2
      unfold StopT
      try dsimp only at *
      refine' p_left (by assumption) (by assumption) (by assumption) (by assumption) (by assumption) rfl ?hd6 ?hu6 hb hbl ?hs6
      case hd6 => exact room (k := 1) hd rfl
      case hu6 => exact roomU (k := 8) hu rfl
      intro t4 h4 tk4 F4 N4
      rw [← Int.ofNat_sub hvb.2.2.2.1]
      k_steps
      unfold StopT
      try dsimp only at *
      refine' p_take (by assumption) (by assumption) (by assumption) (by assumption) (by assumption) rfl ?hd6t ?hu6t hb hbl hxd hdx ?he6t ?hs6t
      case hd6t => exact room (k := 4) hd rfl
      case hu6t => exact roomU (k := 32) hu rfl
      case he6t =>
        intro hlt
        rw [Nat.add_sub_cancel' hvb.2.2.2.1] at hlt
        exact absurd hlt (Nat.lt_irrefl _)
      case hs6t =>
        intro hle b' t5 u5 h5 tk5 hbb F5 N5
        rw [Nat.add_sub_cancel' hvb.2.2.2.1] at N5
        rw [List.take_of_length_le (by rw [List.length_drop]; exact Nat.le_refl _)] at hbb
        have hol : (ks.drop e).length ≤ 100 := by rw [List.length_drop]; exact Nat.le_trans (Nat.sub_le _ _) hbl
        k_steps
        rename Fr h₀ _ _ _ => lF
        rename News h₀ _ _ _ => lN
        rename x < _ ∧ dx < _ ∧ _ => lD
        have hd : sStream ks at_ told = some (.tuple [.str (Str.ofString "stream"), .int n, .int 0, .bytes (ks.drop e), .bool (decide (told.toNat % 2 = 1))], ks.length) := by
          rw [sV h2' h4']; exact if_neg (by show ¬ (2 : Int) ^ 62 ≤ 0 + ((ks.drop e).length : Int); rw [List.length_drop]; first | exact big62.mp hA | exact fun q => hA (big62.mpr q) | omega)
        refine fin_fr (hs _ _ hd) lF lN (fun p hp => hp) lD (.cons (.str _ _) (.cons (.int _ _) (.cons (.int _ _) (.cons (.bytes _ hbb) (.cons ?_ .nil)))))
        rw [hbool]; exact .bool _
end
section
end
end
/-! W6 -/
section
section
variable {w : World} {mean : ExcName → Option Value} {mg mb : Str → Option Value} {A₀ : Around} {base h₀ : Heap} {outer : List Env} {L : Addr} {m : Str → Option Value} {news : List (Addr × Obj)} {h : Heap} {gs : Array GenState} {dr : Drawn} {tk : Nat} {os : OsState} {cs : Scope}
    {dp un : Nat} {gd : Option (List Code)} {cn : Str} {a : Addr} {ccd : Value} {cl : List (Str × Addr)} {Q E : Value → Shared → Prop}
end
theorem given_eq (ks : List Int) (at_ : Nat) : sGiven ks at_ = (vint ks at_).bind fun r => (vint ks r.2).bind fun q => if r.1 < q.1 then none else if ks.length ≤ q.2 then none else if ks.getD q.2 0 < 1 ∨ 20 < ks.getD q.2 0 then none
    else if ks.length < q.2 + 1 + ((ks.getD q.2 0).toNat + 16) then none else some (.tuple [.str (Str.ofString "new_connection_id"), .int r.1, .int q.1, .bytes ((ks.drop (q.2 + 1)).take (ks.getD q.2 0).toNat), .bytes ((ks.drop (q.2 + 1 + (ks.getD q.2 0).toNat)).take 16)], q.2 + 1 + ((ks.getD q.2 0).toNat + 16)) := by
  unfold sGiven
  rw [nums2]
  cases vint ks at_ with
  | none => rfl
  | some r =>
    show ((vint ks r.2).map _).bind _ = (vint ks r.2).bind _
    cases vint ks r.2 with
    | none => rfl
    | some q =>
      show (if r.1 < q.1 then none else _) = (if r.1 < q.1 then none else _)
      congr 1
      show (if ks.length ≤ q.2 then none else _) = (if ks.length ≤ q.2 then none else _)
      congr 1
      show (if ks.getD q.2 0 < 1 ∨ 20 < ks.getD q.2 0 then none else _) = (if ks.getD q.2 0 < 1 ∨ 20 < ks.getD q.2 0 then none else _)
      congr 1
      show (sTail ks (q.2 + 1) ((ks.getD q.2 0).toNat + 16)).map _ = _
      unfold sTail
      split
      · rfl
      · show some _ = some _
        simp only [List.take_take, List.drop_take, List.drop_drop, Nat.add_sub_cancel_left, Nat.min_eq_left (Nat.le_add_right _ _)]
        rfl
theorem whole1 {ks : List Int} {e : Nat} (ho : Oct ks) (h : e + 1 ≤ ks.length) : vfold 0 ((ks.drop e).take 1) = ((ks.getD e 0).toNat : Int) := by
  have hd : ks.drop e = ks.getD e 0 :: ks.drop (e + 1) := by
    rw [List.drop_eq_getElem_cons (by omega)]; congr 1; simp [List.getD, show e < ks.length by omega]
  have := (ho.getD e).1
  rw [hd]
  show 0 * 256 + ks.getD e 0 = _
  omega
section
variable {w : World} {mean : ExcName → Option Value} {mg mb : Str → Option Value} {A₀ : Around} {base h₀ : Heap} {outer : List Env} {L : Addr} {m : Str → Option Value} {news : List (Addr × Obj)} {h : Heap} {gs : Array GenState} {dr : Drawn} {tk : Nat} {os : OsState} {cs : Scope}
    {dp un : Nat} {gd : Option (List Code)} {cn : Str} {a : Addr} {ccd : Value} {cl : List (Str × Addr)} {Q E : Value → Shared → Prop}
set_option maxHeartbeats 40000000 in
theorem p_newcid {told : Int} {tt : Tok} {x dx : Addr} {t1 t2 : Tok} {b : Array UInt8} {ks : List Int} {tb ta : Tok} {at_ : Nat} (B : Below A₀ base outer h₀) (F : Fr h₀ L h m) (X : (Mine.hd.heap_39 w.params).In h₀) (N : News h₀ L h ((x, instObj 135 dx) :: (dx, rdO w t1 t2 b tb at_ ta) :: news)) (T : Top0 mean mg mb h₀) (hk : cs.kind = .function) (hd : dp + 9 < recursionLimit) (hu : un + 72 < cLine)
    (hb : KBw.bInts b = ks) (hbl : ks.length ≤ 100) (hxd : x ≠ dx) (hdx : ∀ p ∈ news, p.1 ≠ dx)
    (he : sGiven ks at_ = none → EShort E base h₀ L m (envX cn cs L a ccd cl :: outer) news gs dr os) (hq : sGiven ks at_ = none → EQuic E base h₀ L m (envX cn cs L a ccd cl :: outer) news gs dr os 7)
    (hs : ∀ d e, sGiven ks at_ = some (d, e) → OutF Q w h₀ L m news gs dr os x dx t1 t2 b tb d e) :
    wpAny (model Challenge.rw_no0080_01.row.prog w) (ktrTop dp un gd cn cs L a ccd cl outer) (call (.ref 208) [.ref x, .int told tt]) Q E ⟨h, gs, dr, tk, os⟩ := by
  have hoc := oct_of hb
  refine wpAny_call ?_
  refine' code_def (binds := [(Str.ofString "reader", .ref x), (Str.ofString "told", .int told tt)]) B F X N T rfl rfl hk ?k6 ?k7 ?k8 ?k9 ?kB ?_ ?c2 ?c3 ?c4 ?c5
  (( (case k6 => k_is); (case k7 => k_is); (case k8 => exact room0 (by assumption)); (case k9 => exact BindsTo.of_eq rfl); (case c5 => decide); (case kB => exact locs rfl); (case c2 => exact rfl); (case c3 => exact rfl); (case c4 => exact rfl)))
  intro g' L' h' FG' F' N' B' X' T'
  k_fold
  refine let_goal ?_
  intro A1 Q1 E1
  k_steps
  unfold StopT
  try dsimp only at *
  refine' p_varint (by assumption) (by assumption) (by assumption) (by assumption) (by assumption) rfl ?hd1 ?hu1 hb hbl hxd hdx ?he1 ?hs1
  case hd1 => exact room (k := 6) hd rfl
  case hu1 => exact roomU (k := 48) hu rfl
  case he1 =>
    intro hv
    exact short_next B' FG' (he (by rw [given_eq, hv]; rfl)) fun q hq => hq
  case hs1 =>
    intro n e hv t u h2 tk2 F2 N2
    k_steps
    unfold StopT
    try dsimp only at *
    refine' p_varint (by assumption) (by assumption) (by assumption) (by assumption) (by assumption) rfl ?hd2 ?hu2 hb hbl hxd hdx ?he2 ?hs2
    case hd2 => exact room (k := 6) hd rfl
    case hu2 => exact roomU (k := 48) hu rfl
    case he2 =>
      intro hv2
      exact short_next B' FG' (he (by rw [given_eq, hv]; show (vint ks e).bind _ = none; rw [hv2]; rfl)) fun q hq => hq
    case hs2 =>
      intro n2 e2 hv2 t3 u3 h3 tk3 F3 N3
      have hvb := vint_bound hoc hv
      have hvb2 := vint_bound hoc hv2
      have hg := given_eq ks at_
      simp only [hv, hv2, Option.bind_some] at hg
      k_steps
      · rename n < n2 => hA
        rename News g' _ _ _ => lN0
        replace lN0 := cb_drop lN0 (fun p hp => List.Mem.tail _ hp)
        unfold StopT
        try dsimp only at *
        refine' p_refuse (by assumption) (by assumption) (by assumption) (by assumption) (by assumption) rfl ?hd3 ?hu3 (by decide) ?hq3
        case hd3 => exact room (k := 3) hd rfl
        case hu3 => exact roomU (k := 24) hu rfl
        case hq3 => exact quic_next B' FG' (hq (by rw [hg, if_pos hA])) fun q hq => .tail _ (.tail _ hq)
      · rename ¬ (n < n2) => hA
        rename News g' _ _ _ => lN0
        replace lN0 := cb_drop lN0 (fun p hp => List.Mem.tail _ hp)
        rw [if_neg hA] at hg
        unfold StopT
        try dsimp only at *
        refine' p_wholem (by assumption) (by assumption) (by assumption) (by assumption) (by assumption) rfl ?hd4 ?hu4 (many := 1) hb hbl hxd hdx ?he4 ?hs4
        case hd4 => exact room (k := 5) hd rfl
        case hu4 => exact roomU (k := 40) hu rfl
        case he4 =>
          intro hlt
          exact short_next B' FG' (he (by rw [hg, if_pos (by omega)])) fun q hq => hq
        case hs4 =>
          intro hle t4 u4 h4 tk4 F4 N4
          have hk0 := hoc.getD e2
          rw [whole1 hoc hle]
          rw [if_neg (by omega)] at hg
          k_steps
          · unfold StopT
            try dsimp only at *
            refine' p_refuse (by assumption) (by assumption) (by assumption) (by assumption) (by assumption) rfl ?hd5 ?hu5 (by decide) ?hq5
            case hd5 => exact room (k := 3) hd rfl
            case hu5 => exact roomU (k := 24) hu rfl
            case hq5 => exact quic_next B' FG' (hq (by rw [hg, if_pos (by omega)])) fun q hq => .tail _ (.tail _ hq)
          · unfold StopT
            try dsimp only at *
            refine' p_refuse (by assumption) (by assumption) (by assumption) (by assumption) (by assumption) rfl ?hd6 ?hu6 (by decide) ?hq6
            case hd6 => exact room (k := 3) hd rfl
            case hu6 => exact roomU (k := 24) hu rfl
            case hq6 => exact quic_next B' FG' (hq (by rw [hg, if_pos (by omega)])) fun q hq => .tail _ (.tail _ hq)
          · rw [if_neg (by omega)] at hg
            unfold StopT
            try dsimp only at *
            refine' p_take (by assumption) (by assumption) (by assumption) (by assumption) (by assumption) rfl ?hd7 ?hu7 hb hbl hxd hdx ?he7 ?hs7
            case hd7 => exact room (k := 4) hd rfl
            case hu7 => exact roomU (k := 32) hu rfl
            case he7 =>
              intro hlt
              exact short_next B' FG' (he (by rw [hg, if_pos (by omega)])) fun q hq => hq
            case hs7 =>
              intro hle2 b' t5 u5 h5 tk5 hbb F5 N5
              k_steps
              unfold StopT
              try dsimp only at *
              refine' p_take (by assumption) (by assumption) (by assumption) (by assumption) (by assumption) rfl ?hd8 ?hu8 (many := 16) hb hbl hxd hdx ?he8 ?hs8
              case hd8 => exact room (k := 4) hd rfl
              case hu8 => exact roomU (k := 32) hu rfl
              case he8 =>
                intro hlt
                exact short_next B' FG' (he (by rw [hg, if_pos (by omega)])) fun q hq => hq
              case hs8 =>
                intro hle3 b2 t6 u6 h6 tk6 hbb2 F6 N6
                rw [if_neg (by omega)] at hg
                rw [Nat.add_assoc (e2 + 1)] at N6
                k_steps
                rename Fr h₀ _ _ _ => lF
                rename News h₀ _ _ _ => lN
                rename x < _ ∧ dx < _ ∧ _ => lD
                exact fin_fr (hs _ _ hg) lF lN (fun p hp => hp) lD (.cons (.str _ _) (.cons (.int _ _) (.cons (.int _ _) (.cons (.bytes _ hbb) (.cons (.bytes _ hbb2) .nil)))))
end
section
end
end
/-! W7 -/
section
section
variable {w : World} {mean : ExcName → Option Value} {mg mb : Str → Option Value} {A₀ : Around} {base h₀ : Heap} {outer : List Env} {L : Addr} {m : Str → Option Value} {news : List (Addr × Obj)} {h : Heap} {gs : Array GenState} {dr : Drawn} {tk : Nat} {os : OsState} {cs : Scope}
    {dp un : Nat} {gd : Option (List Code)} {cn : Str} {a : Addr} {ccd : Value} {cl : List (Str × Addr)} {Q E : Value → Shared → Prop}
end
theorem nums4 (ks : List Int) (at_ : Nat) : nums ks at_ 4 = (vint ks at_).bind fun r => (vint ks r.2).bind fun q => (vint ks q.2).bind fun z => (vint ks z.2).map fun y => ([r.1, q.1, z.1, y.1], y.2) := by
  show (nums ks at_ 3).bind (nstep ks) = _
  rw [nums3]
  cases vint ks at_ with
  | none => rfl
  | some r =>
    show ((vint ks r.2).bind _).bind _ = (vint ks r.2).bind _
    cases vint ks r.2 with
    | none => rfl
    | some q =>
      show ((vint ks q.2).map _).bind _ = (vint ks q.2).bind _
      cases vint ks q.2 <;> rfl
theorem ranges_none {ks : List Int} {at_ : Nat} (h : nums ks at_ 4 = none) : sRanges ks at_ = none := by unfold sRanges; rw [h]; rfl
theorem pk5 {h₀ h : Heap} {L : Addr} {a b c d e : Addr × Obj} {r : List (Addr × Obj)} (N : News h₀ L h (a :: b :: c :: d :: e :: r)) : News h₀ L h (d :: e :: a :: b :: r) := by
  refine cb_drop N ?_
  intro p hp
  simp only [List.mem_cons] at hp ⊢
  grind
theorem pk4 {h₀ h : Heap} {L : Addr} {a b c d : Addr × Obj} {r : List (Addr × Obj)} (N : News h₀ L h (a :: b :: c :: (d :: r))) : News h₀ L h (d :: a :: b :: c :: r) := by
  refine cb_drop N ?_
  intro p hp
  simp only [List.mem_cons] at hp ⊢
  grind
theorem pk6 {h₀ h : Heap} {L : Addr} {y T x dx r : Addr × Obj} {TL news : List (Addr × Obj)} (N : News h₀ L h (y :: T :: x :: dx :: r :: (TL ++ news))) : News h₀ L h (x :: dx :: (y :: T :: TL ++ news)) := by
  refine cb_drop N ?_
  intro p hp
  simp only [List.mem_cons, List.cons_append] at hp ⊢
  grind
section
variable {w : World} {mean : ExcName → Option Value} {mg mb : Str → Option Value} {A₀ : Around} {base h₀ : Heap} {outer : List Env} {L : Addr} {m : Str → Option Value} {news : List (Addr × Obj)} {h : Heap} {gs : Array GenState} {dr : Drawn} {tk : Nat} {os : OsState} {cs : Scope}
    {dp un : Nat} {gd : Option (List Code)} {cn : Str} {a : Addr} {ccd : Value} {cl : List (Str × Addr)} {Q E : Value → Shared → Prop}
set_option maxHeartbeats 40000000 in
theorem p_ranges {told : Int} {tt : Tok} {x dx : Addr} {t1 t2 : Tok} {b : Array UInt8} {ks : List Int} {tb ta : Tok} {at_ : Nat} (B : Below A₀ base outer h₀) (F : Fr h₀ L h m) (X : (Mine.hd.heap_39 w.params).In h₀) (N : News h₀ L h ((x, instObj 135 dx) :: (dx, rdO w t1 t2 b tb at_ ta) :: news)) (T : Top0 mean mg mb h₀) (hk : cs.kind = .function) (hd : dp + 9 < recursionLimit) (hu : un + 72 < cLine)
    (hb : KBw.bInts b = ks) (hbl : ks.length ≤ 100) (hxd : x ≠ dx) (hdx : ∀ p ∈ news, p.1 ≠ dx)
    (he : sRanges ks at_ = none → EShort E base h₀ L m (envX cn cs L a ccd cl :: outer) news gs dr os) (hq : sRanges ks at_ = none → EQuic E base h₀ L m (envX cn cs L a ccd cl :: outer) news gs dr os 7)
    (hs : ∀ delay ds e, sRanges ks at_ = some (delay, ds, e) → ∀ y T1 rs TL t u h' tk', DAll TL rs ds → Fr h₀ L h' m → News h₀ L h' ((x, instObj 135 dx) :: (dx, rdO w t1 t2 b tb e u) :: ((y, tupO [.int delay t, .ref T1] 0) :: (T1, tupO rs 0) :: TL ++ news)) →
      (∀ p ∈ (y, tupO [.int delay t, .ref T1] 0) :: (T1, tupO rs 0) :: TL, x < p.1 ∧ dx < p.1 ∧ ∀ q ∈ news, q.1 < p.1) → Q (.ref y) ⟨h', gs, dr, tk', os⟩) :
    wpAny (model Challenge.rw_no0080_01.row.prog w) (ktrTop dp un gd cn cs L a ccd cl outer) (call (.ref 182) [.ref x, .int told tt]) Q E ⟨h, gs, dr, tk, os⟩ := by
  have hoc := oct_of hb
  refine wpAny_call ?_
  refine' code_def (binds := [(Str.ofString "reader", .ref x), (Str.ofString "told", .int told tt)]) B F X N T rfl rfl hk ?k6 ?k7 ?k8 ?k9 ?kB ?_ ?c2 ?c3 ?c4 ?c5
  (( (case k6 => k_is); (case k7 => k_is); (case k8 => exact room0 (by assumption)); (case k9 => exact BindsTo.of_eq rfl); (case c5 => decide); (case kB => exact locs rfl); (case c2 => exact rfl); (case c3 => exact rfl); (case c4 => exact rfl)))
  intro g' L' h' FG' F' N' B' X' T'
  k_fold
  refine let_goal ?_
  intro A1 Q1 E1
  k_steps
  have h4 := nums4 ks at_
  unfold StopT
  try dsimp only at *
  refine' p_varint (by assumption) (by assumption) (by assumption) (by assumption) (by assumption) rfl ?hd1 ?hu1 hb hbl hxd hdx ?he1 ?hs1
  case hd1 => exact room (k := 6) hd rfl
  case hu1 => exact roomU (k := 48) hu rfl
  case he1 =>
    intro hv
    exact short_next B' FG' (he (ranges_none (by rw [h4, hv]; rfl))) fun q hq => hq
  case hs1 =>
    intro n0 e0 hv0 ta0 u0 h2 tk2 F2 N2
    simp only [hv0, Option.bind_some] at h4
    k_steps
    unfold StopT
    try dsimp only at *
    refine' p_varint (by assumption) (by assumption) (by assumption) (by assumption) (by assumption) rfl ?hd2 ?hu2 hb hbl hxd hdx ?he2 ?hs2
    case hd2 => exact room (k := 6) hd rfl
    case hu2 => exact roomU (k := 48) hu rfl
    case he2 =>
      intro hv
      exact short_next B' FG' (he (ranges_none (by rw [h4, hv]; rfl))) fun q hq => hq
    case hs2 =>
      intro n1 e1 hv1 ta1 u1 h3 tk3 F3 N3
      simp only [hv1, Option.bind_some] at h4
      k_steps
      rename News g' _ _ _ => lN0
      replace lN0 := cb_drop lN0 (fun p hp => List.Mem.tail _ hp)
      unfold StopT
      try dsimp only at *
      refine' p_varint (by assumption) (by assumption) (by assumption) (by assumption) (by assumption) rfl ?hd3 ?hu3 hb hbl hxd hdx ?he3 ?hs3
      case hd3 => exact room (k := 6) hd rfl
      case hu3 => exact roomU (k := 48) hu rfl
      case he3 =>
        intro hv
        exact short_next B' FG' (he (ranges_none (by rw [h4, hv]; rfl))) fun q hq => hq
      case hs3 =>
        intro n2 e2 hv2 ta2 u2 h4' tk4 F4 N4
        simp only [hv2, Option.bind_some] at h4
        k_steps
        unfold StopT
        try dsimp only at *
        refine' p_varint (by assumption) (by assumption) (by assumption) (by assumption) (by assumption) rfl ?hd4 ?hu4 hb hbl hxd hdx ?he4 ?hs4
        case hd4 => exact room (k := 6) hd rfl
        case hu4 => exact roomU (k := 48) hu rfl
        case he4 =>
          intro hv
          exact short_next B' FG' (he (ranges_none (by rw [h4, hv]; rfl))) fun q hq => hq
        case hs4 =>
          intro n3 e3 hv3 ta3 u3 h5 tk5 F5 N5
          simp only [hv3, Option.map_some] at h4
          have hsr := sRanges_eq h4
          have hb2 := vint_bound hoc hv2
          have hat := (vint_bound hoc hv3).2.2.2.1
          k_steps
          · rename n0 - n3 < 0 => hA
            rename News g' _ _ _ => lN0
            replace lN0 := cb_drop lN0 (fun p hp => List.Mem.tail _ hp)
            unfold StopT
            try dsimp only at *
            refine' p_refuse (by assumption) (by assumption) (by assumption) (by assumption) (by assumption) rfl ?hd5 ?hu5 (by decide) ?hq5
            case hd5 => exact room (k := 3) hd rfl
            case hu5 => exact roomU (k := 24) hu rfl
            case hq5 => exact quic_next B' FG' (hq (by rw [hsr, if_pos hA])) fun q hq => .tail _ (.tail _ hq)
          · unfold StopT
            try dsimp only at *
            rename ¬ (n0 - n3 < 0) => hA
            rw [if_neg hA] at hsr
            rename Fr g' _ _ _ => lF'
            rename News g' _ _ _ => lN'
            rename IsRange _ _ _ _ _ _ _ _ => lR
            rename_i dn hh3 l1b rl hh2 l1c hh1 FF NN hh0 tkk ta9 ub9 vc9 keepA
            obtain ⟨O1, ⟨t9, hO1⟩, lN2⟩ : ∃ O, (∃ t, O = tupO [.int (n0 - n3) t, .int n0 ta0] 0) ∧ News g' L' hh0 ((x, instObj 135 dx) :: (dx, rdO w t1 t2 b tb e3 u3) :: (rl, listOf [Value.ref dn].toArray 0) :: (dn, O) :: news) := ⟨_, ⟨_, rfl⟩, pk5 lN'⟩
            subst hO1
            have hnr := tb_ltOf l1c.2.2.2.2
            have hnd := tb_ltOf l1b.2.2.2
            refine' lp_range (n := n2.toNat) (σ := List Value × List D × Int × Tok × Nat × Tok × Nat × List (Addr × Obj)) (fun c => [(Str.ofString "low", .int c.2.2.1 c.2.2.2.1)])
              (fun i c nx => nx = (x, instObj 135 dx) :: (dx, rdO w t1 t2 b tb c.2.2.2.2.1 c.2.2.2.2.2.1) :: (rl, listOf c.1.toArray c.2.2.2.2.2.2.1) :: (c.2.2.2.2.2.2.2 ++ news) ∧ DAll c.2.2.2.2.2.2.2 c.1 c.2.1 ∧ (∀ p ∈ c.2.2.2.2.2.2.2, p.1 ≠ rl ∧ x < p.1 ∧ dx < p.1 ∧ ∀ q ∈ news, q.1 < p.1) ∧ itO (rstep ks) i (n0 - n3, e3, [.tuple [.int (n0 - n3), .int n0]]) = some (c.2.2.1, c.2.2.2.2.1, c.2.1))
              [Str.ofString "turn", Str.ofString "high"] ([.ref dn], [.tuple [.int (n0 - n3), .int n0]], n0 - n3, _, e3, u3, 0, [(dn, tupO [.int (n0 - n3) t9, .int n0 ta0] 0)]) rfl lR ?hsm ?hsz lF' lN2 ?kk ?kf ?turn ?done
            case hsm => exact small_one (by omega) (by omega) (by omega) (by omega)
            case hsz => rw [show n2 = ((n2.toNat : Nat) : Int) by omega]; exact rangeSize_nat _ _
            case kk => intro p hp; rw [List.mem_singleton.mp hp]; exact rfl
            case kf =>
              refine ⟨rfl, ?_, fun p hp => ?_, rfl⟩
              exact .cons (.tuple (.head _) (.cons (.int _ _) (.cons (.int _ _) .nil))) .nil
              rw [List.mem_singleton.mp hp]
              exact ⟨Nat.ne_of_lt l1c.1, l1b.2.1, l1b.2.2.1, hnd⟩
            case turn =>
              clear lF' lN' lN2 FF NN
              rintro i ⟨rs, ds, low, tl, ea, te, nn, TL⟩ nx t uu h tk own hi ⟨rfl, hD, hTL, hP⟩ hoff F'' N''
              dsimp only at hD hTL hP F'' N'' hoff
              have hrb := rstep_bound hoc hat hP
              dsimp only at hrb
              have hoff2 : ∀ z ∈ own, z.1 ≠ dx := fun z hz => hoff z hz _ (.tail _ (.head _))
              have hdx2 : ∀ p ∈ (rl, listOf rs.toArray nn) :: (TL ++ news) ++ own, p.1 ≠ dx := by
                intro p hp
                rcases List.mem_append.mp hp with hp | hp
                · rcases List.mem_cons.mp hp with rfl | hp
                  · exact Nat.ne_of_gt l1c.2.2.2.1
                  · rcases List.mem_append.mp hp with hp | hp
                    · exact Nat.ne_of_gt (hTL p hp).2.2.1
                    · exact hdx p hp
                · exact hoff2 p hp
              (try dsimp only)
              (try k_fold)
              refine let_post ?_
              intro Qt
              have hsub : ∀ q ∈ news, q ∈ (rl, listOf rs.toArray nn) :: (TL ++ news) ++ own := fun q hq => List.mem_append.mpr (.inl (.tail _ (List.mem_append.mpr (.inr hq))))
              k_steps
              unfold StopT
              try dsimp only at *
              refine' p_varint (by assumption) (by assumption) (by assumption) (by assumption) (by assumption) rfl ?hd6 ?hu6 hb hbl hxd hdx2 ?he6 ?hs6
              case hd6 => exact room (k := 6) hd rfl
              case hu6 => exact roomU (k := 48) hu rfl
              case he6 =>
                intro hv
                exact short_next B' FG' (he (by rw [hsr, itO_none ((itO_next hP).trans (rstep_end (by rw [nums2, hv]; rfl))) hi]; rfl)) hsub
              case hs6 =>
                intro p ep hvp tp up h6 tk6 F6 N6
                k_steps
                unfold StopT
                try dsimp only at *
                refine' p_varint (by assumption) (by assumption) (by assumption) (by assumption) (by assumption) rfl ?hd7 ?hu7 hb hbl hxd hdx2 ?he7 ?hs7
                case hd7 => exact room (k := 6) hd rfl
                case hu7 => exact roomU (k := 48) hu rfl
                case he7 =>
                  intro hv
                  exact short_next B' FG' (he (by rw [hsr, itO_none ((itO_next hP).trans (rstep_end (by rw [nums2, hvp]; show (vint ks ep).map _ = none; rw [hv]; rfl))) hi]; rfl)) hsub
                case hs7 =>
                  intro q eq hvq tq uq h7 tk7 F7 N7
                  have hn2 : nums ks ea 2 = some ([p, q], eq) := by rw [nums2, hvp]; show (vint ks ep).map _ = _; rw [hvq]; rfl
                  k_steps
                  · rename low - _ - 2 - _ < 0 => hB
                    unfold StopT
                    try dsimp only at *
                    refine' p_refuse (by assumption) (by assumption) (by assumption) (by assumption) (by assumption) rfl ?hd8 ?hu8 (by decide) ?hq8
                    case hd8 => exact room (k := 3) hd rfl
                    case hu8 => exact roomU (k := 24) hu rfl
                    case hq8 => exact quic_next B' FG' (hq (by rw [hsr, itO_none ((itO_next hP).trans (rstep_low hn2 hB)) hi]; rfl)) fun q hq => .tail _ (.tail _ (hsub q hq))
                  · rename ¬ (low - _ - 2 - _ < 0) => hB
                    unfold StopT
                    try dsimp only at *
                    rename_i d2 hq1 FF2 NN2 ld
                    obtain ⟨O, ⟨ta9, tb9, hO⟩, NN3⟩ : ∃ O, (∃ ta tb, O = tupO [.int (low - p - 2 - q) ta, .int (low - p - 2) tb] 0) ∧ News g' L' hq1 ((rl, listOf rs.toArray nn) :: (d2, O) :: (x, instObj 135 dx) :: (dx, rdO w t1 t2 b tb eq uq) :: (TL ++ news ++ own)) := ⟨_, ⟨_, _, rfl⟩, pk4 NN2⟩
                    have hlt := ktn_ltOf ld.2.2
                    have hrl : rl < d2 := hlt (rl, _) (.head _)
                    have hdl := hD.length
                    refine' append_1 (vs := rs) (n := nn) (rest := (d2, O) :: (x, instObj 135 dx) :: (dx, rdO w t1 t2 b tb eq uq) :: (TL ++ news ++ own)) FF2 NN3 ?hr ?hz ?_
                    case hr =>
                      intro z hz
                      rcases List.mem_cons.mp hz with rfl | hz
                      · exact Nat.ne_of_gt hrl
                      rcases List.mem_cons.mp hz with rfl | hz
                      · exact Nat.ne_of_lt l1c.2.2.1
                      rcases List.mem_cons.mp hz with rfl | hz
                      · exact Nat.ne_of_lt l1c.2.2.2.1
                      rcases List.mem_append.mp hz with hz | hz
                      · rcases List.mem_append.mp hz with hz | hz
                        · exact (hTL z hz).1
                        · exact Nat.ne_of_lt (hnr z hz)
                      · exact hoff z hz _ (.tail _ (.tail _ (.head _)))
                    case hz => exact Nat.le_trans (few hrb hbl hdl) (by decide)
                    intro hq2 FF4 NN4
                    clear FF2 NN2 NN3
                    k_steps
                    refine' lp_end (rs ++ [.ref d2], ds ++ [.tuple [.int (low - p - 2 - q), .int (low - p - 2)]], low - p - 2 - q, _, eq, uq, nn + 1, (d2, O) :: TL) ((x, instObj 135 dx) :: (dx, rdO w t1 t2 b tb eq uq) :: (rl, listOf (rs ++ [Value.ref d2]).toArray (nn + 1)) :: (((d2, O) :: TL) ++ news)) (by assumption) (by assumption) ?s1 ?s2 ?ho ?hk ?hr ?hp
                    case s1 => (first | ((repeat' (first | exact sub_refl | exact sub_nil | (refine sub_cons ?_ ?_; focus (((repeat (first | exact List.Mem.head _ | refine List.Mem.tail _ ?_))); done)) | refine sub_tail ?_)); done) | (intro p hp; (try simp only [List.mem_cons, List.mem_append, List.cons_append, List.nil_append, List.append_assoc, List.not_mem_nil, or_false, false_or] at hp ⊢); first | assumption | grind))
                    case s2 => (first | ((repeat' (first | exact sub_refl | exact sub_nil | (refine sub_cons ?_ ?_; focus (((repeat (first | exact List.Mem.head _ | refine List.Mem.tail _ ?_))); done)) | refine sub_tail ?_)); done) | (intro p hp; (try simp only [List.mem_cons, List.mem_append, List.cons_append, List.nil_append, List.append_assoc, List.not_mem_nil, or_false, false_or] at hp ⊢); first | assumption | grind))
                    case ho =>
                      intro z hz bb hbb
                      simp only [List.map_cons, List.map_append, List.cons_append, List.mem_cons] at hbb
                      rcases hbb with rfl | rfl | rfl | rfl | hbb
                      · exact hoff z hz _ (.head _)
                      · exact hoff2 z hz
                      · exact hoff z hz _ (.tail _ (.tail _ (.head _)))
                      · exact Nat.ne_of_lt (hlt z (.tail _ (List.mem_append.mpr (.inr hz))))
                      · exact hoff z hz _ (.tail _ (.tail _ (.tail _ (by rw [List.map_append]; exact hbb))))
                    case hk => intro z hz; rw [List.mem_singleton.mp hz]; exact rfl
                    case hr => ((intro z h1 h2 h3; (simp only [List.forall_mem_cons, List.not_mem_nil, false_implies, implies_true, and_true, ne_eq] at h2); (simp only [List.contains_cons, List.contains_nil, Bool.or_false, Bool.or_eq_false_iff, beq_eq_false_iff_ne, ne_eq] at h3); (simp [kstB, h1, h2, h3]; done)))
                    case hp =>
                      refine ⟨rfl, ?_, ?_, (itO_next hP).trans (rstep_go hn2 hB)⟩
                      · refine (hD.mono fun _ h => .tail _ h).snoc (.tuple (vs := [.int (low - p - 2 - q) ta9, .int (low - p - 2) tb9]) ?_ (.cons (.int _ _) (.cons (.int _ _) .nil)))
                        rw [← hO]; exact .head _
                      · intro z hz
                        rcases List.mem_cons.mp hz with rfl | hz
                        · exact ⟨Nat.ne_of_gt hrl, ld.1, ld.2.1, fun q hq => hlt q (.tail _ (List.mem_append.mpr (.inl (List.mem_append.mpr (.inr hq)))))⟩
                        · exact hTL z hz
            case done =>
              clear lF' lN' lN2 FF NN
              rintro ⟨rs, ds, low, tl, ea, te, nn, TL⟩ nx uu h tk ⟨rfl, hD, hTL, hP⟩ F'' N''
              dsimp only at hD hTL hP F'' N''
              have hrb := rstep_bound hoc hat hP
              have hdl := hD.length
              have hsr2 : sRanges ks at_ = some (n1, ds, ea) := by rw [hsr, hP]; rfl
              have hrl : rs.toArray.size ≤ 16384 := by rw [List.size_toArray]; exact Nat.le_trans (few hrb hbl hdl) (by decide)
              try dsimp only
              k_steps
              (try unfold StopT)
              rename Fr g' _ _ _ => lF4
              rename News g' _ _ _ => lN4
              refine' kde_tupleOf lF4 lN4 (News.isList lN4 (.tail _ (.tail _ (.head _)))) hrl rfl ?_
              intro T1 h5 lF5 lN5 l5
              k_steps
              rename Fr h₀ _ _ _ => lF8
              rename News h₀ _ _ _ => lN8
              rename T1 < _ ∧ x < _ ∧ _ => l9
              have l5n : ∀ p ∈ TL ++ news, p.1 < T1 := fun p hp => l5 p (.tail _ (.tail _ (.tail _ hp)))
              refine hs _ _ _ hsr2 _ _ _ _ _ _ _ _ hD lF8 (pk6 lN8) ?_
              intro z hz
              have hn9 := tb_ltOf l9.2.2.2.2
              rcases List.mem_cons.mp hz with rfl | hz
              · exact ⟨l9.2.1, l9.2.2.1, fun q hq => hn9 q (List.mem_append.mpr (.inr hq))⟩
              rcases List.mem_cons.mp hz with rfl | hz
              · exact ⟨l5 (x, _) (.head _), l5 (dx, _) (.tail _ (.head _)), fun q hq => l5n q (List.mem_append.mpr (.inr hq))⟩
              · exact ⟨(hTL z hz).2.1, (hTL z hz).2.2.1, (hTL z hz).2.2.2⟩
end
section
end
end
/-! W9 -/
section
section
variable {w : World} {mean : ExcName → Option Value} {mg mb : Str → Option Value} {A₀ : Around} {base h₀ : Heap} {outer : List Env} {L : Addr} {m : Str → Option Value} {news : List (Addr × Obj)} {h : Heap} {gs : Array GenState} {dr : Drawn} {tk : Nat} {os : OsState} {cs : Scope}
    {dp un : Nat} {gd : Option (List Code)} {cn : Str} {a : Addr} {ccd : Value} {cl : List (Str × Addr)} {Q E : Value → Shared → Prop}
end
section
variable {w : World} {mean : ExcName → Option Value} {mg mb : Str → Option Value} {A₀ : Around} {base h₀ : Heap} {outer : List Env} {L : Addr} {m : Str → Option Value} {news : List (Addr × Obj)} {h : Heap} {gs : Array GenState} {dr : Drawn} {tk : Nat} {os : OsState} {cs : Scope}
    {dp un : Nat} {gd : Option (List Code)} {cn : Str} {a : Addr} {ccd : Value} {cl : List (Str × Addr)} {Q E : Value → Shared → Prop}
set_option maxHeartbeats 40000000 in
theorem p_padding {x dx : Addr} {t1 t2 : Tok} {b : Array UInt8} {ks : List Int} {tb ta : Tok} {at_ : Nat} (B : Below A₀ base outer h₀) (F : Fr h₀ L h m) (X : (Mine.hd.heap_39 w.params).In h₀) (N : News h₀ L h ((x, instObj 135 dx) :: (dx, rdO w t1 t2 b tb at_ ta) :: news)) (T : Top0 mean mg mb h₀) (hk : cs.kind = .function) (hd : dp + 6 < recursionLimit) (hu : un + 48 < cLine)
    (hb : KBw.bInts b = ks) (hbl : ks.length ≤ 100) (hxd : x ≠ dx) (hdx : ∀ p ∈ news, p.1 ≠ dx)
    (hs : OutF Q w h₀ L m news gs dr os x dx t1 t2 b tb (.tuple [.str (Str.ofString "padding"), .int ((zskip ks at_ : Int) - at_ + 1)]) (zskip ks at_)) :
    wpAny (model Challenge.rw_no0080_01.row.prog w) (ktrTop dp un gd cn cs L a ccd cl outer) (call (.ref 222) [.ref x]) Q E ⟨h, gs, dr, tk, os⟩ := by
  have hoc := oct_of hb
  refine wpAny_call ?_
  refine' code_def (binds := [(Str.ofString "reader", .ref x)]) B F X N T rfl rfl hk ?k6 ?k7 ?k8 ?k9 ?kB ?_ ?c2 ?c3 ?c4 ?c5
  (( (case k6 => k_is); (case k7 => k_is); (case k8 => exact room0 (by assumption)); (case k9 => exact BindsTo.of_eq rfl); (case c5 => decide); (case kB => exact locs rfl); (case c2 => exact rfl); (case c3 => exact rfl); (case c4 => exact rfl)))
  intro g' L' h' FG' F' N' B' X' T'
  k_fold
  refine let_goal ?_
  intro A1 Q1 E1
  k_steps
  unfold StopT
  try dsimp only at *
  rename Fr g' _ _ _ => lF'
  rename News g' _ _ _ => lN'
  refine lp_while (σ := Nat × Tok × Int × Tok) (fun c => [(Str.ofString "many", .int c.2.2.1 c.2.2.2)]) (fun c nx => nx = (x, instObj 135 dx) :: (dx, rdO w t1 t2 b tb c.1 c.2.1) :: news ∧ at_ ≤ c.1 ∧ zskip ks c.1 = zskip ks at_ ∧ c.2.2.1 = (c.1 : Int) - at_ + 1) (fun c => ks.length - c.1) [] (at_, ta, 1, tk + 1) lF' lN' ?_ ⟨rfl, Nat.le_refl _, rfl, by show (1 : Int) = (at_ : Int) - at_ + 1; omega⟩ ?_
  · intro p hp
    cases List.mem_singleton.mp hp
    rfl
  · clear lF' lN'
    rintro ⟨z, uz, many, tz⟩ nx u1 h1 tk1 ⟨rfl, hez, hzz, hmany⟩ lF lN QW
    dsimp only at *
    k_steps
    unfold StopT
    try dsimp only at *
    refine' p_left (by assumption) (by assumption) (by assumption) (by assumption) (by assumption) rfl ?hd1 ?hu1 hb hbl ?hs1
    case hd1 => exact room (k := 1) hd rfl
    case hu1 => exact roomU (k := 8) hu rfl
    intro t4 h4 tk4 F4 N4
    k_steps
    · have hz : z < ks.length := by omega
      have h00 : ks.getD z 0 = 0 := by simpa using (by assumption : ks.getD (z : Int).toNat 0 = 0)
      unfold StopT
      try dsimp only at *
      refine' p_take (by assumption) (by assumption) (by assumption) (by assumption) (by assumption) rfl ?hd2 ?hu2 (many := 1) hb hbl hxd hdx ?he2 ?hs2
      case hd2 => exact room (k := 4) hd rfl
      case hu2 => exact roomU (k := 32) hu rfl
      case he2 => intro hlt; exfalso; omega
      case hs2 =>
        intro hle b' t5 u5 h5 tk5 hbb F5 N5
        k_steps
        rename Fr g' _ _ _ => lF6
        rename News g' _ _ _ => lN6
        refine ⟨(z + 1, u5, many + 1, _), _, _, _, _, rfl, lF6, lN6, ⟨rfl, by show at_ ≤ z + 1; omega, by rw [← zskip_more hz h00]; exact hzz, by show many + 1 = ((z + 1 : Nat) : Int) - at_ + 1; omega⟩, (fun p hp => by cases List.mem_singleton.mp hp; rfl), (fun y hy _ => by have hy' : y ≠ Str.ofString "many" := hy _ (.head _); simp [kstB, hy']), by show ks.length - (z + 1) < ks.length - z; omega⟩
    · have hst := zskip_stop (ks := ks) (z := z) (fun q => absurd q.2 (by simpa using (by assumption : ks.getD (z : Int).toNat 0 ≠ 0)))
      obtain rfl : zskip ks at_ = z := hzz.symm.trans hst
      rename Fr h₀ _ _ _ => lF8
      rename News h₀ _ _ _ => lN8
      rename x < _ ∧ dx < _ ∧ _ => lD
      rw [← hmany] at hs
      exact fin_fr hs lF8 lN8 (fun p hp => hp) lD (.cons (.str _ _) (.cons (.int _ _) .nil))
    · have hst := zskip_stop (ks := ks) (z := z) (fun q => absurd q.1 (by omega))
      obtain rfl : zskip ks at_ = z := hzz.symm.trans hst
      rename Fr h₀ _ _ _ => lF8
      rename News h₀ _ _ _ => lN8
      rename x < _ ∧ dx < _ ∧ _ => lD
      rw [← hmany] at hs
      exact fin_fr hs lF8 lN8 (fun p hp => hp) lD (.cons (.str _ _) (.cons (.int _ _) .nil))
end
section
end
end
/-! Wa -/
section
section
variable {w : World} {mean : ExcName → Option Value} {mg mb : Str → Option Value} {A₀ : Around} {base h₀ : Heap} {outer : List Env} {L : Addr} {m : Str → Option Value} {news : List (Addr × Obj)} {h : Heap} {gs : Array GenState} {dr : Drawn} {tk : Nat} {os : OsState} {cs : Scope}
    {dp un : Nat} {gd : Option (List Code)} {cn : Str} {a : Addr} {ccd : Value} {cl : List (Str × Addr)} {Q E : Value → Shared → Prop}
end
local macro_rules | `(tactic| walk_at "subscriptTail") => `(tactic| ((with_reducible show wpAny _ _ (subscriptTail _ _ (Value.ref 150) _) _ _ _); refine stop_ ?_))
theorem other7 (ks : List Int) (at_ : Nat) : sOther ks at_ 7 = (sCnt ks at_).bind fun t => if t.1 = [] then none else some (.tuple [.str (Str.ofString "new_token"), .bytes t.1], t.2) := by
  show (sCounted ks at_ 0).bind _ = _
  rw [cnt0]
  cases sCnt ks at_ <;> rfl
theorem otherT {ks : List Int} {at_ : Nat} {told : Int} (h : told = 26 ∨ told = 27) : sOther ks at_ told = (sTail ks at_ 8).map fun t => (.tuple [.str (if told = 26 then Str.ofString "path_challenge" else Str.ofString "path_response"), .bytes t.1], t.2) := by
  rcases h with rfl | rfl <;> rfl
theorem otherC {ks : List Int} {at_ : Nat} {told : Int} (h : told = 18 ∨ told = 19 ∨ told = 22 ∨ told = 23) : sOther ks at_ told = (vint ks at_).bind fun r => if 2 ^ 60 < r.1 then none else
      some (.tuple [.str (if told < 20 then Str.ofString "max_streams" else Str.ofString "streams_blocked"), .bool (decide (told = 19 ∨ told = 23)), .int r.1], r.2) := by
  rcases h with rfl | rfl | rfl | rfl
  all_goals
    show (nums ks at_ 1).bind _ = _
    rw [nums1]
    cases vint ks at_ <;> rfl
theorem otherN {ks : List Int} {at_ : Nat} {told : Int} (hp : plainK told = none) (h6 : told ≠ 6) (h7 : told ≠ 7) (h : ¬ (told = 18 ∨ told = 19 ∨ told = 22 ∨ told = 23)) (ht : ¬ (told = 26 ∨ told = 27)) (h28 : told ≠ 28) (h29 : told ≠ 29) : sOther ks at_ told = none := by
  unfold sOther
  rw [hp]
  dsimp only
  rw [if_neg h6, if_neg h7, if_neg h, if_neg ht, if_neg h28, if_neg h29]
section
variable {w : World} {mean : ExcName → Option Value} {mg mb : Str → Option Value} {A₀ : Around} {base h₀ : Heap} {outer : List Env} {L : Addr} {m : Str → Option Value} {news : List (Addr × Obj)} {h : Heap} {gs : Array GenState} {dr : Drawn} {tk : Nat} {os : OsState} {cs : Scope}
    {dp un : Nat} {gd : Option (List Code)} {cn : Str} {a : Addr} {ccd : Value} {cl : List (Str × Addr)} {Q E : Value → Shared → Prop}
set_option maxHeartbeats 40000000 in
theorem p_octets {told : Int} {tt : Tok} {x dx : Addr} {t1 t2 : Tok} {b : Array UInt8} {ks : List Int} {tb ta : Tok} {at_ : Nat} (B : Below A₀ base outer h₀) (F : Fr h₀ L h m) (X : (Mine.hd.heap_39 w.params).In h₀) (N : News h₀ L h ((x, instObj 135 dx) :: (dx, rdO w t1 t2 b tb at_ ta) :: news)) (T : Top0 mean mg mb h₀) (hk : cs.kind = .function) (hd : dp + 10 < recursionLimit) (hu : un + 80 < cLine)
    (hb : KBw.bInts b = ks) (hbl : ks.length ≤ 100) (hxd : x ≠ dx) (hdx : ∀ p ∈ news, p.1 ≠ dx) (hp : plainK told = none) (h28 : told ≠ 28) (h29 : told ≠ 29)
    (he : sOther ks at_ told = none → EShort E base h₀ L m (envX cn cs L a ccd cl :: outer) news gs dr os) (hq : sOther ks at_ told = none → EQuic E base h₀ L m (envX cn cs L a ccd cl :: outer) news gs dr os 7)
    (hs : ∀ d e, sOther ks at_ told = some (d, e) → OutF Q w h₀ L m news gs dr os x dx t1 t2 b tb d e) :
    wpAny (model Challenge.rw_no0080_01.row.prog w) (ktrTop dp un gd cn cs L a ccd cl outer) (call (.ref 229) [.ref x, .int told tt]) Q E ⟨h, gs, dr, tk, os⟩ := by
  have hoc := oct_of hb
  refine wpAny_call ?_
  refine' code_def (binds := [(Str.ofString "reader", .ref x), (Str.ofString "told", .int told tt)]) B F X N T rfl rfl hk ?k6 ?k7 ?k8 ?k9 ?kB ?_ ?c2 ?c3 ?c4 ?c5
  (( (case k6 => k_is); (case k7 => k_is); (case k8 => exact room0 (by assumption)); (case k9 => exact BindsTo.of_eq rfl); (case c5 => decide); (case kB => exact locs rfl); (case c2 => exact rfl); (case c3 => exact rfl); (case c4 => exact rfl)))
  intro g' L' h' FG' F' N' B' X' T'
  k_fold
  refine let_goal ?_
  intro A1 Q1 E1
  k_steps
  · rename told = 6 => h6
    subst h6
    unfold StopT
    try dsimp only at *
    refine' p_crypto (by assumption) (by assumption) (by assumption) (by assumption) (by assumption) rfl ?hd1 ?hu1 hb hbl hxd hdx ?he1 ?hq1 ?hs1
    case hd1 => exact room (k := 9) hd rfl
    case hu1 => exact roomU (k := 72) hu rfl
    case he1 => intro hv; exact short_next B' FG' (he hv) fun q hq => hq
    case hq1 => intro hv; exact quic_next B' FG' (hq hv) fun q hq => hq
    case hs1 =>
      intro d e hv v tl u h2 tk2 hD F2 N2 htl
      k_steps
      exact hs d e hv v tl u _ _ hD (by assumption) (by assumption) htl
  · rename told = 7 => h7
    subst h7
    unfold StopT
    try dsimp only at *
    refine' p_counted (by assumption) (by assumption) (by assumption) (by assumption) (by assumption) rfl ?hd2 ?hu2 hb hbl hxd hdx ?he2 ?hs2
    case hd2 => exact room (k := 7) hd rfl
    case hu2 => exact roomU (k := 56) hu rfl
    case he2 =>
      intro hv
      exact short_next B' FG' (he (by rw [other7, hv]; rfl)) fun q hq => hq
    case hs2 =>
      intro o e hv b' t u h2 tk2 hbb F2 N2
      have hob := sCnt_bound hoc hv
      have hol : o.length ≤ 100 := by omega
      k_steps
      · rename (o.length : Int) = 0 => hA
        unfold StopT
        try dsimp only at *
        refine' p_refuse (by assumption) (by assumption) (by assumption) (by assumption) (by assumption) rfl ?hd3 ?hu3 (by decide) ?hq3
        case hd3 => exact room (k := 3) hd rfl
        case hu3 => exact roomU (k := 24) hu rfl
        case hq3 =>
          refine quic_next B' FG' (hq ?_) fun q hq => .tail _ (.tail _ hq)
          rw [other7, hv]; exact if_pos (show o = [] from List.eq_nil_of_length_eq_zero (Int.ofNat.inj hA))
      · rename (o.length : Int) ≠ 0 => hA
        rename Fr h₀ _ _ _ => lF
        rename News h₀ _ _ _ => lN
        rename x < _ ∧ dx < _ ∧ _ => lD
        have hd : sOther ks at_ 7 = some (.tuple [.str (Str.ofString "new_token"), .bytes o], e) := by
          rw [other7, hv]; exact if_neg fun q => hA (by rw [show o = [] from q]; rfl)
        exact fin_fr (hs _ _ hd) lF lN (fun p hp => hp) lD (.cons (.str _ _) (.cons (.bytes _ hbb) .nil))
  · rename told = 26 => h26
    unfold StopT
    try dsimp only at *
    refine' p_take (by assumption) (by assumption) (by assumption) (by assumption) (by assumption) rfl ?hd4 ?hu4 (many := 8) hb hbl hxd hdx ?he4 ?hs4
    case hd4 => exact room (k := 4) hd rfl
    case hu4 => exact roomU (k := 32) hu rfl
    case he4 =>
      intro hlt
      refine short_next B' FG' (he ?_) fun q hq => hq
      rw [otherT (.inl h26)]; unfold sTail; rw [if_pos hlt]; rfl
    case hs4 =>
      intro hle b' t u h2 tk2 hbb F2 N2
      k_steps
      rename Fr h₀ _ _ _ => lF
      rename News h₀ _ _ _ => lN
      rename x < _ ∧ dx < _ ∧ _ => lD
      refine fin_fr (hs _ _ ?_) lF lN (fun p hp => hp) lD (.cons (.str _ _) (.cons (.bytes _ hbb) .nil))
      rw [otherT (.inl h26), if_pos h26]; unfold sTail; rw [if_neg (by omega)]; rfl
  · omega
  · omega
  · rename told = 27 => h27
    unfold StopT
    try dsimp only at *
    refine' p_take (by assumption) (by assumption) (by assumption) (by assumption) (by assumption) rfl ?hd5 ?hu5 (many := 8) hb hbl hxd hdx ?he5 ?hs5
    case hd5 => exact room (k := 4) hd rfl
    case hu5 => exact roomU (k := 32) hu rfl
    case he5 =>
      intro hlt
      refine short_next B' FG' (he ?_) fun q hq => hq
      rw [otherT (.inr h27)]; unfold sTail; rw [if_pos hlt]; rfl
    case hs5 =>
      intro hle b' t u h2 tk2 hbb F2 N2
      k_steps
      rename Fr h₀ _ _ _ => lF
      rename News h₀ _ _ _ => lN
      rename x < _ ∧ dx < _ ∧ _ => lD
      refine fin_fr (hs _ _ ?_) lF lN (fun p hp => hp) lD (.cons (.str _ _) (.cons (.bytes _ hbb) .nil))
      rw [otherT (.inr h27), if_neg (show ¬ told = 26 by omega)]; unfold sTail; rw [if_neg (by omega)]; rfl
  · unfold StopT
    rename Fr g' _ _ _ => lF
    refine g_in (dict_cnt X') lF rfl ?_
    by_cases hC : told = 18 ∨ told = 19 ∨ told = 22 ∨ told = 23
    · have hoC := otherC (ks := ks) (at_ := at_) hC
      rw [show (valueAt [((18 : Int), Value.ref 151), (19, .ref 152), (22, .ref 153), (23, .ref 154)] told).isSome = true by rcases hC with rfl | rfl | rfl | rfl <;> rfl]
      k_steps
      unfold StopT
      try dsimp only at *
      refine' p_varint (by assumption) (by assumption) (by assumption) (by assumption) (by assumption) rfl ?hd6 ?hu6 hb hbl hxd hdx ?he6 ?hs6
      case hd6 => exact room (k := 6) hd rfl
      case hu6 => exact roomU (k := 48) hu rfl
      case he6 =>
        intro hv
        exact short_next B' FG' (he (by rw [hoC, hv]; rfl)) fun q hq => hq
      case hs6 =>
        intro n e hv t u h2 tk2 F2 N2
        k_steps
        · rename 1152921504606846976 < n => hA
          unfold StopT
          try dsimp only at *
          refine' p_refuse (by assumption) (by assumption) (by assumption) (by assumption) (by assumption) rfl ?hd7 ?hu7 (by decide) ?hq7
          case hd7 => exact room (k := 3) hd rfl
          case hu7 => exact roomU (k := 24) hu rfl
          case hq7 =>
            refine quic_next B' FG' (hq ?_) fun q hq => .tail _ (.tail _ hq)
            rw [hoC, hv]; exact if_pos (by show (2 : Int) ^ 60 < n; omega)
        · rename ¬ (1152921504606846976 < n) => hA
          have hd : sOther ks at_ told = some (.tuple [.str (if told < 20 then Str.ofString "max_streams" else Str.ofString "streams_blocked"), .bool (decide (told = 19 ∨ told = 23)), .int n], e) := by
            rw [hoC, hv]; exact if_neg (by show ¬ (2 : Int) ^ 60 < n; omega)
          unfold StopT
          rename Fr g' _ _ _ => lF
          rcases hC with rfl | rfl | rfl | rfl
          · refine g_item (dict_cnt X') lF (v := .ref 151) rfl ?_
            have hd' : sOther ks at_ 18 = some (.tuple [.str (Str.ofString "max_streams"), .bool false, .int n], e) := hd
            k_steps
            unfold StopT
            rename Fr g' _ _ _ => lF
            refine g_item (dict_cnt X') lF (v := .ref 151) rfl ?_
            k_steps
            rename Fr h₀ _ _ _ => lF
            rename News h₀ _ _ _ => lN
            rename x < _ ∧ dx < _ ∧ _ => lD
            exact fin_fr (hs _ _ hd') lF lN (fun p hp => hp) lD (.cons (.str _ _) (.cons (.bool _) (.cons (.int _ _) .nil)))
          · refine g_item (dict_cnt X') lF (v := .ref 152) rfl ?_
            have hd' : sOther ks at_ 19 = some (.tuple [.str (Str.ofString "max_streams"), .bool true, .int n], e) := hd
            k_steps
            unfold StopT
            rename Fr g' _ _ _ => lF
            refine g_item (dict_cnt X') lF (v := .ref 152) rfl ?_
            k_steps
            rename Fr h₀ _ _ _ => lF
            rename News h₀ _ _ _ => lN
            rename x < _ ∧ dx < _ ∧ _ => lD
            exact fin_fr (hs _ _ hd') lF lN (fun p hp => hp) lD (.cons (.str _ _) (.cons (.bool _) (.cons (.int _ _) .nil)))
          · refine g_item (dict_cnt X') lF (v := .ref 153) rfl ?_
            have hd' : sOther ks at_ 22 = some (.tuple [.str (Str.ofString "streams_blocked"), .bool false, .int n], e) := hd
            k_steps
            unfold StopT
            rename Fr g' _ _ _ => lF
            refine g_item (dict_cnt X') lF (v := .ref 153) rfl ?_
            k_steps
            rename Fr h₀ _ _ _ => lF
            rename News h₀ _ _ _ => lN
            rename x < _ ∧ dx < _ ∧ _ => lD
            exact fin_fr (hs _ _ hd') lF lN (fun p hp => hp) lD (.cons (.str _ _) (.cons (.bool _) (.cons (.int _ _) .nil)))
          · refine g_item (dict_cnt X') lF (v := .ref 154) rfl ?_
            have hd' : sOther ks at_ 23 = some (.tuple [.str (Str.ofString "streams_blocked"), .bool true, .int n], e) := hd
            k_steps
            unfold StopT
            rename Fr g' _ _ _ => lF
            refine g_item (dict_cnt X') lF (v := .ref 154) rfl ?_
            k_steps
            rename Fr h₀ _ _ _ => lF
            rename News h₀ _ _ _ => lN
            rename x < _ ∧ dx < _ ∧ _ => lD
            exact fin_fr (hs _ _ hd') lF lN (fun p hp => hp) lD (.cons (.str _ _) (.cons (.bool _) (.cons (.int _ _) .nil)))
    · rw [valueAt_none (k := told) (kvs := [((18 : Int), Value.ref 151), (19, .ref 152), (22, .ref 153), (23, .ref 154)]) (by simp; omega)]
      k_steps
      unfold StopT
      try dsimp only at *
      refine' p_refuse (by assumption) (by assumption) (by assumption) (by assumption) (by assumption) rfl ?hd8 ?hu8 (by decide) ?hq8
      case hd8 => exact room (k := 3) hd rfl
      case hu8 => exact roomU (k := 24) hu rfl
      case hq8 =>
        refine quic_next B' FG' (hq ?_) fun q hq => .tail _ (.tail _ hq)
        exact otherN hp (by assumption) (by assumption) hC (by omega) h28 h29
end
section
end
end
/-! Cm -/
section
open PySem PySem.W PyProof.Rows PySem.Spec PySem.Calls
open PyProof.Rows.LCg
/-- an exception that goes on its way, its mark untold -/
def HeldA (base G : Heap) (l : List Env) (e : Addr) (C : Value) (dd : Option Addr) (cx : Value) (kp : List (Addr × Obj)) (h : Heap) : Prop :=
  (∃ B fl, base.StaysIn B ∧ (∀ b o, G.get? b = some o → b ∉ l.filterMap (·.frame) → B.get? b = some o) ∧ (∀ q ∈ kp, B.get? q.1 = some q.2) ∧ Fly B l e C dd cx fl h) ∧ G.UpToSlots h ∧ ∀ q ∈ kp, G.get? q.1 = none
section
variable {M : Model} {A : Around} {E : Value → Shared → Prop} {s : Shared} {B B' base g G : Heap} {env : Env} {outer : List Env} {l : List Env} {L e : Addr} {C : Value} {dd : Option Addr} {cx fl : Value} {m : Str → Option Value} {kp : List (Addr × Obj)}
theorem fly_note_any {Q : Unit → Shared → Prop} (hfr : A.frames = some (env :: outer)) (hf : env.frame = some L) (R : Fly B (env :: outer) e C dd cx fl s.heap)
    (h : ∀ h', Fly B (env :: outer) e C dd cx (rawInt L) h' → s.heap.UpToSlots h' → Q () { s with heap := h' }) : wpAny M A (noteFrame (.ref e) env) Q E s := by
  have R' := R
  obtain ⟨hkb, hen, hl, oe, vs, T, oT, ts, he, rfl, rfl, hd, h1, h2, hnT, hTe, hT, hdT, h3⟩ := R
  by_cases hm : (fl == rawInt L) = true
  · unfold noteFrame
    simp only [hf]
    refine wpAny_bind (wpAny_field he hd h1 ?_)
    rw [if_pos (show (Value.ref T != Value.none) = true from by simp)]
    refine wpAny_bind (wpAny_field hT hdT h3 ?_)
    rw [if_pos hm]
    have e' : fl = rawInt L := by simpa using hm
    exact wpAny_pure (h s.heap (e' ▸ R') (fun b o q _ => ⟨o.slots, q⟩))
  · unfold noteFrame
    simp only [hf]
    refine wpAny_bind (wpAny_field he hd h1 ?_)
    rw [if_pos (show (Value.ref T != Value.none) = true from by simp)]
    refine wpAny_bind (wpAny_field hT hdT h3 ?_)
    rw [if_neg hm]
    refine wpAny_bind (fly_mark hkb hen hl he hd h1 h2 hnT hTe hT hdT h3 fun h₁ R₁ he₁ U₁ => ?_)
    exact fly_entry hfr R₁.2.2.1 hf he₁ R₁.1 hen hd (Array.getElem?_eq_some_iff.mp h1).1 h2 fun h' R' U' => h h' R' (U₁.trans U')
theorem heldA_leave {Q : Unit → Shared → Prop} (hf : env.frame = some L) (K : Below A base outer g) (F : Fr g L G m) (R : HeldA base G (env :: outer) e C dd cx kp s.heap)
    (hQ : ∀ h', Thrown base g outer e C dd cx kp h' → Q () { s with heap := h' }) : wpAny M (A.deeper env) (leaving env (.ref e)) Q E s := by
  obtain ⟨⟨B, fl, hB, hg, hkp, hfl⟩, hU, hkn⟩ := R
  unfold leaving
  refine wpAny_bind (fly_note_any (Around.frames_deeper K.stack) hf hfl fun h₁ R₁ U₁ => ?_)
  refine fly_set (fr := none) R₁ fun h₂ R₂ U₂ => ?_
  obtain ⟨k1, k2, ⟨_, _, k3⟩, k4⟩ := R₂
  refine hQ h₂ ⟨⟨B, hB, fun b o q nm => hg b o (F.keep b o q) (fun hm => ?_), hkp, k1, k2, k3, k4⟩, (Heap.UpToSlots.of_keeps F.keep).trans (hU.trans (U₁.trans U₂)), fun q hq => kts_none F.keep (hkn q hq)⟩
  rcases gts_mem hf hm with z | z
  · rw [z, kts_self F] at q; cases q
  · exact nm z
theorem funFrames_less (hs : ∀ b o, B'.get? b = some o → B.get? b = some o) {h : Heap} : ∀ {l : List Env}, h.FunFrames B l → h.FunFrames B' l
  | [], _ => trivial
  | _ :: _, ⟨k, ⟨L, o, a, b, c⟩, r⟩ => ⟨k, ⟨L, o, a, kts_none hs b, c⟩, funFrames_less hs r⟩
/-- one object of the ledger changes while the exception is under way -/
theorem fly_but {D : Addr} {od : Obj} {h h' : Heap} (hs : ∀ b o, B'.get? b = some o → B.get? b = some o) (hD : B'.get? D = none) (hBD : B.get? D = some od) (hk : ∀ b, b ≠ D → h'.get? b = h.get? b) (R : Fly B l e C dd cx fl h) : Fly B' l e C dd cx fl h' := by
  obtain ⟨hkb, hen, hl, oe, vs, T, oT, ts, he, h1, h2, h3, h4, h5, hnT, hTe, hT, hdT, h6⟩ := R
  have eD : e ≠ D := fun q => by rw [q, hBD] at hen; cases hen
  have tD : T ≠ D := fun q => by rw [q, hBD] at hnT; cases hnT
  refine ⟨fun b o q => ?_, kts_none hs hen, ?_, oe, vs, T, oT, ts, (hk _ eD).trans he, h1, h2, h3, h4, h5, kts_none hs hnT, hTe, (hk _ tD).trans hT, hdT, h6⟩
  · have bD : b ≠ D := fun z => by rw [z, hD] at q; cases q
    exact (hk b bD).trans (hkb b o (hs b o q))
  · refine funFrames_less hs ?_
    clear he hT
    induction l with
    | nil => trivial
    | cons env rest ih =>
      obtain ⟨k, ⟨L, o, a, b, c, d⟩, r⟩ := hl
      exact ⟨k, ⟨L, o, a, b, (hk L (fun q => by rw [q, hBD] at b; cases b)).trans c, d⟩, ih r⟩
end
def TurnEnd (h₀ : Heap) (L : Addr) (m : Str → Option Value) (s₁ : Shared) (I : Addr) (oI : Obj) (C : Addr) (oC : Obj) (D : Addr) (ys : List Value) (Inv : Value → List (Addr × Obj) → Prop) (y : Value) (s₂ : Shared) : Prop :=
  ∃ h' tk' news', s₂ = { s₁ with heap := h', toks := tk' } ∧ Fr h₀ L h' m ∧ News h₀ L h' ((I, oI) :: (C, oC) :: (D, lst ys) :: news') ∧ Off3 I C D news' ∧ Inv y news'
def TurnC (prog : Program) (w : World) (A : Around) (base h₀ : Heap) (L : Addr) (m : Str → Option Value) (env : Env) (outer : List Env) (elt : Expr) (x : Str) (scope : Scope) (cl : List (Str × Addr)) (kpn : List (Addr × Obj)) (may : Prop) (Inv : Nat → List Value → List (Addr × Obj) → Prop) (a : Int) (n : Nat) (s₁ : Shared) : Prop :=
  ∀ i ys news I oI C oC D m₂ h tk t (Ee : Value → Shared → Prop), i < n → Inv i ys news → NsObj oC m₂ → m₂ x = some (.int (a + (i : Int)) t) → Fr h₀ L h m → News h₀ L h ((I, oI) :: (C, oC) :: (D, lst ys) :: news) → Off3 I C D news → (I ≠ C ∧ I ≠ D ∧ C ≠ D) →
    (may → EShort Ee base h₀ L m (env :: outer) ((C, oC) :: kpn) s₁.gens s₁.drawn s₁.os) →
    wpAny (model prog w) A (eval elt (compEnvC scope cl C env)) (TurnEnd h₀ L m s₁ I oI C oC D ys (fun y news' => Inv (i + 1) (ys ++ [y]) news')) Ee { s₁ with heap := h, toks := tk }
section
variable {prog : Program} {w : World} {A₀ : Around} {E : Value → Shared → Prop} {s : Shared} {base h₀ : Heap} {outer : List Env} {L : Addr} {m : Str → Option Value} {env : Env} {kpn : List (Addr × Obj)} {may : Prop}
theorem block_R {elt iter : Expr} {x : Str} {px : Pos} {scope : Scope} {cl : List (Str × Addr)} {pos : Pos} {s₁ s₂ : Shared} {I : Addr} {a : Int} {n : Nat} {news : List (Addr × Obj)} (Inv : Nat → List Value → List (Addr × Obj) → Prop) {Q : Value → Shared → Prop}
    (K : Below A₀ base outer h₀) (hf : env.frame = some L) (hh : (A₀.deeper env).handled = none) (hs₂ : ∃ h, s₂ = { s₁ with heap := h }) (hsz : n ≤ sizeLine)
    (hcell : ∀ y ∈ scope.names, y.2 ≠ .cell) (hkind : scope.kind = .function) (hx : scope.names.lookup x = some .local) (hst : IsRangeIter s₂.heap I (a + (0 : Nat) * 1) ((n : Int) - (0 : Nat)) 1) (hIlt : I < s₂.heap.objs.size)
    (F : Fr h₀ L s₂.heap m) (N : News h₀ L s₂.heap news) (hIL : L ≠ I) (hI₀ : h₀.get? I = none) (off : ∀ p ∈ news, p.1 ≠ I) (hInv : Inv 0 [] news) (hsub : ∀ i ys news, Inv i ys news → ∀ q ∈ kpn, q ∈ news)
    (turn : TurnC prog w (A₀.deeper env) base h₀ L m env outer elt x scope cl kpn may Inv a n s₁)
    (hE : may → ∀ e dd G h' tk', Fr h₀ L G m → HeldA base G (env :: outer) e (.ref 58) dd .none kpn h' → E (.ref e) { s₁ with heap := h', toks := tk' })
    (fin : ∀ ys news D h tk, Inv n ys news → Fr h₀ L h m → News h₀ L h ((D, lst ys) :: news) → Off1 D news → Q (.ref D) { s₁ with heap := h, toks := tk }) :
    wpAny (model prog w) (A₀.deeper env) (newList []) (fun acc s₃ => wpAny (model prog w) (A₀.deeper env) (newFunctionEnv scope env.globals cl [] env.qual none .none (some env)) (fun cenv s₄ =>
      codeAny (model prog w) (A₀.deeper env) (.compStart (.ListComp elt [⟨.Name x px, iter, [], 0⟩] scope pos) 0 (.ref I) acc { cenv with scope := relabel scope env }) (compPost (model prog w) (A₀.deeper env) E none Q acc cenv.locals) s₄) E s₃) E s₂ := by
  have W := range_walks (prog := prog) (w := w) (A := A₀.deeper env) (I := I) hh a n
  obtain ⟨hS0, hS⟩ := hs₂
  refine wpAny_newObj_type (wpAny_newFunctionEnv hcell (by intro y hy; simp at hy) (fun h₁ hns₁ hsb₁ => ?_) hkind)
  dsimp only at hns₁ hsb₁ ⊢
  generalize hH2 : s₂.heap.push { cls := .type "list", dict := none, data := .seq ([] : List Value).toArray } = H2 at hns₁ hsb₁ ⊢
  have hC : H2.objs.size = s₂.heap.objs.size + 1 := by rw [← hH2, Heap.size_push]
  have hDC : s₂.heap.objs.size ≠ H2.objs.size := by rw [hC]; exact Nat.ne_of_lt (Nat.lt_succ_self _)
  have below : ∀ b, b < s₂.heap.objs.size → b ≠ H2.objs.size ∧ b ≠ s₂.heap.objs.size := fun b hb => ⟨by rw [hC]; exact Nat.ne_of_lt (Nat.lt_succ_of_lt hb), Nat.ne_of_lt hb⟩
  have old : ∀ b o, s₂.heap.get? b = some o → h₁.get? b = some o := fun b o e => hsb₁.extBut b o (below b (Heap.lt_size e)).1 (Heap.get?_push_of_some _ (hH2 ▸ Heap.get?_push_of_some _ e))
  have hacc : h₁.get? s₂.heap.objs.size = some (lst []) := hsb₁.extBut _ _ hDC (Heap.get?_push_of_some _ (hH2 ▸ Heap.get?_push_size _ rfl))
  have hst₁ : IsRangeIter h₁ I (a + (0 : Nat) * 1) ((n : Int) - (0 : Nat)) 1 := W.frame 0 _ _ hst fun b _ o e => old b o e
  have fresh : ∀ a, s₂.heap.objs.size ≤ a → s₂.heap.get? a = none := fun a ha => by
    cases e : s₂.heap.get? a with
    | none => rfl
    | some o' => exact absurd (Heap.lt_size e) (Nat.not_lt.mpr ha)
  have fresh₀ : ∀ a, s₂.heap.objs.size ≤ a → h₀.get? a = none := fun a ha => by
    cases e : h₀.get? a with
    | none => rfl
    | some o' => have := F.keep a o' e; rw [fresh a ha] at this; cases this
  have hD₀ : h₀.get? s₂.heap.objs.size = none := fresh₀ _ (Nat.le_refl _)
  have hC₀ : h₀.get? H2.objs.size = none := fresh₀ _ (by rw [hC]; exact Nat.le_succ _)
  have hLlt : L < s₂.heap.objs.size := F.ns.lt
  have hDL : s₂.heap.objs.size ≠ L := Ne.symm (below L hLlt).2
  have hCL : H2.objs.size ≠ L := Ne.symm (below L hLlt).1
  have hCI : I ≠ H2.objs.size := (below I hIlt).1
  have hDI : I ≠ s₂.heap.objs.size := (below I hIlt).2
  have off₀ : Off3 I H2.objs.size s₂.heap.objs.size news := Off3.of fun p hp => ⟨off p hp, (below _ (Heap.lt_size (N p hp).1)).1, (below _ (Heap.lt_size (N p hp).1)).2⟩
  generalize hRR : compPost (model prog w) (A₀.deeper env) E none Q (.ref s₂.heap.objs.size) H2.objs.size = RR
  have loop : ∀ s₃ : Shared, s₃ = { s₂ with heap := h₁, toks := s₂.toks + ([] : List (Str × Value)).length } →
      codeAny (model prog w) (A₀.deeper env) (.compLoop (.ListComp elt [⟨.Name x px, iter, [], 0⟩] scope pos) 0 (.ref I) (.ref s₂.heap.objs.size) (compEnvC scope cl H2.objs.size env)) RR s₃ := by
    rintro s₃ rfl
    refine codeAny_compLoop_tests
      (fun k s' => ∃ h' tk i ys m' news', s' = { s₁ with heap := h', toks := tk } ∧ i ≤ n ∧ k = n + 1 - i ∧ ys.length = i ∧ IsRangeIter h' I (a + (i : Nat) * 1) ((n : Int) - (i : Nat)) 1 ∧ Fr h₀ L h' m ∧ h'.Ns H2.objs.size m' ∧ News h₀ L h' ((s₂.heap.objs.size, lst ys) :: news') ∧
        Off3 I H2.objs.size s₂.heap.objs.size news' ∧ Inv i ys news') ?_ (n + 1)
      ⟨h₁, _, 0, [], _, news, by rw [hS], Nat.zero_le _, rfl, rfl, hst₁, F.keeps old, hns₁, fun p hp => ?_, off₀, hInv⟩
    · rintro k s' ⟨h', tk, i, ys, m', news', rfl, hi, rfl, hyl, hst', F', hn', N', off', hInv'⟩
      by_cases hlt : i < n
      · refine W.item i _ _ _ hlt hst' fun v h₂ tk₂ hPv hst₂ hk₂ => ?_
        refine wpAny_assign_Name (wpAny_storeName_local (lookup_relabel_local hx) (hn'.at' fun o e => hk₂ _ o (by simpa using Ne.symm hCI) e) (fun h₃ hn₃ hs₃ => ?_) (by simp [compEnvC, relabel, hkind]))
        refine wpAny_tests_nil ?_
        simp only [if_true]
        have hst₃ : IsRangeIter h₃ I (a + ((i + 1 : Nat) : Nat) * 1) ((n : Int) - ((i + 1 : Nat) : Nat)) 1 := W.frame (i + 1) _ _ hst₂ fun b hb o e => hs₃.extBut b o (fun q => by
          have q' : b = H2.objs.size := q
          rw [List.mem_singleton.mp hb] at q'; exact hCI q') e
        have heI := hst₃
        obtain ⟨oC, heC, hoC⟩ := ns_obj hn₃
        have F₃ : Fr h₀ L h₃ m := (LCg.fr_but F' hk₂ hIL hI₀).change hs₃ hCL hC₀
        have off3 := off'.mem
        have N₂ : News h₀ L h₂ ((s₂.heap.objs.size, lst ys) :: news') := news_but N' hk₂ fun p hp => by
          rcases List.mem_cons.mp hp with rfl | hp
          · exact Ne.symm hDI
          · exact (off3 p hp).1
        have N₃ : News h₀ L h₃ ((I, _) :: (H2.objs.size, oC) :: (s₂.heap.objs.size, lst ys) :: news') := fun p hp => by
          rcases List.mem_cons.mp hp with rfl | hp
          · exact ⟨heI, Ne.symm hIL, hI₀⟩
          · rcases List.mem_cons.mp hp with rfl | hp
            · exact ⟨heC, hCL, hC₀⟩
            · have z := N₂ p hp
              refine ⟨hs₃.extBut _ _ ?_ z.1, z.2⟩
              rcases List.mem_cons.mp hp with rfl | hp
              · exact hDC
              · exact (off3 p hp).2.1
        obtain ⟨t, rfl⟩ := hPv
        refine wpAny_mono (turn i ys news' I _ H2.objs.size oC s₂.heap.objs.size _ h₃ _ t _ hlt hInv' hoC (by simp) F₃ N₃ off' ⟨hCI, hDI, Ne.symm hDC⟩ (fun hmay => ?_)) (fun y s₄ h₄ => ?_) fun _ _ e => e
        · intro G e dd h5 tk5 FG R
          rw [← hRR]
          show wpAny _ _ (noteFrame (.ref e) (compEnvC scope cl H2.objs.size env)) _ _ _
          rw [note_same (show (compEnvC scope cl H2.objs.size env).frame = env.frame from rfl)]
          obtain ⟨⟨B, hB, hg, hkp, hfl⟩, hU, hkn⟩ := R
          refine fly_note (Around.frames_deeper K.stack) hf hfl fun h₁ R₁ U₁ => ?_
          have hBC := hkp (H2.objs.size, oC) (.head _)
          refine ⟨_, hoC.ns (R₁.1 _ _ hBC), fun h6 hs6 cenv hcl => ?_⟩
          have hBless : ∀ b o, (hideAll B [H2.objs.size]).get? b = some o → B.get? b = some o := fun b o q => of_hideAll _ q
          have keepB : ∀ b o, B.get? b = some o → b ≠ H2.objs.size → (hideAll B [H2.objs.size]).get? b = some o := fun b o q nb => hideAll_get _ q fun hm => nb (List.mem_singleton.mp hm)
          have R₂ := fly_but (h' := h6) hBless (hideAll_none _ (.head _)) hBC (fun b nb => hs6.2 b nb) R₁
          have hGC := hkn (H2.objs.size, oC) (.head _)
          obtain ⟨_, _, _, oe, ws, T, oT, ts, he, hc', hd', hd2, h1, _⟩ := id R₂
          unfold PySem.passOn
          refine wpAny_bind (wpAny_field he hd2 h1 ?_)
          rw [if_neg (show ¬ ((Value.ref T == Value.none) = true) from by simp)]
          have fin2 : ∀ h7 fl7, Fly (hideAll B [H2.objs.size]) (env :: outer) e (.ref 58) dd .none fl7 h7 → h6.UpToSlots h7 → E (.ref e) { s₁ with heap := h7, toks := tk5 } := fun h7 fl7 R7 U7 => by
            refine hE hmay e dd G h7 _ FG ⟨⟨_, fl7, fun b o q => keepB b o (hB b o q) (fun z => ?_), fun b o q nm => keepB b o (hg b o q nm) (fun z => ?_), fun q hq => keepB _ _ (hkp q (.tail _ hq)) ((off3 q (hsub _ _ _ hInv' q hq)).2.1), R7⟩, ?_, fun q hq => hkn q (.tail _ hq)⟩
            · have := FG.keep b o (K.stays b o q)
              rw [z, hGC] at this; cases this
            · rw [z, hGC] at q; cases q
            · intro b o q nf
              obtain ⟨sl, q1⟩ := (hU.trans U₁) b o q nf
              have q2 : h6.get? b = some { o with slots := sl } := (hs6.2 b (fun z => by rw [z, hGC] at q; cases q)).trans q1
              obtain ⟨sl', q3⟩ := U7 b _ q2 nf
              exact ⟨sl', q3⟩
          first
            | exact wpAny_bind (wpAny_pure (wpAny_bind (fly_set R₂ fun h' hh hs => wpAny_throw (fin2 h' _ hh hs))))
            | exact wpAny_bind (fly_set R₂ fun h' hh hs => wpAny_throw (fin2 h' _ hh hs))
        · obtain ⟨h₄, tk₄, news₄, rfl, F₄, N₄, off₄, R₄⟩ := h₄
          have zI := (N₄ (I, _) List.mem_cons_self).1
          have zC := (N₄ (H2.objs.size, oC) (List.mem_cons_of_mem _ List.mem_cons_self)).1
          have zD := (N₄ (s₂.heap.objs.size, lst ys) (List.mem_cons_of_mem _ (List.mem_cons_of_mem _ List.mem_cons_self))).1
          have N₄' : News h₀ L h₄ news₄ := fun p hp => N₄ p (List.mem_cons_of_mem _ (List.mem_cons_of_mem _ (List.mem_cons_of_mem _ hp)))
          have hst₄ : IsRangeIter h₄ I (a + ((i + 1 : Nat) : Nat) * 1) ((n : Int) - ((i + 1 : Nat) : Nat)) 1 := zI
          refine append_at (hsz := by show ys.toArray.size ≤ sizeLine; rw [List.size_toArray, hyl]; exact Nat.le_trans hi hsz) zD fun h₅ hs₅ hD₅ => ?_
          have off4 := off₄.mem
          refine ⟨n + 1 - (i + 1), by omega, h₅, tk₄, i + 1, ys ++ [y], _, news₄, rfl, hlt, rfl, by rw [List.length_append, List.length_singleton, hyl], W.frame (i + 1) _ _ hst₄ fun b hb o e => hs₅.extBut b o (fun q => by
            have q' : b = s₂.heap.objs.size := q
            rw [List.mem_singleton.mp hb] at q'; exact hDI q') e, F₄.change hs₅ hDL hD₀,
            (hoC.ns zC).sameBut hs₅ (Ne.symm hDC), fun p hp => ?_, off₄, R₄⟩
          rcases List.mem_cons.mp hp with rfl | hp
          · exact ⟨hD₅.trans (congrArg some (lst_snoc ys y)), hDL, hD₀⟩
          · exact ⟨hs₅.extBut _ _ (off4 p hp).2.2 (N₄' p hp).1, (N₄' p hp).2⟩
      · obtain rfl : i = n := Nat.le_antisymm hi (Nat.not_lt.mp hlt)
        refine W.done _ _ _ hst' fun h₂ tk₂ hk₂ => ?_
        have off3 := off'.mem
        have F2 := LCg.fr_but F' hk₂ hIL hI₀
        have N2 : News h₀ L h₂ ((s₂.heap.objs.size, lst ys) :: news') := news_but N' hk₂ fun p hp => by
          rcases List.mem_cons.mp hp with rfl | hp
          · exact Ne.symm hDI
          · exact (off3 p hp).1
        rw [← hRR]
        refine ⟨m', hn'.at' fun o e => hk₂ _ o (by simpa using Ne.symm hCI) e, fun h'' hs'' => fin ys news' _ h'' _ hInv' (F2.change hs'' hCL hC₀) (fun p hp => ?_) off'.one⟩
        refine ⟨hs''.extBut _ _ ?_ (N2 p hp).1, (N2 p hp).2⟩
        rcases List.mem_cons.mp hp with rfl | hp
        · exact hDC
        · exact (off3 p hp).2.1
    · rcases List.mem_cons.mp hp with rfl | hp
      · exact ⟨hacc, hDL, hD₀⟩
      · exact ⟨old _ _ (N p hp).1, (N p hp).2⟩
  rw [← hRR] at loop
  exact codeAny_compStart_list (loop _ rfl) (W.self 0 _ _ _ hst₁ (loop _ rfl))
def RangeSrc (prog : Program) (w : World) (A : Around) (base h₀ : Heap) (L : Addr) (m : Str → Option Value) (env : Env) (outer : List Env) (elt : Expr) (x : Str) (scope : Scope) (cl : List (Str × Addr)) (kpn : List (Addr × Obj)) (may : Prop) (Inv : Nat → List Value → List (Addr × Obj) → Prop) (a : Int) (n : Nat) (Q E : Value → Shared → Prop) (xv : Value) (s₁ : Shared) : Prop :=
  ∃ r b t u v news, xv = .ref r ∧ Fr h₀ L s₁.heap m ∧ News h₀ L s₁.heap news ∧ IsRange s₁.heap r a b 1 t u v ∧ Builtin.Range.small a b 1 = true ∧ Builtin.Range.rangeSize a b 1 = ((n : Nat) : Int) ∧ Inv 0 [] news ∧
      TurnC prog w A base h₀ L m env outer elt x scope cl kpn may Inv a n s₁ ∧
      (may → ∀ e dd G h' tk', Fr h₀ L G m → HeldA base G (env :: outer) e (.ref 58) dd .none kpn h' → E (.ref e) { s₁ with heap := h', toks := tk' }) ∧
      (∀ ys news D h tk, Inv n ys news → Fr h₀ L h m → News h₀ L h ((D, lst ys) :: news) → Off1 D news → Q (.ref D) { s₁ with heap := h, toks := tk })
def RangeSrcV (prog : Program) (w : World) (A : Around) (base h₀ : Heap) (L : Addr) (m : Str → Option Value) (env : Env) (outer : List Env) (elt : Expr) (x : Str) (scope : Scope) (cl : List (Str × Addr)) (kpn : List (Addr × Obj)) (may : Prop) (Inv : Nat → List Value → List (Addr × Obj) → Prop) (a : Int) (Q E : Value → Shared → Prop) (xv : Value) (s₁ : Shared) : Prop :=
  ∃ n, n ≤ sizeLine ∧ RangeSrc prog w A base h₀ L m env outer elt x scope cl kpn may Inv a n Q E xv s₁
theorem lc_rangeV {elt iter : Expr} {x : Str} {px : Pos} {scope : Scope} {cl : List (Str × Addr)} {pos : Pos} {a : Int} (Inv : Nat → List Value → List (Addr × Obj) → Prop) {Q : Value → Shared → Prop}
    (F₀ : Fr h₀ L s.heap m) (K : Below A₀ base outer h₀) (hf : env.frame = some L) (hh : (A₀.deeper env).handled = none)
    (hclos : closureFor scope env = pure cl) (hcell : ∀ y ∈ scope.names, y.2 ≠ .cell) (hkind : scope.kind = .function)
    (hnames : ∀ y ∈ scope.names, y.2 = .local → scope.names.lookup y.1 = some .local) (hx : scope.names.lookup x = some .local)
    (hsub : ∀ i ys news, Inv i ys news → ∀ q ∈ kpn, q ∈ news)
    (h : wpAny (model prog w) (A₀.deeper env) (eval iter env) (RangeSrcV prog w (A₀.deeper env) base h₀ L m env outer elt x scope cl kpn may Inv a Q E) E s)
    (hs : ∀ x, foldedSetIterable iter env x = pure x := by intro _; rfl) :
    wpAny (model prog w) (A₀.deeper env) (eval (.ListComp elt [⟨.Name x px, iter, [], 0⟩] scope pos) env) Q E s := by
  rw [eval_ListComp]
  refine wpAny_comprehension_free (use := none) rfl hs hclos hkind hnames (wpAny_mono h (fun xv s₁ h₁ => ?_) fun _ _ e => e)
  obtain ⟨n, hsz, r, b, t, u, v, news, rfl, F, N, hr, hsm, hn, hI, turn, hE, fin⟩ := h₁
  refine wpAny_pyIter_range hr hsm ?_
  refine block_R (s₁ := s₁) (a := a) (n := n) Inv K hf hh ⟨_, rfl⟩ hsz hcell hkind hx (by show IsRangeIter _ _ _ _ _; rw [hn]; simpa using Heap.get?_push_size _ rfl) ?_
    (F.keeps fun _ _ e => Heap.get?_push_of_some _ e) (N.grown fun _ _ e => Heap.get?_push_of_some _ e) (Nat.ne_of_lt F.ns.lt) (next_is_new F) (fun p hp => Nat.ne_of_lt (Heap.lt_size (N p hp).1)) hI hsub turn hE fin
  show s₁.heap.objs.size < (s₁.heap.push _).objs.size
  rw [Heap.size_push]; exact Nat.lt_succ_self _
theorem lc_range {elt iter : Expr} {x : Str} {px : Pos} {scope : Scope} {cl : List (Str × Addr)} {pos : Pos} {a : Int} {n : Nat} (Inv : Nat → List Value → List (Addr × Obj) → Prop) {Q : Value → Shared → Prop}
    (F₀ : Fr h₀ L s.heap m) (K : Below A₀ base outer h₀) (hf : env.frame = some L) (hh : (A₀.deeper env).handled = none) (hsz : n ≤ sizeLine)
    (hclos : closureFor scope env = pure cl) (hcell : ∀ y ∈ scope.names, y.2 ≠ .cell) (hkind : scope.kind = .function)
    (hnames : ∀ y ∈ scope.names, y.2 = .local → scope.names.lookup y.1 = some .local) (hx : scope.names.lookup x = some .local)
    (hsub : ∀ i ys news, Inv i ys news → ∀ q ∈ kpn, q ∈ news)
    (h : wpAny (model prog w) (A₀.deeper env) (eval iter env) (RangeSrc prog w (A₀.deeper env) base h₀ L m env outer elt x scope cl kpn may Inv a n Q E) E s)
    (hs : ∀ x, foldedSetIterable iter env x = pure x := by intro _; rfl) :
    wpAny (model prog w) (A₀.deeper env) (eval (.ListComp elt [⟨.Name x px, iter, [], 0⟩] scope pos) env) Q E s :=
  lc_rangeV Inv F₀ K hf hh hclos hcell hkind hnames hx hsub (wpAny_mono h (fun _ _ h₁ => ⟨n, hsz, h₁⟩) fun _ _ e => e) hs
end
end
/-! W8 -/
section
section
variable {w : World} {mean : ExcName → Option Value} {mg mb : Str → Option Value} {A₀ : Around} {base h₀ : Heap} {outer : List Env} {L : Addr} {m : Str → Option Value} {news : List (Addr × Obj)} {h : Heap} {gs : Array GenState} {dr : Drawn} {tk : Nat} {os : OsState} {cs : Scope}
    {dp un : Nat} {gd : Option (List Code)} {cn : Str} {a : Addr} {ccd : Value} {cl : List (Str × Addr)} {Q E : Value → Shared → Prop}
end
section
variable {M : Model} {A : Around} {E0 : Value → Shared → Prop} {E1 : Value → Shared → Prop} {base g h₀ : Heap} {outer : List Env} {L L₁ a : Addr} {m m₁ : Str → Option Value} {env : Env} {news news' : List (Addr × Obj)} {gs : Array GenState} {dr : Drawn} {os : OsState}
theorem short_nextX (hf : env.frame = some L₁) (hk : env.scope.kind = .function) (K : Below A base outer g) (FG : Fr h₀ L g m) (he : EShort E0 base h₀ L m outer news gs dr os) (hsub : ∀ q ∈ news, q ∈ news') :
    EShort (fun e s' => wpAny M (A.deeper env) (leaving env e) (fun _ s'' => E0 e s'') (fun e' s'' => E1 e' s'') s') base g L₁ m₁ (env :: outer) news' gs dr os :=
  fun _ _ _ _ _ F2 R => throw_nextX hf hk K F2 (R.less hsub) fun _ R3 => he _ _ _ _ _ FG R3
theorem quic_nextX {c : Int} (hf : env.frame = some L₁) (hk : env.scope.kind = .function) (K : Below A base outer g) (FG : Fr h₀ L g m) (he : EQuic E0 base h₀ L m outer news gs dr os c) (hsub : ∀ q ∈ news, q ∈ news') :
    EQuic (fun e s' => wpAny M (A.deeper env) (leaving env e) (fun _ s'' => E0 e s'') (fun e' s'' => E1 e' s'') s') base g L₁ m₁ (env :: outer) news' gs dr os c :=
  fun _ _ _ _ _ _ _ _ _ F2 R hO hc => throw_nextX hf hk K F2 (R.less (fun q hq => by
    rcases List.mem_cons.mp hq with rfl | hq
    · exact .head _
    · exact .tail _ (hsub q hq))) fun _ R3 => he _ _ _ _ _ _ _ _ _ FG R3 hO hc
theorem pk3 {a b c : Addr × Obj} {r : List (Addr × Obj)} {h : Heap} (N : News h₀ L h (a :: b :: c :: r)) : News h₀ L h (b :: c :: a :: r) := by
  refine cb_drop N ?_
  intro p hp
  simp only [List.mem_cons] at hp ⊢
  grind
theorem name_cell {x : Str} {pos : Pos} {c : Addr} {o : Obj} {v : Value} {s : Shared} {E : Value → Shared → Prop} {Q : Value → Shared → Prop} (N : News h₀ L s.heap news) (hm : (c, o) ∈ news) (hd : o.data = .cell (some v)) (h : Q v s) (hk : env.scope.kind = .function) (hx : env.kindOf x = some .cell) (hc : env.cells.lookup x = some c) (hb : (x == ("__debug__" : Str)) = false := by decide) :
    wpAny M A (eval (.Name x pos) env) Q E s := wpAny_Name (wpAny_loadName_cell hk hx hc ⟨o, N.get hm, hd⟩ h) hb
theorem pkI {a b c x dx : Addr × Obj} {r : List (Addr × Obj)} {h : Heap} (N : News h₀ L h (a :: b :: c :: x :: dx :: r)) : News h₀ L h (x :: dx :: a :: b :: c :: r) := by
  refine cb_drop N ?_
  intro p hp
  simp only [List.mem_cons] at hp ⊢
  grind
theorem pkJ {a b c x dx : Addr × Obj} {r : List (Addr × Obj)} {h : Heap} (N : News h₀ L h (x :: dx :: a :: b :: c :: r)) : News h₀ L h (a :: b :: c :: x :: dx :: r) := by
  refine cb_drop N ?_
  intro p hp
  simp only [List.mem_cons] at hp ⊢
  grind
theorem EShort.more (he : EShort E0 base h₀ L m outer news gs dr os) (hsub : ∀ q ∈ news, q ∈ news') : EShort E0 base h₀ L m outer news' gs dr os :=
  fun _ _ _ _ _ F2 R => he _ _ _ _ _ F2 (R.less hsub)
end
theorem fin_frT {Q : Value → Shared → Prop} {w : World} {h₀ : Heap} {L : Addr} {m : Str → Option Value} {news tl : List (Addr × Obj)} {gs : Array GenState} {dr : Drawn} {os : OsState} {x dx y : Addr} {t1 t2 u : Tok} {b : Array UInt8} {tb : Tok} {ds : List D} {e : Nat} {vs : List Value} {h' : Heap} {tk' : Nat} {rest : List (Addr × Obj)}
    (hQ : OutF Q w h₀ L m news gs dr os x dx t1 t2 b tb (.tuple ds) e) (lF : Fr h₀ L h' m) (lN : News h₀ L h' ((y, tupO vs 0) :: rest)) (hr : ∀ p ∈ (x, instObj 135 dx) :: (dx, rdO w t1 t2 b tb e u) :: (tl ++ news), p ∈ rest) (hl : x < y ∧ dx < y ∧ ∀ q ∈ news, q.1 < y) (hD : DAll tl vs ds)
    (ho : ∀ p ∈ tl, x < p.1 ∧ dx < p.1 ∧ ∀ q ∈ news, q.1 < p.1) : Q (.ref y) ⟨h', gs, dr, tk', os⟩ := by
  refine hQ (.ref y) ((y, tupO vs 0) :: tl) u h' tk' (.tuple (.head _) (hD.mono fun _ h => .tail _ h)) lF (fun p hp => lN p ?_) ?_
  · rcases List.mem_cons.mp hp with rfl | hp
    · exact .tail _ (hr _ (.head _))
    · rcases List.mem_cons.mp hp with rfl | hp
      · exact .tail _ (hr _ (.tail _ (.head _)))
      · rcases List.mem_append.mp hp with hp | hp
        · rcases List.mem_cons.mp hp with rfl | hp
          · exact .head _
          · exact .tail _ (hr _ (.tail _ (.tail _ (List.mem_append.mpr (.inl hp)))))
        · exact .tail _ (hr _ (.tail _ (.tail _ (List.mem_append.mpr (.inr hp)))))
  · intro p hp
    rcases List.mem_cons.mp hp with rfl | hp
    · exact hl
    · exact ho p hp
section
variable {w : World} {mean : ExcName → Option Value} {mg mb : Str → Option Value} {A₀ : Around} {base h₀ : Heap} {outer : List Env} {L : Addr} {m : Str → Option Value} {news : List (Addr × Obj)} {h : Heap} {gs : Array GenState} {dr : Drawn} {tk : Nat} {os : OsState} {cs : Scope}
    {dp un : Nat} {gd : Option (List Code)} {cn : Str} {a : Addr} {ccd : Value} {cl : List (Str × Addr)} {Q E : Value → Shared → Prop}
set_option maxHeartbeats 40000000 in
theorem p_ack {told : Int} {tt : Tok} {x dx : Addr} {t1 t2 : Tok} {b : Array UInt8} {ks : List Int} {tb ta : Tok} {at_ : Nat} (B : Below A₀ base outer h₀) (F : Fr h₀ L h m) (X : (Mine.hd.heap_39 w.params).In h₀) (N : News h₀ L h ((x, instObj 135 dx) :: (dx, rdO w t1 t2 b tb at_ ta) :: news)) (T : Top0 mean mg mb h₀) (hk : cs.kind = .function) (hd : dp + 11 < recursionLimit) (hu : un + 88 < cLine)
    (hb : KBw.bInts b = ks) (hbl : ks.length ≤ 100) (hxd : x ≠ dx) (hdx : ∀ p ∈ news, p.1 ≠ dx) (ht : told = 2 ∨ told = 3)
    (he : sAck ks at_ told = none → EShort E base h₀ L m (envX cn cs L a ccd cl :: outer) news gs dr os) (hq : sAck ks at_ told = none → EQuic E base h₀ L m (envX cn cs L a ccd cl :: outer) news gs dr os 7)
    (hs : ∀ d e, sAck ks at_ told = some (d, e) → OutF Q w h₀ L m news gs dr os x dx t1 t2 b tb d e) :
    wpAny (model Challenge.rw_no0080_01.row.prog w) (ktrTop dp un gd cn cs L a ccd cl outer) (call (.ref 187) [.ref x, .int told tt]) Q E ⟨h, gs, dr, tk, os⟩ := by
  have hoc := oct_of hb
  refine wpAny_call ?_
  refine' code_defC (binds := [(Str.ofString "reader", .ref x), (Str.ofString "told", .int told tt)]) B F X N T rfl rfl hk ?k6 ?k7 ?k8 ?k9 ?kB ?kD ?_ ?c2 ?c3 ?c4
  case k6 => k_is
  case k7 => k_is
  case k8 => exact room0 hd
  case k9 => exact BindsTo.of_eq rfl
  case kB => exact rfl
  case kD => decide +kernel
  case c2 => exact rfl
  case c3 => exact rfl
  case c4 => exact rfl
  intro g' L' h' tk' cells' FG' F' N' Y' B' X' T' l1
  k_cells Y'
  (try simp only [List.cons_append, List.nil_append] at N')
  (try k_fold)
  refine let_goal ?_
  intro A1 Q1 E1
  replace N' := pk3 N'
  have lx := l1 (x, _) (.head _)
  have ldx := l1 (dx, _) (.tail _ (.head _))
  have lnews : ∀ p ∈ news, p.1 < L' := fun p hp => l1 p (.tail _ (.tail _ hp))
  rename_i oc dcell
  have hsub : ∀ q ∈ news, q ∈ (L' + 1, oc) :: news := fun q hq => .tail _ hq
  have hdx2 : ∀ p ∈ (L' + 1, oc) :: news, p.1 ≠ dx := fun p hp => by
    rcases List.mem_cons.mp hp with rfl | hp
    · exact Nat.ne_of_gt (Nat.lt_succ_of_lt ldx)
    · exact hdx p hp
  k_steps
  unfold StopT
  try dsimp only at *
  refine' p_ranges (by assumption) (by assumption) (by assumption) (by assumption) (by assumption) rfl ?hd1 ?hu1 hb hbl hxd hdx2 ?he1 ?hq1 ?hs1
  case hd1 => exact room (k := 9) hd rfl
  case hu1 => exact roomU (k := 72) hu rfl
  case he1 =>
    intro hv
    exact short_nextX rfl rfl B' FG' (he (by unfold sAck; rw [hv]; rfl)) hsub
  case hq1 =>
    intro hv
    exact quic_nextX rfl rfl B' FG' (hq (by unfold sAck; rw [hv]; rfl)) hsub
  case hs1 =>
    intro delay ds e hsr y T1 rs TL t u h2 tk2 hD F2 N2 hTL
    k_steps
    · unfold StopT
      rename told = 3 => h3
      rename Fr g' _ _ _ => lF
      rename News g' _ _ _ => lN
      generalize hrest : (y, tupO [Value.int delay t, Value.ref T1] 0) :: (T1, tupO rs 0) :: TL ++ (L' + 1, oc) :: news = rest at lN
      have hrdx : ∀ p ∈ rest, p.1 ≠ dx := fun p hp => by
        rw [← hrest] at hp
        rcases List.mem_append.mp hp with hp | hp
        · exact Nat.ne_of_gt (hTL p hp).2.1
        · exact hdx2 p hp
      have hrn : ∀ q ∈ news, q ∈ rest := fun q hq => by rw [← hrest]; exact List.mem_append.mpr (.inr (.tail _ hq))
      have hcm : (L' + 1, oc) ∈ rest := by rw [← hrest]; exact List.mem_append.mpr (.inr (.head _))
      with_unfolding_all refine' lc_range (kpn := news) (may := sAck ks at_ told = none) (a := 0) (n := 3) (cl := [(Str.ofString "reader", L' + 1)]) (fun i ys nw => ∃ l ea ua, nw = (x, instObj 135 dx) :: (dx, rdO w t1 t2 b tb ea ua) :: rest ∧ nums ks e i = some (l, ea) ∧ IntsAre ys l) lF B' rfl rfl ?hsz ?hclos ?hcell ?hkind ?hnames ?hx ?hsub ?_ ?hset
      case hsz => decide
      case hclos => with_unfolding_all rfl
      case hcell => decide
      case hkind => with_unfolding_all rfl
      case hnames => decide
      case hx => with_unfolding_all rfl
      case hset => intro _; with_unfolding_all rfl
      case hsub =>
        rintro i ys nw ⟨l, ea, ua, rfl, _⟩ q hq
        exact .tail _ (.tail _ (hrn q hq))
      k_steps
      try dsimp only at *
      rename IsRange _ _ _ _ _ _ _ _ => lR
      rename Fr g' L' _ _ => lF1
      rename News g' L' _ _ => lN1
      refine ⟨_, _, _, _, _, _, rfl, lF1, lN1, lR, rfl, rfl, ⟨[], e, u, rfl, rfl, .nil⟩, ?turn, ?hE, ?fin⟩
      case turn =>
        rintro i ys nw I oI C oC D m₂ h tk t9 Ee hi ⟨l, ea, ua, rfl, hnum, hints⟩ hoC hm2 F9 N9 off9 hne hmay
        have hod := off9.mem (dx, _) (.tail _ (.head _))
        replace N9 := pkI N9
        have hdx3 : ∀ p ∈ (I, oI) :: (C, oC) :: (D, PyProof.Rows.LCg.lst ys) :: rest, p.1 ≠ dx := fun p hp => by
          rcases List.mem_cons.mp hp with rfl | hp
          · exact Ne.symm hod.1
          rcases List.mem_cons.mp hp with rfl | hp
          · exact Ne.symm hod.2.1
          rcases List.mem_cons.mp hp with rfl | hp
          · exact Ne.symm hod.2.2
          · exact hrdx p hp
        clear lF1 lN1 lR
        refine MethodCall_ ?_
        refine name_cell (v := .ref x) N9 (.tail _ (.tail _ (.tail _ (.tail _ (.tail _ hcm))))) dcell ?_ (by with_unfolding_all rfl) (by with_unfolding_all rfl) (by with_unfolding_all rfl)
        k_steps
        unfold StopT
        try dsimp only at *
        refine' p_varint (by assumption) (by assumption) (by assumption) (by assumption) (by assumption) rfl ?hd2 ?hu2 hb hbl hxd hdx3 ?he2 ?hs2
        case hd2 => exact room (k := 6) hd rfl
        case hu2 => exact roomU (k := 48) hu rfl
        case he2 =>
          intro hv
          refine (hmay ?_).more fun q hq => ?_
          · unfold sAck; rw [hsr]; show (nums ks e (if told = 3 then 3 else 0)).map _ = none
            rw [if_pos h3, show nums ks e 3 = none from itO_none ((itO_next hnum).trans (by show (vint ks ea).map _ = none; rw [hv]; rfl)) hi]; rfl
          · rcases List.mem_cons.mp hq with rfl | hq
            · exact .tail _ (.head _)
            · exact .tail _ (.tail _ (.tail _ (hrn q hq)))
        case hs2 =>
          intro n ep hv t8 u8 h8 tk8 F8 N8
          try dsimp only
          refine ⟨_, _, (x, instObj 135 dx) :: (dx, rdO w t1 t2 b tb ep u8) :: rest, rfl, F8, pkJ N8, ?_, ⟨l ++ [n], ep, u8, rfl, (itO_next hnum).trans (by show (vint ks ea).map _ = _; rw [hv]; rfl), ints_snoc hints⟩⟩
          refine LCg.Off3.of fun p hp => ?_
          rcases List.mem_cons.mp hp with rfl | hp
          · exact off9.mem (x, _) (.head _)
          rcases List.mem_cons.mp hp with rfl | hp
          · exact hod
          · exact off9.mem p (.tail _ (.tail _ hp))
      case hE =>
        intro hspec e9 dd9 G9 h9 tk9 F9 R9
        exact heldA_leave rfl B' F9 R9 fun h3 R3 => he hspec _ _ _ _ _ FG' R3
      case fin =>
        rintro ys nw D h tk ⟨l, ea, ua, rfl, hnum, hints⟩ F9 N9 off9
        clear lF1 lN1 lR
        have hll := nums_length hnum
        have hil := hints.length
        k_steps
        (try unfold StopT)
        rename Fr g' _ _ _ => lF6
        rename News g' _ _ _ => lN6
        refine' kde_tupleOf lF6 lN6 (News.isList lN6 (.head _)) (by rw [List.size_toArray]; omega) rfl ?_
        intro T2 h6 lF7 lN7 l7
        k_steps
        rename Fr h₀ _ _ _ => lF8
        rename News h₀ _ _ _ => lN8
        rename T2 < _ ∧ D < _ ∧ _ => l9
        have hrl := tb_ltOf l9.2.2.2.2
        have hv3 : sAck ks at_ told = some (.tuple [.str (Str.ofString "ack"), .int delay, .tuple ds, .tuple (l.map Mine.D.int)], ea) := by
          unfold sAck; rw [hsr]; show (nums ks e (if told = 3 then 3 else 0)).map _ = _; rw [if_pos h3, hnum]; show some (_, _) = _; rw [if_pos h3]; try rfl
        have hT1r : ∀ p ∈ (T1, tupO rs 0) :: TL, p ∈ rest := fun p hp => by rw [← hrest]; exact List.mem_append.mpr (.inl (.tail _ hp))
        refine fin_frT (tl := (T2, tupO ys 0) :: (T1, tupO rs 0) :: TL) (u := ua) (hs _ _ hv3) lF8 lN8 ?_ ⟨l9.2.2.1, l9.2.2.2.1, fun q hq => hrl q (hrn q hq)⟩ (.cons (.str _ _) (.cons (.int _ _) (.cons (.tuple (.tail _ (.head _)) (hD.mono fun _ h => .tail _ (.tail _ h))) (.cons (.tuple (.head _) (ints_dall hints)) .nil)))) ?_
        · intro p hp
          rcases List.mem_cons.mp hp with rfl | hp
          · exact .tail _ (.tail _ (.head _))
          rcases List.mem_cons.mp hp with rfl | hp
          · exact .tail _ (.tail _ (.tail _ (.head _)))
          rcases List.mem_append.mp hp with hp | hp
          · rcases List.mem_cons.mp hp with rfl | hp
            · exact .head _
            · exact .tail _ (.tail _ (.tail _ (.tail _ (hT1r p hp))))
          · exact .tail _ (.tail _ (.tail _ (.tail _ (hrn p hp))))
        · intro p hp
          rcases List.mem_cons.mp hp with rfl | hp
          · exact ⟨l7 (x, _) (.tail _ (.head _)), l7 (dx, _) (.tail _ (.tail _ (.head _))), fun q hq => l7 q (.tail _ (.tail _ (.tail _ (hrn q hq))))⟩
          · have := hTL p (.tail _ hp)
            exact ⟨this.1, this.2.1, fun q hq => this.2.2 q (.tail _ hq)⟩
    · rename told ≠ 3 => h3
      rename Fr h₀ _ _ _ => lF8
      rename News h₀ _ _ _ => lN8
      rename x < _ ∧ dx < _ ∧ _ => l9
      have hrl := tb_ltOf l9.2.2
      have hv3 : sAck ks at_ told = some (.tuple [.str (Str.ofString "ack"), .int delay, .tuple ds, .none], e) := by
        unfold sAck; rw [hsr]; show (nums ks e (if told = 3 then 3 else 0)).map _ = _; rw [if_neg h3]; show some (_, _) = _; rw [if_neg h3]; try rfl
      refine fin_frT (tl := (T1, tupO rs 0) :: TL) (u := u) (hs _ _ hv3) lF8 lN8 ?_ ⟨l9.1, l9.2.1, fun q hq => hrl q (List.mem_append.mpr (.inr (.tail _ hq)))⟩ (.cons (.str _ _) (.cons (.int _ _) (.cons (.tuple (.head _) (hD.mono fun _ h => .tail _ h)) (.cons .none .nil)))) ?_
      · intro p hp
        rcases List.mem_cons.mp hp with rfl | hp
        · exact .head _
        rcases List.mem_cons.mp hp with rfl | hp
        · exact .tail _ (.head _)
        rcases List.mem_append.mp hp with hp | hp
        · exact .tail _ (.tail _ (List.mem_append.mpr (.inl (.tail _ hp))))
        · exact .tail _ (.tail _ (List.mem_append.mpr (.inr (.tail _ hp))))
      · intro p hp
        have := hTL p (.tail _ hp)
        exact ⟨this.1, this.2.1, fun q hq => this.2.2 q (.tail _ hq)⟩
end
section
end
end
/-! Wb -/
section
section
variable {w : World} {mean : ExcName → Option Value} {mg mb : Str → Option Value} {A₀ : Around} {base h₀ : Heap} {outer : List Env} {L : Addr} {m : Str → Option Value} {news : List (Addr × Obj)} {h : Heap} {gs : Array GenState} {dr : Drawn} {tk : Nat} {os : OsState} {cs : Scope}
    {dp un : Nat} {gd : Option (List Code)} {cn : Str} {a : Addr} {ccd : Value} {cl : List (Str × Addr)} {Q E : Value → Shared → Prop}
end
local macro_rules | `(tactic| walk_at "exec If") => `(tactic| with_reducible first | refine stop_bool ?_ | refine stop_chain ?_)
local macro_rules | `(tactic| walk_at $s:str) => if ["assign Tuple", "binaryOp Add ref ref"].contains s.getString then `(tactic| refine stop_ ?_) else Lean.Macro.throwUnsupported
local macro_rules | `(tactic| walk_at "subscriptTail") => `(tactic| ((with_reducible show wpAny _ _ (subscriptTail _ _ (Value.ref 140) _) _ _ _); refine stop_ ?_))
/-- what read_body answers -/
noncomputable def sBod (ks : List Int) (at_ : Nat) (told : Int) : Option (D × Nat) :=
  if told = 0 then some (.tuple [.str (Str.ofString "padding"), .int ((zskip ks at_ : Int) - at_ + 1)], zskip ks at_) else sBody ks at_ told
theorem bod_ack {ks : List Int} {at_ : Nat} {told : Int} (h : told = 2 ∨ told = 3) : sBod ks at_ told = sAck ks at_ told := by
  unfold sBod sBody; rw [if_neg (by omega), if_pos h]
theorem bod_stream {ks : List Int} {at_ : Nat} {told : Int} (h : 8 ≤ told ∧ told < 16) : sBod ks at_ told = sStream ks at_ told := by
  unfold sBod sBody; rw [if_neg (by omega), if_neg (by omega), if_pos h]
theorem bod_given {ks : List Int} {at_ : Nat} {told : Int} (h : told = 24) : sBod ks at_ told = sGiven ks at_ := by
  unfold sBod sBody; rw [if_neg (by omega), if_neg (by omega), if_neg (by omega), if_pos h]
theorem bod_other {ks : List Int} {at_ : Nat} {told : Int} (h0 : told ≠ 0) (h1 : ¬ (told = 2 ∨ told = 3)) (h2 : ¬ (8 ≤ told ∧ told < 16)) (h3 : told ≠ 24) : sBod ks at_ told = sOther ks at_ told := by
  unfold sBod sBody; rw [if_neg h0, if_neg h1, if_neg h2, if_neg h3]
theorem pln_pick {w : World} {h : Heap} (X : (Mine.hd.heap_39 w.params).In h) (told : Int) :
    (∃ y nm n t1 t2, n ≤ 3 ∧ plainK told = some (nm, n) ∧ valueAt [((1 : Int), Value.ref 141), (4, .ref 142), (5, .ref 143), (16, .ref 144), (17, .ref 145), (20, .ref 146), (21, .ref 147), (25, .ref 148), (30, .ref 149)] told = some (.ref y) ∧ h.get? y = some (tupO [.str nm t1, .int (n : Int) t2] 0)) ∨
    (plainK told = none ∧ valueAt [((1 : Int), Value.ref 141), (4, .ref 142), (5, .ref 143), (16, .ref 144), (17, .ref 145), (20, .ref 146), (21, .ref 147), (25, .ref 148), (30, .ref 149)] told = none) := by
  by_cases e1 : told = 1
  · subst e1; obtain ⟨_, _, q⟩ := pln_141 X; exact .inl ⟨_, _, _, _, _, by decide, rfl, rfl, q⟩
  by_cases e4 : told = 4
  · subst e4; obtain ⟨_, _, q⟩ := pln_142 X; exact .inl ⟨_, _, _, _, _, by decide, rfl, rfl, q⟩
  by_cases e5 : told = 5
  · subst e5; obtain ⟨_, _, q⟩ := pln_143 X; exact .inl ⟨_, _, _, _, _, by decide, rfl, rfl, q⟩
  by_cases e16 : told = 16
  · subst e16; obtain ⟨_, _, q⟩ := pln_144 X; exact .inl ⟨_, _, _, _, _, by decide, rfl, rfl, q⟩
  by_cases e17 : told = 17
  · subst e17; obtain ⟨_, _, q⟩ := pln_145 X; exact .inl ⟨_, _, _, _, _, by decide, rfl, rfl, q⟩
  by_cases e20 : told = 20
  · subst e20; obtain ⟨_, _, q⟩ := pln_146 X; exact .inl ⟨_, _, _, _, _, by decide, rfl, rfl, q⟩
  by_cases e21 : told = 21
  · subst e21; obtain ⟨_, _, q⟩ := pln_147 X; exact .inl ⟨_, _, _, _, _, by decide, rfl, rfl, q⟩
  by_cases e25 : told = 25
  · subst e25; obtain ⟨_, _, q⟩ := pln_148 X; exact .inl ⟨_, _, _, _, _, by decide, rfl, rfl, q⟩
  by_cases e30 : told = 30
  · subst e30; obtain ⟨_, _, q⟩ := pln_149 X; exact .inl ⟨_, _, _, _, _, by decide, rfl, rfl, q⟩
  refine .inr ⟨?_, valueAt_none ?_⟩
  · unfold plainK; simp only [e1, e20, e21, e25, e30, e4, e5, e16, e17, if_false]
  · simp only [List.forall_mem_cons, List.not_mem_nil, false_implies, implies_true, and_true]
    exact ⟨Ne.symm e1, Ne.symm e4, Ne.symm e5, Ne.symm e16, Ne.symm e17, Ne.symm e20, Ne.symm e21, Ne.symm e25, Ne.symm e30⟩
theorem plainK_not {told : Int} {nm : Str} {n : Nat} (h : plainK told = some (nm, n)) : told ≠ 0 ∧ ¬ (told = 2 ∨ told = 3) ∧ ¬ (8 ≤ told ∧ told < 16) ∧ told ≠ 24 := by
  unfold plainK at h
  repeat' split at h
  all_goals first | (subst told; decide) | (cases h; done)
theorem outC {Q : Value → Shared → Prop} {w : World} {h₀ : Heap} {L : Addr} {m : Str → Option Value} {news tl : List (Addr × Obj)} {gs : Array GenState} {dr : Drawn} {os : OsState} {x dx : Addr} {t1 t2 u : Tok} {b : Array UInt8} {tb : Tok} {d : D} {e : Nat} {h' : Heap} {tk' : Nat} {c : Addr × Obj} {v : Value}
    (hQ : OutF Q w h₀ L m news gs dr os x dx t1 t2 b tb d e) (hD : DIn tl v d) (lF : Fr h₀ L h' m) (lN : News h₀ L h' ((x, instObj 135 dx) :: (dx, rdO w t1 t2 b tb e u) :: (tl ++ c :: news))) (ho : ∀ p ∈ tl, x < p.1 ∧ dx < p.1 ∧ ∀ q ∈ c :: news, q.1 < p.1) : Q v ⟨h', gs, dr, tk', os⟩ := by
  refine hQ v tl u h' tk' hD lF (fun p hp => lN p ?_) fun p hp => ⟨(ho p hp).1, (ho p hp).2.1, fun q hq => (ho p hp).2.2 q (.tail _ hq)⟩
  rcases List.mem_cons.mp hp with rfl | hp
  · exact .head _
  rcases List.mem_cons.mp hp with rfl | hp
  · exact .tail _ (.head _)
  rcases List.mem_append.mp hp with hp | hp
  · exact .tail _ (.tail _ (List.mem_append.mpr (.inl hp)))
  · exact .tail _ (.tail _ (List.mem_append.mpr (.inr (.tail _ hp))))
section
variable {w : World} {mean : ExcName → Option Value} {mg mb : Str → Option Value} {A₀ : Around} {base h₀ : Heap} {outer : List Env} {L : Addr} {m : Str → Option Value} {news : List (Addr × Obj)} {h : Heap} {gs : Array GenState} {dr : Drawn} {tk : Nat} {os : OsState} {cs : Scope}
    {dp un : Nat} {gd : Option (List Code)} {cn : Str} {a : Addr} {ccd : Value} {cl : List (Str × Addr)} {Q E : Value → Shared → Prop}
set_option maxHeartbeats 40000000 in
theorem p_body {told : Int} {tt : Tok} {x dx : Addr} {t1 t2 : Tok} {b : Array UInt8} {ks : List Int} {tb ta : Tok} {at_ : Nat} (B : Below A₀ base outer h₀) (F : Fr h₀ L h m) (X : (Mine.hd.heap_39 w.params).In h₀) (N : News h₀ L h ((x, instObj 135 dx) :: (dx, rdO w t1 t2 b tb at_ ta) :: news)) (T : Top0 mean mg mb h₀) (hk : cs.kind = .function) (hd : dp + 12 < recursionLimit) (hu : un + 96 < cLine)
    (hb : KBw.bInts b = ks) (hbl : ks.length ≤ 100) (hxd : x ≠ dx) (hdx : ∀ p ∈ news, p.1 ≠ dx)
    (he : sBod ks at_ told = none → EShort E base h₀ L m (envX cn cs L a ccd cl :: outer) news gs dr os) (hq : sBod ks at_ told = none → EQuic E base h₀ L m (envX cn cs L a ccd cl :: outer) news gs dr os 7)
    (hs : ∀ d e, sBod ks at_ told = some (d, e) → OutF Q w h₀ L m news gs dr os x dx t1 t2 b tb d e) :
    wpAny (model Challenge.rw_no0080_01.row.prog w) (ktrTop dp un gd cn cs L a ccd cl outer) (call (.ref 234) [.ref x, .int told tt]) Q E ⟨h, gs, dr, tk, os⟩ := by
  have hoc := oct_of hb
  refine wpAny_call ?_
  refine' code_defC (binds := [(Str.ofString "reader", .ref x), (Str.ofString "told", .int told tt)]) B F X N T rfl rfl hk ?k6 ?k7 ?k8 ?k9 ?kB ?kD ?_ ?c2 ?c3 ?c4
  case k6 => k_is
  case k7 => k_is
  case k8 => exact room0 hd
  case k9 => exact BindsTo.of_eq rfl
  case kB => exact rfl
  case kD => decide +kernel
  case c2 => exact rfl
  case c3 => exact rfl
  case c4 => exact rfl
  intro g' L' h' tk' cells' FG' F' N' Y' B' X' T' l1
  k_cells Y'
  (try simp only [List.cons_append, List.nil_append] at N')
  (try k_fold)
  refine let_goal ?_
  intro A1 Q1 E1
  replace N' := pk3 N'
  have lx := l1 (x, _) (.head _)
  have ldx := l1 (dx, _) (.tail _ (.head _))
  have lnews : ∀ p ∈ news, p.1 < L' := fun p hp => l1 p (.tail _ (.tail _ hp))
  rename_i oc dcell
  have hsub : ∀ q ∈ news, q ∈ (L' + 1, oc) :: news := fun q hq => .tail _ hq
  have hdx2 : ∀ p ∈ (L' + 1, oc) :: news, p.1 ≠ dx := fun p hp => by
    rcases List.mem_cons.mp hp with rfl | hp
    · exact Nat.ne_of_gt (Nat.lt_succ_of_lt ldx)
    · exact hdx p hp
  k_steps
  · rename told = 0 => h0
    unfold StopT
    try dsimp only at *
    refine' p_padding (by assumption) (by assumption) (by assumption) (by assumption) (by assumption) rfl ?hd1 ?hu1 hb hbl hxd hdx2 ?hs1
    case hd1 => exact room (k := 6) hd rfl
    case hu1 => exact roomU (k := 48) hu rfl
    case hs1 =>
      intro v tl u h2 tk2 hD F2 N2 htl
      k_steps
      exact outC (hs _ _ (by unfold sBod; rw [if_pos h0])) hD (by assumption) (by assumption) htl
  · rename told ≠ 0 => h0
    unfold StopT
    rename Fr g' _ _ _ => lF
    refine g_in (dict_pln X') lF rfl ?_
    rcases pln_pick X' told with ⟨y, nm, n, u1, u2, hn3, hpk, hva, hy⟩ | ⟨hpk, hva⟩
    · obtain ⟨_, hn1, hn2, hn24⟩ := plainK_not hpk
      have hO : sBod ks at_ told = (nums ks at_ n).map fun r => (.tuple (.str nm :: r.1.map D.int), r.2) := by rw [bod_other h0 hn1 hn2 hn24]; unfold sOther; rw [hpk]
      rw [show (valueAt _ told).isSome = true from (congrArg Option.isSome hva).trans rfl]
      k_steps
      unfold StopT
      rename Fr g' _ _ _ => lF
      refine g_item (dict_pln X') lF hva ?_
      k_steps
      unfold StopT
      rename Fr g' _ _ _ => lF
      rename News g' _ _ _ => lN
      refine unpackN_ lF lN ⟨_, lF.keep _ _ hy, rfl, _, rfl⟩ rfl rfl rfl ?_
      clear lF lN
      intro h3 F3 N3
      k_steps
      unfold StopT
      rename Fr g' _ _ _ => lF
      rename News g' _ _ _ => lN
      rename x < _ ∧ dx < _ ∧ _ => l1s
      rename Addr => kl
      have lN2 := pk3 lN
      have l2 : x < kl ∧ dx < kl ∧ L' + 1 < kl ∧ AllLt kl news := l1s
      clear lN l1s
      generalize hrest : (kl, listOf [Value.str nm u1].toArray 0) :: (L' + 1, oc) :: news = rest at lN2
      have hrdx : ∀ p ∈ rest, p.1 ≠ dx := fun p hp => by
        rw [← hrest] at hp
        rcases List.mem_cons.mp hp with rfl | hp
        · exact Nat.ne_of_gt l2.2.1
        · exact hdx2 p hp
      have hrn : ∀ q ∈ news, q ∈ rest := fun q hq => by rw [← hrest]; exact .tail _ (.tail _ hq)
      have hcm : (L' + 1, oc) ∈ rest := by rw [← hrest]; exact .tail _ (.head _)
      have hkm : (kl, listOf [Value.str nm u1].toArray 0) ∈ rest := by rw [← hrest]; exact .head _
      with_unfolding_all refine' lc_range (kpn := news) (may := sBod ks at_ told = none) (a := 0) (n := n) (cl := [(Str.ofString "reader", L' + 1)]) (fun i ys nw => ∃ l ea ua, nw = (x, instObj 135 dx) :: (dx, rdO w t1 t2 b tb ea ua) :: rest ∧ nums ks at_ i = some (l, ea) ∧ IntsAre ys l) lF B' rfl rfl ?hsz ?hclos ?hcell ?hkind ?hnames ?hx ?hsub ?_ ?hset
      case hsz => rw [sizeLine_eq]; omega
      case hclos => with_unfolding_all rfl
      case hcell => decide
      case hkind => with_unfolding_all rfl
      case hnames => decide
      case hx => with_unfolding_all rfl
      case hset => intro _; with_unfolding_all rfl
      case hsub =>
        rintro i ys nw ⟨l, ea, ua, rfl, _⟩ q hq
        exact .tail _ (.tail _ (hrn q hq))
      k_steps
      try dsimp only at *
      rename IsRange _ _ _ _ _ _ _ _ => lR
      rename Fr g' L' _ _ => lF1
      rename News g' L' _ _ => lN1
      refine ⟨_, _, _, _, _, _, rfl, lF1, lN1, lR, ?sm, ?rs, ⟨[], at_, ta, rfl, rfl, .nil⟩, ?turn, ?hE, ?fin⟩
      case sm => have h4 : n = 0 ∨ n = 1 ∨ n = 2 ∨ n = 3 := by omega
                 rcases h4 with rfl | rfl | rfl | rfl <;> rfl
      case rs => have h4 : n = 0 ∨ n = 1 ∨ n = 2 ∨ n = 3 := by omega
                 rcases h4 with rfl | rfl | rfl | rfl <;> rfl
      case turn =>
        rintro i ys nw I oI C oC D m₂ h tk t9 Ee hi ⟨l, ea, ua, rfl, hnum, hints⟩ hoC hm2 F9 N9 off9 hne hmay
        have hod := off9.mem (dx, _) (.tail _ (.head _))
        replace N9 := pkI N9
        have hdx3 : ∀ p ∈ (I, oI) :: (C, oC) :: (D, PyProof.Rows.LCg.lst ys) :: rest, p.1 ≠ dx := fun p hp => by
          rcases List.mem_cons.mp hp with rfl | hp
          · exact Ne.symm hod.1
          rcases List.mem_cons.mp hp with rfl | hp
          · exact Ne.symm hod.2.1
          rcases List.mem_cons.mp hp with rfl | hp
          · exact Ne.symm hod.2.2
          · exact hrdx p hp
        clear lF1 lN1 lR
        refine MethodCall_ ?_
        refine name_cell (v := .ref x) N9 (.tail _ (.tail _ (.tail _ (.tail _ (.tail _ hcm))))) dcell ?_ (by with_unfolding_all rfl) (by with_unfolding_all rfl) (by with_unfolding_all rfl)
        k_steps
        unfold StopT
        try dsimp only at *
        refine' p_varint (by assumption) (by assumption) (by assumption) (by assumption) (by assumption) rfl ?hd2 ?hu2 hb hbl hxd hdx3 ?he2 ?hs2
        case hd2 => exact room (k := 6) hd rfl
        case hu2 => exact roomU (k := 48) hu rfl
        case he2 =>
          intro hv
          refine (hmay ?_).more fun q hq => ?_
          · rw [hO, show nums ks at_ n = none from itO_none ((itO_next hnum).trans (by show (vint ks ea).map _ = none; rw [hv]; rfl)) hi]; rfl
          · rcases List.mem_cons.mp hq with rfl | hq
            · exact .tail _ (.head _)
            · exact .tail _ (.tail _ (.tail _ (hrn q hq)))
        case hs2 =>
          intro z ep hv t8 u8 h8 tk8 F8 N8
          try dsimp only
          refine ⟨_, _, (x, instObj 135 dx) :: (dx, rdO w t1 t2 b tb ep u8) :: rest, rfl, F8, pkJ N8, ?_, ⟨l ++ [z], ep, u8, rfl, (itO_next hnum).trans (by show (vint ks ea).map _ = _; rw [hv]; rfl), ints_snoc hints⟩⟩
          refine LCg.Off3.of fun p hp => ?_
          rcases List.mem_cons.mp hp with rfl | hp
          · exact off9.mem (x, _) (.head _)
          rcases List.mem_cons.mp hp with rfl | hp
          · exact hod
          · exact off9.mem p (.tail _ (.tail _ hp))
      case hE =>
        intro hspec e9 dd9 G9 h9 tk9 F9 R9
        exact heldA_leave rfl B' F9 R9 fun h3 R3 => he hspec _ _ _ _ _ FG' R3
      case fin =>
        rintro ys nw D h tk ⟨l, ea, ua, rfl, hnum, hints⟩ F9 N9 off9
        clear lF1 lN1 lR
        have hll := nums_length hnum
        have hil := hints.length
        have hv3 : sBod ks at_ told = some (.tuple (.str nm :: l.map Mine.D.int), ea) := by rw [hO, hnum]; rfl
        k_steps
        (try unfold StopT)
        rename Fr g' _ _ _ => lF6
        rename News g' _ _ _ => lN6
        refine' add_arrays lF6 lN6 (News.isList lN6 (.tail _ (.tail _ (.tail _ hkm)))) (News.isList lN6 (.head _)) ?_ (by show 1 + ys.length ≤ _; rw [sizeLine_eq]; omega)
        intro h7 lF7 lN7
        k_steps
        unfold StopT
        refine' kde_tupleOf lF7 lN7 (News.isList lN7 (.head _)) (by show ([_] ++ ys).toArray.size ≤ _; rw [List.size_toArray, List.length_append, List.length_singleton]; omega) rfl ?_
        intro T2 h6 lF8 lN8 l8
        k_steps
        rename Fr h₀ _ _ _ => lF8
        rename News h₀ _ _ _ => lN8
        refine fin_frT (tl := []) (u := ua) (hs _ _ hv3) lF8 lN8 ?_ ⟨l8 (x, _) (.tail _ (.tail _ (.head _))), l8 (dx, _) (.tail _ (.tail _ (.tail _ (.head _)))), fun q hq => l8 q (.tail _ (.tail _ (.tail _ (.tail _ (hrn q hq)))))⟩ (.cons (.str _ _) (ints_dall hints)) (fun p hp => by cases hp)
        intro p hp
        rcases List.mem_cons.mp hp with rfl | hp
        · exact .tail _ (.tail _ (.head _))
        rcases List.mem_cons.mp hp with rfl | hp
        · exact .tail _ (.tail _ (.tail _ (.head _)))
        · exact .tail _ (.tail _ (.tail _ (.tail _ (hrn p hp))))
    · rw [show (valueAt _ told).isSome = false from (congrArg Option.isSome hva).trans rfl]
      k_steps
      unfold StopT
      refine if_pure (decide (told = 2 ∨ told = 3)) ?_ ?_ ?_
      · clear hs he hq
        k_steps
        all_goals symm
        all_goals first
          | (apply decide_eq_true; first | exact .inl (by assumption) | exact .inr (by assumption))
          | (apply decide_eq_false; rintro (q | q) <;> exact absurd q (by assumption))
      · intro t9 h9
        have h23 := of_decide_eq_true h9
        clear h9
        k_steps
        have hsp := bod_ack (ks := ks) (at_ := at_) (told := told) h23
        unfold StopT
        try dsimp only at *
        refine' p_ack (by assumption) (by assumption) (by assumption) (by assumption) (by assumption) rfl ?hd11 ?hu11 hb hbl hxd hdx2 h23 ?he11 ?hq11 ?hs11
        case hd11 => exact room (k := 11) hd rfl
        case hu11 => exact roomU (k := 88) hu rfl
        case he11 => intro hv; exact short_nextX rfl rfl B' FG' (he (hsp.trans hv)) hsub
        case hq11 => intro hv; exact quic_nextX rfl rfl B' FG' (hq (hsp.trans hv)) hsub
        case hs11 =>
          intro d e hv v tl u h2 tk2 hD F2 N2 htl
          k_steps
          exact outC (hs d e (hsp.trans hv)) hD (by assumption) (by assumption) htl
      · intro t9 h9
        have h23 := of_decide_eq_false h9
        clear h9
        k_steps
        unfold StopT
        refine if_pure (decide (8 ≤ told ∧ told < 16)) ?_ ?_ ?_
        · clear hs he hq
          k_steps
          all_goals symm
          all_goals first
            | exact decide_eq_decide.mpr ⟨fun q => q.2, fun q => ⟨by assumption, q⟩⟩
            | (apply decide_eq_true; exact ⟨by assumption, by assumption⟩)
            | (apply decide_eq_false; intro q; first | exact absurd q.1 (by assumption) | exact absurd q.2 (by assumption))
        · intro t8 h9
          have h8 := of_decide_eq_true h9
          clear h9
          k_steps
          have hsp := bod_stream (ks := ks) (at_ := at_) (told := told) h8
          unfold StopT
          try dsimp only at *
          refine' p_stream (by assumption) (by assumption) (by assumption) (by assumption) (by assumption) rfl ?hd13 ?hu13 hb hbl hxd hdx2 h8.1 h8.2 ?he13 ?hq13 ?hs13
          case hd13 => exact room (k := 9) hd rfl
          case hu13 => exact roomU (k := 72) hu rfl
          case he13 => intro hv; exact short_nextX rfl rfl B' FG' (he (hsp.trans hv)) hsub
          case hq13 => intro hv; exact quic_nextX rfl rfl B' FG' (hq (hsp.trans hv)) hsub
          case hs13 =>
            intro d e hv v tl u h2 tk2 hD F2 N2 htl
            k_steps
            exact outC (hs d e (hsp.trans hv)) hD (by assumption) (by assumption) htl
        · intro t8 h9
          have h8 := of_decide_eq_false h9
          clear h9
          k_steps
          · have hsp := bod_given (ks := ks) (at_ := at_) (told := told) (by assumption)
            unfold StopT
            try dsimp only at *
            refine' p_newcid (by assumption) (by assumption) (by assumption) (by assumption) (by assumption) rfl ?hd14 ?hu14 hb hbl hxd hdx2 ?he14 ?hq14 ?hs14
            case hd14 => exact room (k := 9) hd rfl
            case hu14 => exact roomU (k := 72) hu rfl
            case he14 => intro hv; exact short_nextX rfl rfl B' FG' (he (hsp.trans hv)) hsub
            case hq14 => intro hv; exact quic_nextX rfl rfl B' FG' (hq (hsp.trans hv)) hsub
            case hs14 =>
              intro d e hv v tl u h2 tk2 hD F2 N2 htl
              k_steps
              exact outC (hs d e (hsp.trans hv)) hD (by assumption) (by assumption) htl
          · have hsp := bod_other (ks := ks) (at_ := at_) (told := told) h0 h23 h8 (by assumption)
            unfold StopT
            refine if_pure (decide (told = 28 ∨ told = 29)) ?_ ?_ ?_
            · clear hs he hq hsp
              k_steps
              all_goals symm
              all_goals first
                | (apply decide_eq_true; first | exact .inl (by assumption) | exact .inr (by assumption))
                | (apply decide_eq_false; rintro (q | q) <;> exact absurd q (by assumption))
            · intro t7 h9
              have h29 := of_decide_eq_true h9
              clear h9
              k_steps
              unfold StopT
              try dsimp only at *
              refine' p_close (by assumption) (by assumption) (by assumption) (by assumption) (by assumption) rfl ?hd15 ?hu15 hb hbl hxd hdx2 h29 ?he15 ?hs15
              case hd15 => exact room (k := 9) hd rfl
              case hu15 => exact roomU (k := 72) hu rfl
              case he15 => intro hv; exact short_nextX rfl rfl B' FG' (he (hsp.trans hv)) hsub
              case hs15 =>
                intro d e hv v tl u h2 tk2 hD F2 N2 htl
                k_steps
                exact outC (hs d e (hsp.trans hv)) hD (by assumption) (by assumption) htl
            · intro t7 h9
              have h29 := of_decide_eq_false h9
              clear h9
              k_steps
              unfold StopT
              try dsimp only at *
              refine' p_octets (by assumption) (by assumption) (by assumption) (by assumption) (by assumption) rfl ?hd17 ?hu17 hb hbl hxd hdx2 hpk (fun q => h29 (.inl q)) (fun q => h29 (.inr q)) ?he17 ?hq17 ?hs17
              case hd17 => exact room (k := 10) hd rfl
              case hu17 => exact roomU (k := 80) hu rfl
              case he17 => intro hv; exact short_nextX rfl rfl B' FG' (he (hsp.trans hv)) hsub
              case hq17 => intro hv; exact quic_nextX rfl rfl B' FG' (hq (hsp.trans hv)) hsub
              case hs17 =>
                intro d e hv v tl u h2 tk2 hD F2 N2 htl
                k_steps
                exact outC (hs d e (hsp.trans hv)) hD (by assumption) (by assumption) htl
end
section
end
end
/-! Wc -/
section
section
variable {w : World} {mean : ExcName → Option Value} {mg mb : Str → Option Value} {A₀ : Around} {base h₀ : Heap} {outer : List Env} {L : Addr} {m : Str → Option Value} {news : List (Addr × Obj)} {h : Heap} {gs : Array GenState} {dr : Drawn} {tk : Nat} {os : OsState} {cs : Scope}
    {dp un : Nat} {gd : Option (List Code)} {cn : Str} {a : Addr} {ccd : Value} {cl : List (Str × Addr)} {Q E : Value → Shared → Prop}
end
section
theorem heap_set2 {h : Heap} {e : Addr} {oe : Obj} {x : Value} {h₀ : Heap} {L : Addr} {m : Str → Option Value} {rest : List (Addr × Obj)} (F : Fr h₀ L h m) (N : News h₀ L h ((e, oe) :: rest)) (hne : ∀ p ∈ rest, p.1 ≠ e) {vs : Array Value} (hd : oe.data = .fields vs) :
    Fr h₀ L (h.update e (Obj.mapFields (·.setIfInBounds 2 x))) m ∧ News h₀ L (h.update e (Obj.mapFields (·.setIfInBounds 2 x))) ((e, Obj.mapFields (·.setIfInBounds 2 x) oe) :: rest) := by
  have he := N _ (.head _)
  dsimp only at he
  have other : ∀ b, b ≠ e → (h.update e (Obj.mapFields (·.setIfInBounds 2 x))).get? b = h.get? b := fun b hb => Heap.get?_update_other _ _ (Ne.symm hb)
  refine ⟨?_, fun p hp => ?_⟩
  · obtain ⟨o, es, ep, ho, r⟩ := F.ns
    exact ⟨⟨o, es, ep, (other L he.2.1.symm).trans ho, r⟩, fun b o q => (other b fun z => by rw [z, he.2.2] at q; cases q).trans (F.keep b o q), F.above⟩
  · rcases List.mem_cons.mp hp with rfl | hp
    · exact ⟨Heap.get?_update_self _ he.1 (Obj.isFreed_of_fields (Obj.data_mapFields hd _)), he.2⟩
    · exact ⟨(other _ (hne p hp)).trans (N p (.tail _ hp)).1, (N p (.tail _ hp)).2⟩
end
theorem one_none {ks : List Int} {at_ e : Nat} {n : Int} (ho : Oct ks) (h : vint ks at_ = some (n, e)) (hl : ¬ Long at_ e n) (hb : sBod ks e n = none) : sOne ks at_ = .inl 7 := by
  unfold sBod at hb
  by_cases h0 : n = 0
  · rw [if_pos h0] at hb; cases hb
  · rw [if_neg h0] at hb
    rw [sOne_body h hl h0, hb]
theorem one_some {ks : List Int} {at_ e : Nat} {n : Int} {r : D × Nat} (ho : Oct ks) (h : vint ks at_ = some (n, e)) (hl : ¬ Long at_ e n) (hb : sBod ks e n = some r) : sOne ks at_ = .inr r := by
  unfold sBod at hb
  by_cases h0 : n = 0
  · subst h0
    rw [if_pos rfl] at hb
    have hv := vint_bound ho h
    have he : e = at_ + 1 := by unfold Long at hl; omega
    rw [sOne_pad h hl, ← Option.some.inj hb, he]
    congr 6
    omega
  · rw [if_neg h0] at hb
    rw [sOne_body h hl h0, hb]
section
variable {w : World} {mean : ExcName → Option Value} {mg mb : Str → Option Value} {A₀ : Around} {base h₀ : Heap} {outer : List Env} {L : Addr} {m : Str → Option Value} {news : List (Addr × Obj)} {h : Heap} {gs : Array GenState} {dr : Drawn} {tk : Nat} {os : OsState} {cs : Scope}
    {dp un : Nat} {gd : Option (List Code)} {cn : Str} {a : Addr} {ccd : Value} {cl : List (Str × Addr)} {Q E : Value → Shared → Prop}
set_option maxHeartbeats 40000000 in
theorem p_frame {x dx : Addr} {t1 t2 : Tok} {b : Array UInt8} {ks : List Int} {tb ta : Tok} {at_ : Nat} (B : Below A₀ base outer h₀) (F : Fr h₀ L h m) (X : (Mine.hd.heap_39 w.params).In h₀) (N : News h₀ L h ((x, instObj 135 dx) :: (dx, rdO w t1 t2 b tb at_ ta) :: news)) (T : Top0 mean mg mb h₀) (hk : cs.kind = .function) (hd : dp + 13 < recursionLimit) (hu : un + 104 < cLine)
    (hb : KBw.bInts b = ks) (hbl : ks.length ≤ 100) (hxd : x ≠ dx) (hdx : ∀ p ∈ news, p.1 ≠ dx) (XB : (Mine.hd.heap_39 w.params).In base) (TB : Top0 mean mg mb base)
    (hq : ∀ c, sOne ks at_ = .inl c → EQuic E base h₀ L m (envX cn cs L a ccd cl :: outer) news gs dr os c)
    (hs : ∀ d e, sOne ks at_ = .inr (d, e) → OutF Q w h₀ L m news gs dr os x dx t1 t2 b tb d e) :
    wpAny (model Challenge.rw_no0080_01.row.prog w) (ktrTop dp un gd cn cs L a ccd cl outer) (call (.ref 241) [.ref x]) Q E ⟨h, gs, dr, tk, os⟩ := by
  have hoc := oct_of hb
  refine wpAny_call ?_
  refine' code_def (binds := [(Str.ofString "reader", .ref x)]) B F X N T rfl rfl hk ?k6 ?k7 ?k8 ?k9 ?kB ?_ ?c2 ?c3 ?c4 ?c5
  (( (case k6 => k_is); (case k7 => k_is); (case k8 => exact room0 (by assumption)); (case k9 => exact BindsTo.of_eq rfl); (case c5 => decide); (case kB => exact locs rfl); (case c2 => exact rfl); (case c3 => exact rfl); (case c4 => exact rfl)))
  intro g' L' h' FG' F' N' B' X' T'
  k_fold
  refine let_goal ?_
  intro A1 Q1 E1
  k_steps
  unfold StopT
  refine wpAny_Try_except ?_
  k_steps
  unfold StopT
  try dsimp only at *
  refine' p_type (by assumption) (by assumption) (by assumption) (by assumption) (by assumption) rfl ?hd1 ?hu1 hb hbl hxd hdx ?he1 ?hq1 ?hs1
  case hd1 => exact room (k := 7) hd rfl
  case hu1 => exact roomU (k := 56) hu rfl
  case he1 =>
    intro hv g1 e1 dd1 h1 tk1 F1 R1
    have h7 := sOne_none hv
    refine own_hit0 (C := 58) R1 F1 B' XB TB (by k_is) (by kts_isx) (fun h3 g3 Y X3 T3 => ?_) (by passes_own)
    have F3 := Y.fr
    have K3 := Y.below
    obtain ⟨oe3, us3, N3, hoc3, hod3, hoed3, hu3⟩ := Y.news
    clear R1 F1
    k_steps
    unfold StopT
    refine raise_own (C := 38) (N := 37) (fI := 35) (ns := [Str.ofString "code", Str.ofString "frame_type", Str.ofString "text", Str.ofString "__getattribute__", Str.ofString "__getattr__"]) ?_
    k_steps
    unfold StopT
    refine' mk_quic (hh := some (.ref e1)) K3 (by assumption) X3 (by assumption) T3 rfl ?hdS1 ?huS1 (by decide) (by decide) (by decide) (by decide) ?hsS1
    case hdS1 => exact room (k := 2) hd rfl
    case huS1 => exact roomU (k := 16) hu rfl
    intro h4 e4 t4 dx4 od4 tk4 mA4 F4 N4 n41 n42 hO4 hcd4
    refine ⟨_, _, _, _, rfl, (quic_cls X3).keeps F4.keep, (N4 _ (.head _)).1, ?_⟩
    have hne4 : ∀ p ∈ (dx4, od4) :: (e1, oe3) :: news, p.1 ≠ e4 := fun p hp => by
      rcases List.mem_cons.mp hp with rfl | hp
      · exact n42
      · exact n41 p hp
    refine raise_chain (b := e1) rfl (Ne.symm (hne4 _ (.tail _ (.head _))).symm) (N4 _ (.head _)).1 rfl (Nat.le_of_ble_eq_true rfl) (N4 _ (.tail _ (.tail _ (.head _)))).1 hoed3 hu3 ?_
    obtain ⟨F5, N5⟩ := heap_set2 (x := .ref e1) F4 N4 hne4 rfl
    have N6 : News g3 L' _ ((e4, _) :: (dx4, od4) :: news) := cb_drop N5 fun p hp => by
      rcases List.mem_cons.mp hp with rfl | hp
      · exact .head _
      rcases List.mem_cons.mp hp with rfl | hp
      · exact .tail _ (.head _)
      · exact .tail _ (.tail _ (.tail _ hp))
    exact throw_first (kp := (dx4, od4) :: news) K3 F5 N6 rfl rfl rfl (fun q hq => hne4 q (by
      rcases List.mem_cons.mp hq with rfl | hq
      · exact .head _
      · exact .tail _ (.tail _ hq))) fun h6 R6 => hq 7 h7 _ _ _ _ _ _ _ _ _ FG' (R6.turn Y.turn fun _ _ _ => trivial) hO4 hcd4
  case hq1 =>
    intro n e hv hlong
    have hqq := hq 10 (sOne_long hv hlong)
    intro g1 e1 dx1 od1 cx1 h1 tk1 mA1 tc1 F1 R1 hO1 hc1
    exact own_miss (ns' := []) (C := 58) (D := 38) R1 F1 B' XB TB (by k_is) (by kts_isx) (fun h hX => quic_cls hX) (by decide) fun h3 H3 => held_leave B' F1 H3 fun h4 R4 => hqq _ _ _ _ _ _ _ _ _ FG' (R4.less fun q hq => by
      rcases List.mem_cons.mp hq with rfl | hq
      · exact .head _
      · exact .tail _ (by first | exact hq | exact .tail _ (.tail _ hq))) hO1 hc1
  case hs1 =>
    intro n e hv hlong t u h2 tk2 F2 N2
    k_steps
    unfold StopT
    try dsimp only at *
    refine' p_body (by assumption) (by assumption) (by assumption) (by assumption) (by assumption) rfl ?hd2 ?hu2 hb hbl hxd hdx ?he2 ?hq2 ?hs2
    case hd2 => exact room (k := 12) hd rfl
    case hu2 => exact roomU (k := 96) hu rfl
    case he2 =>
      intro hv2 g1 e1 dd1 h1 tk1 F1 R1
      have h7 := one_none hoc hv hlong hv2
      refine own_hit0 (C := 58) R1 F1 B' XB TB (by k_is) (by kts_isx) (fun h3 g3 Y X3 T3 => ?_) (by passes_own)
      have F3 := Y.fr
      have K3 := Y.below
      obtain ⟨oe3, us3, N3, hoc3, hod3, hoed3, hu3⟩ := Y.news
      clear R1 F1
      k_steps
      unfold StopT
      refine raise_own (C := 38) (N := 37) (fI := 35) (ns := [Str.ofString "code", Str.ofString "frame_type", Str.ofString "text", Str.ofString "__getattribute__", Str.ofString "__getattr__"]) ?_
      k_steps
      unfold StopT
      refine' mk_quic (hh := some (.ref e1)) K3 (by assumption) X3 (by assumption) T3 rfl ?hdS2 ?huS2 (by decide) (by decide) (by decide) (by decide) ?hsS2
      case hdS2 => exact room (k := 2) hd rfl
      case huS2 => exact roomU (k := 16) hu rfl
      intro h4 e4 t4 dx4 od4 tk4 mA4 F4 N4 n41 n42 hO4 hcd4
      refine ⟨_, _, _, _, rfl, (quic_cls X3).keeps F4.keep, (N4 _ (.head _)).1, ?_⟩
      have hne4 : ∀ p ∈ (dx4, od4) :: (e1, oe3) :: news, p.1 ≠ e4 := fun p hp => by
        rcases List.mem_cons.mp hp with rfl | hp
        · exact n42
        · exact n41 p hp
      refine raise_chain (b := e1) rfl (Ne.symm (hne4 _ (.tail _ (.head _))).symm) (N4 _ (.head _)).1 rfl (Nat.le_of_ble_eq_true rfl) (N4 _ (.tail _ (.tail _ (.head _)))).1 hoed3 hu3 ?_
      obtain ⟨F5, N5⟩ := heap_set2 (x := .ref e1) F4 N4 hne4 rfl
      have N6 : News g3 L' _ ((e4, _) :: (dx4, od4) :: news) := cb_drop N5 fun p hp => by
        rcases List.mem_cons.mp hp with rfl | hp
        · exact .head _
        rcases List.mem_cons.mp hp with rfl | hp
        · exact .tail _ (.head _)
        · exact .tail _ (.tail _ (.tail _ hp))
      exact throw_first (kp := (dx4, od4) :: news) K3 F5 N6 rfl rfl rfl (fun q hq => hne4 q (by
        rcases List.mem_cons.mp hq with rfl | hq
        · exact .head _
        · exact .tail _ (.tail _ hq))) fun h6 R6 => hq 7 h7 _ _ _ _ _ _ _ _ _ FG' (R6.turn Y.turn fun _ _ _ => trivial) hO4 hcd4
    case hq2 =>
      intro hv2
      have hqq := hq 7 (one_none hoc hv hlong hv2)
      intro g1 e1 dx1 od1 cx1 h1 tk1 mA1 tc1 F1 R1 hO1 hc1
      exact own_miss (ns' := []) (C := 58) (D := 38) R1 F1 B' XB TB (by k_is) (by kts_isx) (fun h hX => quic_cls hX) (by decide) fun h3 H3 => held_leave B' F1 H3 fun h4 R4 => hqq _ _ _ _ _ _ _ _ _ FG' (R4.less fun q hq => by
        rcases List.mem_cons.mp hq with rfl | hq
        · exact .head _
        · exact .tail _ (by first | exact hq | exact .tail _ (.tail _ hq))) hO1 hc1
    case hs2 =>
      intro d e2 hv2 v tl u3 h3 tk3 hD F3 N3 htl
      k_steps
      exact hs d e2 (one_some hoc hv hlong hv2) v tl u3 _ _ hD (by assumption) (by assumption) htl
end
section
end
end
/-! Wd -/
section
section
variable {w : World} {mean : ExcName → Option Value} {mg mb : Str → Option Value} {A₀ : Around} {base h₀ : Heap} {outer : List Env} {L : Addr} {m : Str → Option Value} {news : List (Addr × Obj)} {h : Heap} {gs : Array GenState} {dr : Drawn} {tk : Nat} {os : OsState} {cs : Scope}
    {dp un : Nat} {gd : Option (List Code)} {cn : Str} {a : Addr} {ccd : Value} {cl : List (Str × Addr)} {Q E : Value → Shared → Prop}
end
section
variable {w : World} {mean : ExcName → Option Value} {mg mb : Str → Option Value} {A₀ : Around} {base h₀ : Heap} {outer : List Env} {L : Addr} {m : Str → Option Value} {news : List (Addr × Obj)} {h : Heap} {gs : Array GenState} {dr : Drawn} {tk : Nat} {os : OsState} {cs : Scope}
    {dp un : Nat} {gd : Option (List Code)} {cn : Str} {a : Addr} {ccd : Value} {cl : List (Str × Addr)} {Q E : Value → Shared → Prop}
theorem pkF {f x dx : Addr × Obj} {tl r : List (Addr × Obj)} {h : Heap} (N : News h₀ L h (x :: dx :: (tl ++ f :: r))) : News h₀ L h (f :: x :: dx :: (tl ++ r)) := by
  refine cb_drop N ?_
  intro p hp
  simp only [List.mem_cons, List.mem_append] at hp ⊢
  grind
theorem pkH {d f x dx : Addr × Obj} {r : List (Addr × Obj)} {h : Heap} (N : News h₀ L h (d :: f :: x :: dx :: r)) : News h₀ L h (x :: dx :: f :: ([] ++ r)) := by
  refine cb_drop N ?_
  intro p hp
  simp only [List.mem_cons, List.nil_append] at hp ⊢
  grind
theorem pkG {f x dx : Addr × Obj} {t1 t2 r : List (Addr × Obj)} {h : Heap} (N : News h₀ L h (f :: x :: dx :: (t1 ++ (t2 ++ r)))) : News h₀ L h (x :: dx :: f :: ((t1 ++ t2) ++ r)) := by
  refine cb_drop N ?_
  intro p hp
  simp only [List.mem_cons, List.mem_append] at hp ⊢
  grind
set_option maxHeartbeats 40000000 in
theorem p_frames {b : Array UInt8} {ks : List Int} {tb : Tok} (B : Below A₀ base outer h₀) (F : Fr h₀ L h m) (X : (Mine.hd.heap_39 w.params).In h₀) (N : News h₀ L h (news)) (T : Top0 mean mg mb h₀) (hk : cs.kind = .function) (hd : dp + 14 < recursionLimit) (hu : un + 112 < cLine)
    (hb : KBw.bInts b = ks) (hbl : ks.length ≤ 100) (XB : (Mine.hd.heap_39 w.params).In base) (TB : Top0 mean mg mb base)
    (hq : ∀ c, sAll ks = .inl c → EQuic E base h₀ L m (envX cn cs L a ccd cl :: outer) news gs dr os c)
    (hs : ∀ ds, sAll ks = .inr ds → ∀ y vs n tl h' tk', DAll tl vs ds → Fr h₀ L h' m → News h₀ L h' ((y, listOf vs.toArray n) :: (tl ++ news)) → Q (.ref y) ⟨h', gs, dr, tk', os⟩) :
    wpAny (model Challenge.rw_no0080_01.row.prog w) (ktrTop dp un gd cn cs L a ccd cl outer) (call (.ref 248) [.bytes b tb]) Q E ⟨h, gs, dr, tk, os⟩ := by
  have hoc := oct_of hb
  refine wpAny_call ?_
  refine' code_def (binds := [(Str.ofString "payload", .bytes b tb)]) B F X N T rfl rfl hk ?k6 ?k7 ?k8 ?k9 ?kB ?_ ?c2 ?c3 ?c4 ?c5
  (( (case k6 => k_is); (case k7 => k_is); (case k8 => exact room0 (by assumption)); (case k9 => exact BindsTo.of_eq rfl); (case c5 => decide); (case kB => exact locs rfl); (case c2 => exact rfl); (case c3 => exact rfl); (case c4 => exact rfl)))
  intro g' L' h' FG' F' N' B' X' T'
  k_fold
  refine let_goal ?_
  intro A1 Q1 E1
  k_steps
  unfold StopT
  try dsimp only at *
  refine' p_make (by assumption) (by assumption) (by assumption) (by assumption) (by assumption) rfl ?hd1 ?hu1 ?hs1
  case hd1 => exact room (k := 2) hd rfl
  case hu1 => exact roomU (k := 16) hu rfl
  intro x dx t1 t2 ta h1 tk1 hxd ldx F1 N1
  k_steps
  · rename (ks.length : Int) = 0 => h0
    have hall : sAll ks = .inl 10 := by unfold sAll; rw [if_pos (by omega)]
    unfold StopT
    refine raise_own (C := 38) (N := 37) (fI := 35) (ns := [Str.ofString "code", Str.ofString "frame_type", Str.ofString "text", Str.ofString "__getattribute__", Str.ofString "__getattr__"]) ?_
    k_steps
    unfold StopT
    refine' mk_quic (by assumption) (by assumption) (by assumption) (by assumption) (by assumption) rfl ?hd2 ?hu2 (by decide) (by decide) (by decide) (by decide) ?hs2
    case hd2 => exact room (k := 2) hd rfl
    case hu2 => exact roomU (k := 16) hu rfl
    intro h2 e2 t2 dx2 od tk2 mA F2 N2 n1 n2 hO hcd
    refine ⟨_, _, _, _, rfl, (quic_cls X').keeps F2.keep, (N2 _ (.head _)).1, wpAny_raiseNew_none rfl ?_⟩
    refine throw_first (oe := excO (.ref 38) t2 (some dx2) .none) (kp := (dx2, od) :: news) (by assumption) F2 (fun p hp => ?_) rfl rfl rfl (fun q hq => ?_) fun h3 R => hq 10 hall _ _ _ _ _ _ _ _ _ FG' R hO hcd
    · rcases List.mem_cons.mp hp with rfl | hp
      · exact N2 _ (.head _)
      · rcases List.mem_cons.mp hp with rfl | hp
        · exact N2 _ (.tail _ (.head _))
        · exact N2 _ (.tail _ (.tail _ (by repeat (first | exact hp | refine List.Mem.tail _ ?_))))
    · rcases List.mem_cons.mp hq with rfl | hq
      · exact n2
      · exact n1 _ (by repeat (first | exact hq | refine List.Mem.tail _ ?_))
  · rename (ks.length : Int) ≠ 0 => h0
    unfold StopT
    try dsimp only at *
    rename_i fl _ lf D9 _ _ _ _ _ lF lN
    have lN2 := pkH lN
    clear lN
    have lfn := tb_ltOf lf.2.2
    refine lp_while (σ := Nat × Tok × List Value × List D × Nat × List (Addr × Obj)) (fun c => []) (fun c nx => nx = (x, instObj 135 dx) :: (dx, rdO w t1 t2 b tb c.1 c.2.1) :: (fl, listOf c.2.2.1.toArray c.2.2.2.2.1) :: (c.2.2.2.2.2 ++ news) ∧ DAll c.2.2.2.2.2 c.2.2.1 c.2.2.2.1 ∧ (∀ p ∈ c.2.2.2.2.2, fl < p.1 ∧ x < p.1 ∧ dx < p.1) ∧ At ks c.1 c.2.2.2.1) (fun c => ks.length - c.1) [] (0, ta, [], [], 0, []) lF lN2 ?_ ⟨rfl, .nil, fun p hp => by (cases hp), at_zero (by omega)⟩ ?_
    · intro p hp
      cases hp
    · clear lF lN2
      rintro ⟨z, uz, vs, ds, n, tl⟩ nx u1 h2 tk2 ⟨rfl, hD, htl, hat⟩ lF lN QW
      dsimp only at *
      have hdx2 : ∀ p ∈ (fl, listOf vs.toArray n) :: (tl ++ news), p.1 ≠ dx := fun p hp => by
        rcases List.mem_cons.mp hp with rfl | hp
        · exact Nat.ne_of_gt lf.2.1
        rcases List.mem_append.mp hp with hp | hp
        · exact Nat.ne_of_gt (htl p hp).2.2
        · exact Nat.ne_of_lt (ldx p hp)
      have hsub : ∀ q ∈ news, q ∈ (fl, listOf vs.toArray n) :: (tl ++ news) := fun q hq => .tail _ (List.mem_append.mpr (.inr hq))
      k_steps
      unfold StopT
      try dsimp only at *
      refine' p_left (by assumption) (by assumption) (by assumption) (by assumption) (by assumption) rfl ?hd3 ?hu3 hb hbl ?hs3
      case hd3 => exact room (k := 1) hd rfl
      case hu3 => exact roomU (k := 8) hu rfl
      intro t4 h4 tk4 F4 N4
      k_steps
      · have hz : z < ks.length := by omega
        unfold StopT
        try dsimp only at *
        refine' p_frame (by assumption) (by assumption) (by assumption) (by assumption) (by assumption) rfl ?hd4 ?hu4 hb hbl (Nat.ne_of_gt hxd) hdx2 XB TB ?hq4 ?hs4
        case hd4 => exact room (k := 13) hd rfl
        case hu4 => exact roomU (k := 104) hu rfl
        case hq4 => intro c hc; exact quic_next B' FG' (hq c (hat.stop hz hc)) hsub
        case hs4 =>
          intro d e hd v tl2 u5 h5 tk5 hDv F5 N5 htl2
          have hat2 := hat.next hoc hz hd
          have hvl := hD.length
          have hal : ds.length ≤ z := by obtain ⟨_, _, _, q⟩ := hat; exact q
          k_steps
          unfold StopT
          try dsimp only at *
          rename Fr g' _ _ _ => lF6
          rename News g' _ _ _ => lN6
          refine' append_1 (vs := vs) (n := n) (rest := (x, instObj 135 dx) :: (dx, rdO w t1 t2 b tb e u5) :: (tl2 ++ (tl ++ news))) lF6 (pkF lN6) ?hr5 (by omega) ?_
          case hr5 =>
            intro p hp
            rcases List.mem_cons.mp hp with rfl | hp
            · exact Nat.ne_of_lt lf.1
            rcases List.mem_cons.mp hp with rfl | hp
            · exact Nat.ne_of_lt lf.2.1
            rcases List.mem_append.mp hp with hp | hp
            · exact Nat.ne_of_gt ((htl2 p hp).2.2 _ (.head _))
            rcases List.mem_append.mp hp with hp | hp
            · exact Nat.ne_of_gt (htl p hp).1
            · exact Nat.ne_of_lt (lfn p hp)
          intro h7 lF7 lN7
          clear lF6 lN6
          k_steps
          rename Fr g' _ _ _ => lF8
          rename News g' _ _ _ => lN8
          refine ⟨(e, u5, vs ++ [v], ds ++ [d], n + 1, tl2 ++ tl), _, _, _, _, rfl, lF8, pkG lN8, ⟨rfl, (hD.mono fun p hp => List.mem_append.mpr (.inr hp)).snoc (hDv.mono fun p hp => List.mem_append.mpr (.inl hp)), fun p hp => ?_, hat2⟩, (fun p hp => by cases hp), (fun y hy _ => by simp [kstB]), by have := one_lt hoc hd; show ks.length - e < ks.length - z; omega⟩
          rcases List.mem_append.mp hp with hp | hp
          · exact ⟨(htl2 p hp).2.2 _ (.head _), (htl2 p hp).1, (htl2 p hp).2.1⟩
          · exact htl p hp
      · have hz : ks.length ≤ z := by omega
        rename Fr h₀ _ _ _ => lF8
        rename News h₀ _ _ _ => lN8
        exact hs ds (hat.end_ hz) fl vs n tl _ _ hD lF8 (cb_drop lN8 fun p hp => .tail _ (.tail _ hp))
end
section
end
end
/-! Yc -/
section
section
variable {w : World} {mean : ExcName → Option Value} {mg mb : Str → Option Value} {A₀ : Around} {base h₀ : Heap} {outer : List Env} {L : Addr} {m : Str → Option Value} {news : List (Addr × Obj)} {h : Heap} {gs : Array GenState} {dr : Drawn} {tk : Nat} {os : OsState} {cs : Scope}
    {dp un : Nat} {gd : Option (List Code)} {cn : Str} {a : Addr} {ccd : Value} {cl : List (Str × Addr)} {Q E : Value → Shared → Prop}
end
local macro_rules | `(tactic| walk_at "call type:bytes") => `(tactic| refine stop_ ?_)
local macro_rules | `(tactic| walk_at "subscriptTail") => `(tactic| ((with_reducible show wpAny _ _ (subscriptTail _ _ (Value.ref _) (Value.int _ _)) _ _ _); refine stop_ ?_))
local macro_rules | `(tactic| walk_at "call builtin:len") => `(tactic| ((with_reducible show wpAny _ _ (call (Value.builtin "len") [Value.ref _]) _ _ _); refine stop_ ?_))
section
variable {prog : Program} {w : World} {A : Around} {E : Value → Shared → Prop} {s : Shared}
theorem item_lst {value slice : Expr} {y : Addr} {its : Array Value} {k : Int} {u : Tok} {v : Value} {Q : Value → Shared → Prop} (hL : s.heap.IsList y its) (h0 : 0 ≤ k) (hhi : k < 2 ^ 63) (hx : its[k.toNat]? = some v) (h : Q v s)
    (hs : subscripted slice false (.ref y) (.int k u) = operate [.ref y, .int k u] (getItem (.ref y) (.int k u)) := by with_unfolding_all rfl) :
    wpAny (model prog w) A (subscriptTail value slice (.ref y) (.int k u)) Q E s :=
  tail_any hL.typeIs slot_list_getitem.lookup (wpAny_getItem_list hL h0 hhi hx h) hs
end
section
variable {w : World} {mean : ExcName → Option Value} {mg mb : Str → Option Value} {A₀ : Around} {base h₀ : Heap} {outer : List Env} {L : Addr} {m : Str → Option Value} {news : List (Addr × Obj)} {h : Heap} {gs : Array GenState} {dr : Drawn} {tk : Nat} {os : OsState} {cs : Scope}
    {dp un : Nat} {gd : Option (List Code)} {cn : Str} {a : Addr} {ccd : Value} {cl : List (Str × Addr)} {Q E : Value → Shared → Prop}
set_option maxHeartbeats 40000000 in
theorem c_drawn {bx ls : Addr} {p q : Int} {t1 t2 : Tok} {n nl : Nat} {vs : List Value} {is : List Int} (B : Below A₀ base outer h₀) (F : Fr h₀ L h m) (X : (Mine.hd.heap_39 w.params).In h₀) (N : News h₀ L h ((bx, boxO ls p q t1 t2 n) :: (ls, listOf vs.toArray nl) :: news)) (T : Top0 mean mg mb h₀) (hk : cs.kind = .function) (hd : dp + 3 < recursionLimit) (hu : un + 24 < cLine)
    (hi : IntsAre vs is) (hp : 0 ≤ p) (hl : is.length ≤ 40) (hbl : bx ≠ ls) (hbn : ∀ p ∈ news, p.1 ≠ bx)
    (hs : ∀ b t p' q' u1 u2 n' h' tk', b.size ≤ 100 → 0 ≤ p' → Fr h₀ L h' m → News h₀ L h' ((bx, boxO ls p' q' u1 u2 n') :: (ls, listOf vs.toArray nl) :: news) → Q (.bytes b t) ⟨h', gs, dr, tk', os⟩) :
    wpAny (model Challenge.rw_no0080_01.row.prog w) (ktrTop dp un gd cn cs L a ccd cl outer) (call (.ref 267) [.ref bx]) Q E ⟨h, gs, dr, tk, os⟩ := by
  refine wpAny_call ?_
  refine' code_defC (binds := [(Str.ofString "box", .ref bx)]) B F X N T rfl rfl hk ?k6 ?k7 ?k8 ?k9 ?kB ?kD ?_ ?c2 ?c3 ?c4
  case k6 => k_is
  case k7 => k_is
  case k8 => exact room0 hd
  case k9 => exact BindsTo.of_eq rfl
  case kB => exact rfl
  case kD => decide +kernel
  case c2 => exact rfl
  case c3 => exact rfl
  case c4 => exact rfl
  intro g' L' h' tk' cells' FG' F' N' Y' B' X' T' l1
  k_cells Y'
  (try simp only [List.cons_append, List.nil_append] at N')
  (try k_fold)
  refine let_goal ?_
  intro A1 Q1 E1
  replace N' := pk3 N'
  rename_i oc dcell
  have lbx := l1 (bx, _) (.head _)
  have hbn2 : ∀ p ∈ (L' + 1, oc) :: news, p.1 ≠ bx := fun p hp => by
    rcases List.mem_cons.mp hp with rfl | hp
    · exact Nat.ne_of_gt (Nat.lt_succ_of_lt lbx)
    · exact hbn p hp
  k_steps
  unfold StopT
  try dsimp only at *
  refine' c_take (by assumption) (by assumption) (by assumption) (by assumption) (by assumption) rfl ?hd1 ?hu1 (by decide) hi hp hl hbl hbn2 ?hs1
  case hd1 => exact room (k := 1) hd rfl
  case hu1 => exact roomU (k := 8) hu rfl
  case hs1 =>
  intro r p1 q1 t3 u1 u2 n1 h1 tk1 hr0 hr1 hp1 F1 N1
  k_steps
  · unfold StopT
    rename Fr g' _ _ _ => lF
    rename News g' _ _ _ => lN
    with_unfolding_all refine' lc_rangeV (kpn := []) (may := False) (a := 0) (cl := [(Str.ofString "box", L' + 1)]) (fun i ys nw => ∃ l p2 q2 v1 v2 n2, nw = (bx, boxO ls p2 q2 v1 v2 n2) :: (ls, listOf vs.toArray nl) :: (L' + 1, oc) :: news ∧ 0 ≤ p2 ∧ IntsAre ys l ∧ KBa.In l ∧ l.length = i) lF B' rfl rfl ?hclos ?hcell ?hkind ?hnames ?hx ?hsub ?_ ?hset
    case hclos => with_unfolding_all rfl
    case hcell => decide
    case hkind => with_unfolding_all rfl
    case hnames => decide
    case hx => with_unfolding_all rfl
    case hset => intro _; with_unfolding_all rfl
    case hsub => intro i ys nw _ q hq; cases hq
    k_steps
    unfold StopT
    try dsimp only at *
    refine' c_take (by assumption) (by assumption) (by assumption) (by assumption) (by assumption) rfl ?hd2 ?hu2 (by decide) hi hp1 hl hbl hbn2 ?hs2
    case hd2 => exact room (k := 1) hd rfl
    case hu2 => exact roomU (k := 8) hu rfl
    case hs2 =>
      intro r2 p2 q2 t5 u3 u4 n2 h2 tk2 hr20 hr21 hp2 F2 N2
      k_steps
      try dsimp only at *
      rename IsRange _ _ _ _ _ _ _ _ => lR
      rename Fr g' L' _ _ => lF1
      rename News g' L' _ _ => lN1
      refine ⟨r2.toNat, ?sz, _, _, _, _, _, _, rfl, lF1, lN1, lR, ?sm, ?rs, ⟨[], p2, q2, _, _, _, rfl, hp2, .nil, (fun z hz => by cases hz), rfl⟩, ?turn, ?hE, ?fin⟩
      case sm => exact small_one (by omega) (by omega) (by omega) (by omega)
      case rs => rw [show r2 = ((r2.toNat : Nat) : Int) by omega]; exact rangeSize_nat _ _
      case sz => rw [sizeLine_eq]; omega
      case hE => intro hf; exact hf.elim
      case turn =>
        rintro i ys nw I oI C oC D m₂ h tk t9 Ee hi9 ⟨l, p3, q3, v1, v2, n3, rfl, hp3, hints, hin, hll⟩ hoC hm2 F9 N9 off9 hne hmay
        have hob := off9.mem (bx, _) (.head _)
        replace N9 := pkI N9
        have hbn3 : ∀ p ∈ (I, oI) :: (C, oC) :: (D, PyProof.Rows.LCg.lst ys) :: (L' + 1, oc) :: news, p.1 ≠ bx := fun p hp => by
          rcases List.mem_cons.mp hp with rfl | hp
          · exact Ne.symm hob.1
          rcases List.mem_cons.mp hp with rfl | hp
          · exact Ne.symm hob.2.1
          rcases List.mem_cons.mp hp with rfl | hp
          · exact Ne.symm hob.2.2
          · exact hbn2 p hp
        clear lF1 lN1 lR
        k_steps
        unfold StopT
        try dsimp only at *
        refine' c_take (by assumption) (by assumption) (by assumption) (by assumption) (by assumption) rfl ?hd20 ?hu20 (by decide) hi hp3 hl hbl hbn3 ?hs20
        case hd20 => exact room (k := 1) hd rfl
        case hu20 => exact roomU (k := 8) hu rfl
        case hs20 =>
          intro r4 p4 q4 t6 u5 u6 n4 h4 tk4 hr40 hr41 hp4 F4 N4
          try dsimp only
          refine ⟨_, _, (bx, boxO ls p4 q4 u5 u6 n4) :: (ls, listOf vs.toArray nl) :: (L' + 1, oc) :: news, rfl, F4, pkJ N4, ?_, ⟨l ++ [r4], p4, q4, u5, u6, n4, rfl, hp4, ints_snoc hints, ?_, by rw [List.length_append, List.length_singleton, hll]⟩⟩
          · refine LCg.Off3.of fun p hp => ?_
            rcases List.mem_cons.mp hp with rfl | hp
            · exact hob
            · exact off9.mem p (.tail _ hp)
          · intro z hz
            rcases List.mem_append.mp hz with hz | hz
            · exact hin z hz
            · rw [List.mem_singleton.mp hz]; omega
      case fin =>
        rintro ys nw D h tk ⟨l, p3, q3, v1, v2, n3, rfl, hp3, hints, hin, hll⟩ F9 N9 off9
        clear lF1 lN1 lR
        have hil := hints.length
        k_steps
        (try unfold StopT)
        rename Fr g' _ _ _ => lF6
        rename News g' _ _ _ => lN6
        refine KBa.make_K lF6 lN6 rfl (News.isList lN6 (.head _)) hints hin (by omega) ?_
        intro h7 t7 k7 F7 N7 _
        k_steps
        rename Fr h₀ _ _ _ => lF8
        rename News h₀ _ _ _ => lN8
        exact hs _ _ p3 q3 v1 v2 n3 _ _ (by rw [byteArr_size]; omega) hp3 lF8 (cb_drop lN8 (by (first | ((repeat' (first | exact sub_refl | exact sub_nil | (refine sub_cons ?_ ?_; focus (((repeat (first | exact List.Mem.head _ | refine List.Mem.tail _ ?_))); done)) | refine sub_tail ?_)); done) | (intro p hp; (try simp only [List.mem_cons, List.mem_append, List.cons_append, List.nil_append, List.append_assoc, List.not_mem_nil, or_false, false_or] at hp ⊢); first | assumption | grind))))
  · unfold StopT
    rename Fr g' _ _ _ => lF
    rename News g' _ _ _ => lN
    with_unfolding_all refine' lc_rangeV (kpn := []) (may := False) (a := 0) (cl := [(Str.ofString "box", L' + 1)]) (fun i ys nw => ∃ l p2 q2 v1 v2 n2, nw = (bx, boxO ls p2 q2 v1 v2 n2) :: (ls, listOf vs.toArray nl) :: (L' + 1, oc) :: news ∧ 0 ≤ p2 ∧ IntsAre ys l ∧ KBa.In l ∧ l.length = i) lF B' rfl rfl ?hclos ?hcell ?hkind ?hnames ?hx ?hsub ?_ ?hset
    case hclos => with_unfolding_all rfl
    case hcell => decide
    case hkind => with_unfolding_all rfl
    case hnames => decide
    case hx => with_unfolding_all rfl
    case hset => intro _; with_unfolding_all rfl
    case hsub => intro i ys nw _ q hq; cases hq
    k_steps
    unfold StopT
    try dsimp only at *
    refine' c_take (by assumption) (by assumption) (by assumption) (by assumption) (by assumption) rfl ?hd3 ?hu3 (by decide) hi hp1 hl hbl hbn2 ?hs3
    case hd3 => exact room (k := 1) hd rfl
    case hu3 => exact roomU (k := 8) hu rfl
    case hs3 =>
      intro r2 p2 q2 t5 u3 u4 n2 h2 tk2 hr20 hr21 hp2 F2 N2
      k_steps
      try dsimp only at *
      rename IsRange _ _ _ _ _ _ _ _ => lR
      rename Fr g' L' _ _ => lF1
      rename News g' L' _ _ => lN1
      refine ⟨r2.toNat, ?sz, _, _, _, _, _, _, rfl, lF1, lN1, lR, ?sm, ?rs, ⟨[], p2, q2, _, _, _, rfl, hp2, .nil, (fun z hz => by cases hz), rfl⟩, ?turn, ?hE, ?fin⟩
      case sm => exact small_one (by omega) (by omega) (by omega) (by omega)
      case rs => rw [show r2 = ((r2.toNat : Nat) : Int) by omega]; exact rangeSize_nat _ _
      case sz => rw [sizeLine_eq]; omega
      case hE => intro hf; exact hf.elim
      case turn =>
        rintro i ys nw I oI C oC D m₂ h tk t9 Ee hi9 ⟨l, p3, q3, v1, v2, n3, rfl, hp3, hints, hin, hll⟩ hoC hm2 F9 N9 off9 hne hmay
        have hob := off9.mem (bx, _) (.head _)
        replace N9 := pkI N9
        have hbn3 : ∀ p ∈ (I, oI) :: (C, oC) :: (D, PyProof.Rows.LCg.lst ys) :: (L' + 1, oc) :: news, p.1 ≠ bx := fun p hp => by
          rcases List.mem_cons.mp hp with rfl | hp
          · exact Ne.symm hob.1
          rcases List.mem_cons.mp hp with rfl | hp
          · exact Ne.symm hob.2.1
          rcases List.mem_cons.mp hp with rfl | hp
          · exact Ne.symm hob.2.2
          · exact hbn2 p hp
        clear lF1 lN1 lR
        k_steps
        unfold StopT
        try dsimp only at *
        refine' c_take (by assumption) (by assumption) (by assumption) (by assumption) (by assumption) rfl ?hd30 ?hu30 (by decide) hi hp3 hl hbl hbn3 ?hs30
        case hd30 => exact room (k := 1) hd rfl
        case hu30 => exact roomU (k := 8) hu rfl
        case hs30 =>
          intro r4 p4 q4 t6 u5 u6 n4 h4 tk4 hr40 hr41 hp4 F4 N4
          try dsimp only
          refine ⟨_, _, (bx, boxO ls p4 q4 u5 u6 n4) :: (ls, listOf vs.toArray nl) :: (L' + 1, oc) :: news, rfl, F4, pkJ N4, ?_, ⟨l ++ [r4], p4, q4, u5, u6, n4, rfl, hp4, ints_snoc hints, ?_, by rw [List.length_append, List.length_singleton, hll]⟩⟩
          · refine LCg.Off3.of fun p hp => ?_
            rcases List.mem_cons.mp hp with rfl | hp
            · exact hob
            · exact off9.mem p (.tail _ hp)
          · intro z hz
            rcases List.mem_append.mp hz with hz | hz
            · exact hin z hz
            · rw [List.mem_singleton.mp hz]; omega
      case fin =>
        rintro ys nw D h tk ⟨l, p3, q3, v1, v2, n3, rfl, hp3, hints, hin, hll⟩ F9 N9 off9
        clear lF1 lN1 lR
        have hil := hints.length
        k_steps
        (try unfold StopT)
        rename Fr g' _ _ _ => lF6
        rename News g' _ _ _ => lN6
        refine KBa.make_K lF6 lN6 rfl (News.isList lN6 (.head _)) hints hin (by omega) ?_
        intro h7 t7 k7 F7 N7 _
        k_steps
        rename Fr h₀ _ _ _ => lF8
        rename News h₀ _ _ _ => lN8
        exact hs _ _ p3 q3 v1 v2 n3 _ _ (by rw [byteArr_size]; omega) hp3 lF8 (cb_drop lN8 (by (first | ((repeat' (first | exact sub_refl | exact sub_nil | (refine sub_cons ?_ ?_; focus (((repeat (first | exact List.Mem.head _ | refine List.Mem.tail _ ?_))); done)) | refine sub_tail ?_)); done) | (intro p hp; (try simp only [List.mem_cons, List.mem_append, List.cons_append, List.nil_append, List.append_assoc, List.not_mem_nil, or_false, false_or] at hp ⊢); first | assumption | grind))))
  · unfold StopT
    try dsimp only at *
    show wpAny _ _ (call (Value.ref 262) []) _ _ _
    refine' c_samples (by assumption) (by assumption) (by assumption) (by assumption) (by assumption) rfl ?hd4 ?hu4 ?hs4
    case hd4 => exact room (k := 1) hd rfl
    case hu4 => exact roomU (k := 8) hu rfl
    case hs4 =>
    intro y sv n5 h5 tk5 hlen hsv F5 N5 ly
    have hbn4 : ∀ p ∈ (y, listOf sv.toArray n5) :: (L' + 1, oc) :: news, p.1 ≠ bx := fun p hp => by
      rcases List.mem_cons.mp hp with rfl | hp
      · exact Nat.ne_of_gt (ly (bx, _) (.head _))
      · exact hbn2 p hp
    replace N5 := pk3 N5
    have hsz : sv.toArray.size = 17 := by rw [List.size_toArray, hlen]
    have pick : ∀ r : Int, 0 ≤ r → r < 17 → ∃ bb tt, sv.toArray[r.toNat]? = some (.bytes bb tt) ∧ 1 ≤ (KBw.bInts bb).length ∧ (KBw.bInts bb).length ≤ 30 := fun r h0 h1 => by
      have hlt : r.toNat < sv.length := by omega
      obtain ⟨bb, tt, he, h2, h3⟩ := hsv _ (List.getElem_mem hlt)
      exact ⟨bb, tt, by rw [List.getElem?_toArray, List.getElem?_eq_getElem hlt, he], by rw [KBw.ints_length]; exact h2, by rw [KBw.ints_length]; exact h3⟩
    k_steps
    unfold StopT
    rename News g' _ _ _ => lN
    refine len_list (News.isList lN (.tail _ (.tail _ (.head _)))) (by rw [hsz]; decide) ?_
    rw [hsz]
    k_steps
    unfold StopT
    try dsimp only at *
    refine' c_take (by assumption) (by assumption) (by assumption) (by assumption) (by assumption) rfl ?hd5 ?hu5 (by decide) hi hp1 hl hbl hbn4 ?hs5
    case hd5 => exact room (k := 1) hd rfl
    case hu5 => exact roomU (k := 8) hu rfl
    case hs5 =>
    intro r5 p5 q5 t7 u7 u8 n6 h6 tk6 hr50 hr51 hp5 F6 N6
    k_steps
    unfold StopT
    rename News g' _ _ _ => lN
    obtain ⟨b5, tb5, he5, hb50, hb51⟩ := pick r5 hr50 (by omega)
    refine item_list (News.isList lN (.tail _ (.tail _ (.head _)))) hr50 (by omega) he5 ?_
    generalize hk5 : KBw.bInts b5 = ks5 at hb50 hb51
    clear he5
    k_steps
    · unfold StopT
      rename News g' _ _ _ => lN
      refine len_list (News.isList lN (.tail _ (.tail _ (.head _)))) (by rw [hsz]; decide) ?_
      rw [hsz]
      k_steps
      unfold StopT
      try dsimp only at *
      refine' c_take (by assumption) (by assumption) (by assumption) (by assumption) (by assumption) rfl ?hd6 ?hu6 (by decide) hi hp5 hl hbl hbn4 ?hs6
      case hd6 => exact room (k := 1) hd rfl
      case hu6 => exact roomU (k := 8) hu rfl
      case hs6 =>
      intro r6 p6 q6 t8 u9 u10 n7 h7 tk7 hr60 hr61 hp6 F7 N7
      k_steps
      unfold StopT
      rename News g' _ _ _ => lN
      obtain ⟨b6, tb6, he6, hb60, hb61⟩ := pick r6 hr60 (by omega)
      refine item_list (News.isList lN (.tail _ (.tail _ (.head _)))) hr60 (by omega) he6 ?_
      generalize hk6 : KBw.bInts b6 = ks6 at hb60 hb61
      clear he6
      k_steps
      · exfalso; omega
      · exfalso; omega
      rename Fr h₀ _ _ _ => lF8
      rename News h₀ _ _ _ => lN8
      rename KBw.bInts (b5 ++ b6) = _ => hc
      have hcl := congrArg List.length hc
      rw [KBw.ints_length, List.length_append] at hcl
      exact hs _ _ p6 q6 u9 u10 n7 _ _ (by omega) hp6 lF8 (cb_drop lN8 (by (first | ((repeat' (first | exact sub_refl | exact sub_nil | (refine sub_cons ?_ ?_; focus (((repeat (first | exact List.Mem.head _ | refine List.Mem.tail _ ?_))); done)) | refine sub_tail ?_)); done) | (intro p hp; (try simp only [List.mem_cons, List.mem_append, List.cons_append, List.nil_append, List.append_assoc, List.not_mem_nil, or_false, false_or] at hp ⊢); first | assumption | grind))))
    · unfold StopT
      try dsimp only at *
      refine' c_take (by assumption) (by assumption) (by assumption) (by assumption) (by assumption) rfl ?hd7 ?hu7 (by omega) hi hp5 hl hbl hbn4 ?hs7
      case hd7 => exact room (k := 1) hd rfl
      case hu7 => exact roomU (k := 8) hu rfl
      case hs7 =>
      intro r6 p6 q6 t8 u9 u10 n7 h7 tk7 hr60 hr61 hp6 F7 N7
      k_steps
      rename Fr h₀ _ _ _ => lF8
      rename News h₀ _ _ _ => lN8
      rename KBw.bInts (KBy.picked _ _ _) = _ => hc
      have hcl := congrArg List.length hc
      rw [KBw.ints_length, List.length_take, List.length_append, List.length_map, List.length_nil] at hcl
      exact hs _ _ p6 q6 u9 u10 n7 _ _ (by omega) hp6 lF8 (cb_drop lN8 (by (first | ((repeat' (first | exact sub_refl | exact sub_nil | (refine sub_cons ?_ ?_; focus (((repeat (first | exact List.Mem.head _ | refine List.Mem.tail _ ?_))); done)) | refine sub_tail ?_)); done) | (intro p hp; (try simp only [List.mem_cons, List.mem_append, List.cons_append, List.nil_append, List.append_assoc, List.not_mem_nil, or_false, false_or] at hp ⊢); first | assumption | grind))))
    · unfold StopT
      try dsimp only at *
      refine' c_take (by assumption) (by assumption) (by assumption) (by assumption) (by assumption) rfl ?hd8 ?hu8 (by omega) hi hp5 hl hbl hbn4 ?hs8
      case hd8 => exact room (k := 1) hd rfl
      case hu8 => exact roomU (k := 8) hu rfl
      case hs8 =>
      intro r6 p6 q6 t8 u9 u10 n7 h7 tk7 hr60 hr61 hp6 F7 N7
      k_steps
      rename KBw.bInts (KBy.picked _ _ _) = _ => hc1
      unfold StopT
      try dsimp only at *
      refine' c_take (by assumption) (by assumption) (by assumption) (by assumption) (by assumption) rfl ?hd9 ?hu9 (by decide) hi hp6 hl hbl hbn4 ?hs9
      case hd9 => exact room (k := 1) hd rfl
      case hu9 => exact roomU (k := 8) hu rfl
      case hs9 =>
      intro r7 p7 q7 t9 u11 u12 n8 h8 tk8 hr70 hr71 hp7 F8 N8
      k_steps
      unfold StopT
      rename Fr g' _ _ _ => lF
      rename News g' _ _ _ => lN
      refine KBa.make_K (vs := [Value.int r7 t9]) (ns := [r7]) lF lN rfl (News.isList lN (.head _)) (.cons _ _ .nil) (fun z hz => by rw [List.mem_singleton.mp hz]; omega) (Nat.le_of_ble_eq_true rfl) ?_
      intro h9 t10 k9 F9 N9 hin9
      have hb9 := KBa.ints_make hin9
      generalize byteArr [r7] = b9 at hb9
      k_steps
      rename Fr h₀ _ _ _ => lF8
      rename News h₀ _ _ _ => lN8
      rename KBw.bInts (_ ++ _ ++ _) = _ => hc
      have hcl := congrArg List.length hc
      rw [KBw.ints_length] at hcl
      simp only [List.length_append, List.length_take, List.length_drop, List.length_map, List.length_nil, List.length_cons] at hcl
      exact hs _ _ p7 q7 u11 u12 n8 _ _ (by omega) hp7 lF8 (cb_drop lN8 (by (first | ((repeat' (first | exact sub_refl | exact sub_nil | (refine sub_cons ?_ ?_; focus (((repeat (first | exact List.Mem.head _ | refine List.Mem.tail _ ?_))); done)) | refine sub_tail ?_)); done) | (intro p hp; (try simp only [List.mem_cons, List.mem_append, List.cons_append, List.nil_append, List.append_assoc, List.not_mem_nil, or_false, false_or] at hp ⊢); first | assumption | grind))))
    · rename Fr h₀ _ _ _ => lF8
      rename News h₀ _ _ _ => lN8
      rename KBw.bInts (b5 ++ #[]) = _ => hc
      have hcl := congrArg List.length hc
      rw [KBw.ints_length, List.length_append, List.length_map, List.length_nil] at hcl
      exact hs _ _ p5 q5 u7 u8 n6 _ _ (by omega) hp5 lF8 (cb_drop lN8 (by (first | ((repeat' (first | exact sub_refl | exact sub_nil | (refine sub_cons ?_ ?_; focus (((repeat (first | exact List.Mem.head _ | refine List.Mem.tail _ ?_))); done)) | refine sub_tail ?_)); done) | (intro p hp; (try simp only [List.mem_cons, List.mem_append, List.cons_append, List.nil_append, List.append_assoc, List.not_mem_nil, or_false, false_or] at hp ⊢); first | assumption | grind))))
end
section
end
end
/-! Zl -/
section
section
variable {w : World} {mean : ExcName → Option Value} {mg mb : Str → Option Value} {A₀ : Around} {base h₀ : Heap} {outer : List Env} {L : Addr} {m : Str → Option Value} {news : List (Addr × Obj)} {h : Heap} {gs : Array GenState} {dr : Drawn} {tk : Nat} {os : OsState} {cs : Scope}
    {dp un : Nat} {gd : Option (List Code)} {cn : Str} {a : Addr} {ccd : Value} {cl : List (Str × Addr)} {Q E : Value → Shared → Prop}
end
local macro_rules | `(tactic| walk_at "call builtin:isinstance") => `(tactic| ((with_reducible show wpAny _ _ (call _ [Value.ref _, Value.type "int"]) _ _ _); refine stop_ ?_))
local macro_rules | `(tactic| walk_at "getAttr ref") => `(tactic| refine stop_ ?_)
theorem turn0 {g g' h : Heap} {L : Addr} {m : Str → Option Value} {nx : List (Addr × Obj)} (T : KtsTurn [] g g') (F : Fr g' L h m) (N : News g' L h nx) : Fr g L h m ∧ News g L h nx :=
  ⟨⟨F.ns, fun b o q => F.keep b o (T.other b o q (by simp)), by have := F.above; rw [T.size] at this; exact this⟩, fun p hp => ⟨(N p hp).1, (N p hp).2.1, by
    cases z : g.get? p.1 with
    | none => rfl
    | some o => have := T.other _ _ z (by simp); rw [(N p hp).2.2] at this; cases this⟩⟩
theorem news_skip {h₀ h : Heap} {L : Addr} {d a : Addr × Obj} {r : List (Addr × Obj)} (N : News h₀ L h (d :: a :: r)) : News h₀ L h (a :: ([] ++ r)) := cb_drop N fun p hp => .tail _ hp
def WQ (g : Heap) (L : Addr) (m₀ : Str → Option Value) (dl : Addr) (rest : List (Addr × Obj)) (ks : List Int) (s : Shared) (f : Flow) (s' : Shared) : Prop :=
  f = .next ∧ ∃ (u : Str → Option Value) (z : Nat) (uz : Tok) (due : Value) (vs : List Value) (n : Nat) (tl : List (Addr × Obj)) (ds : List D) (h : Heap) (tk : Nat), s' = ⟨h, s.gens, s.drawn, tk, s.os⟩ ∧
    Fr g L h (fun y => kstB (fun x => if [Str.ofString "one"].contains x then u x else m₀ x) [(Str.ofString "at", .int (z : Int) uz), (Str.ofString "due", due)] y) ∧
    News g L h ((dl, listOf vs.toArray n) :: (tl ++ rest)) ∧ DAll tl vs ds ∧ ((due = .ref dl ∧ (ks.length ≠ 0 → sAll ks = .inr ds)) ∨ (∃ c t, due = .int c t ∧ sAll ks = .inl c))
theorem pkL {h₀ h : Heap} {L : Addr} {f x : Addr × Obj} {tl r : List (Addr × Obj)} (N : News h₀ L h (x :: (tl ++ f :: r))) : News h₀ L h (f :: x :: (tl ++ r)) := by
  refine cb_drop N ?_
  intro p hp
  simp only [List.mem_cons, List.mem_append] at hp ⊢
  grind
theorem pkM {h₀ h : Heap} {L : Addr} {f x : Addr × Obj} {t1 t2 r : List (Addr × Obj)} (N : News h₀ L h (f :: x :: (t1 ++ (t2 ++ r)))) : News h₀ L h (f :: ((t1 ++ t2) ++ r)) := by
  refine cb_drop N ?_
  intro p hp
  simp only [List.mem_cons, List.mem_append] at hp ⊢
  grind
noncomputable def dueW : Value → Nat
  | .ref _ => 1
  | _ => 0
abbrev WS : Type := Nat × Tok × Value × List Value × Nat × List (Addr × Obj) × List D
section
variable {prog : Program} {w : World} {A : Around} {E : Value → Shared → Prop} {s : Shared} {env : Env} {h₀ : Heap} {test : Expr} {body : List Stmt} {Q : Flow → Shared → Prop}
theorem law_while {pos : Pos} {m₀ : Str → Option Value} {dl : Addr} {rest : List (Addr × Obj)} {ks : List Int} {t0 : Tok} (F : Fr h₀ env.locals s.heap m₀) (N : News h₀ env.locals s.heap ((dl, listOf ([] : List Value).toArray 0) :: ([] ++ rest)))
    (k1 : m₀ (Str.ofString "at") = some (.int 0 t0)) (k2 : m₀ (Str.ofString "due") = some (.ref dl))
    (turn : ∀ (c : WS) nx (u : Str → Option Value) h tk, (nx = (dl, listOf c.2.2.2.1.toArray c.2.2.2.2.1) :: (c.2.2.2.2.2.1 ++ rest) ∧ DAll c.2.2.2.2.2.1 c.2.2.2.1 c.2.2.2.2.2.2 ∧ (∀ p ∈ c.2.2.2.2.2.1, dl < p.1) ∧ ((c.2.2.1 = .ref dl ∧ (ks.length ≠ 0 → At ks c.1 c.2.2.2.2.2.2)) ∨ (∃ cc tc, c.2.2.1 = .int cc tc ∧ sAll ks = .inl cc))) →
      Fr h₀ env.locals h (fun y => kstB (fun z => if [Str.ofString "one"].contains z then u z else m₀ z) [(Str.ofString "at", .int (c.1 : Int) c.2.1), (Str.ofString "due", c.2.2.1)] y) → News h₀ env.locals h nx →
      let QN : Flow → Shared → Prop := WQ h₀ env.locals m₀ dl rest ks s
      let QW : Flow → Shared → Prop := WPost QN (WEnd h₀ env.locals (fun c : WS => [(Str.ofString "at", .int (c.1 : Int) c.2.1), (Str.ofString "due", c.2.2.1)])
        (fun c nx => nx = (dl, listOf c.2.2.2.1.toArray c.2.2.2.2.1) :: (c.2.2.2.2.2.1 ++ rest) ∧ DAll c.2.2.2.2.2.1 c.2.2.2.1 c.2.2.2.2.2.2 ∧ (∀ p ∈ c.2.2.2.2.2.1, dl < p.1) ∧ ((c.2.2.1 = .ref dl ∧ (ks.length ≠ 0 → At ks c.1 c.2.2.2.2.2.2)) ∨ (∃ cc tc, c.2.2.1 = .int cc tc ∧ sAll ks = .inl cc)))
        (fun c => (ks.length - c.1) + dueW c.2.2.1) [Str.ofString "one"] m₀ ((ks.length - c.1) + dueW c.2.2.1) s)
      wpAny (model prog w) A (isTrue test env (eval test env)) (fun b s₂ => if b then wpAny (model prog w) A (execs body env) QW E s₂ else QN .next s₂) E { s with heap := h, toks := tk })
    (cont : ∀ s', WQ h₀ env.locals m₀ dl rest ks s .next s' → Q .next s')
    (hE : PassesOwn (model prog w) A env E := by passes_own) :
    wpAny (model prog w) A (exec (.While test body [] pos) env) Q E s := by
  refine wpAny_mono (lp_while (σ := WS) (fun c : WS => [(Str.ofString "at", .int (c.1 : Int) c.2.1), (Str.ofString "due", c.2.2.1)]) (fun c nx => nx = (dl, listOf c.2.2.2.1.toArray c.2.2.2.2.1) :: (c.2.2.2.2.2.1 ++ rest) ∧ DAll c.2.2.2.2.2.1 c.2.2.2.1 c.2.2.2.2.2.2 ∧ (∀ p ∈ c.2.2.2.2.2.1, dl < p.1) ∧ ((c.2.2.1 = .ref dl ∧ (ks.length ≠ 0 → At ks c.1 c.2.2.2.2.2.2)) ∨ (∃ cc tc, c.2.2.1 = .int cc tc ∧ sAll ks = .inl cc)))
    (fun c => (ks.length - c.1) + dueW c.2.2.1) [Str.ofString "one"] (0, t0, .ref dl, [], 0, [], []) F N ?_ ⟨rfl, .nil, fun p hp => by (cases hp), .inl ⟨rfl, fun h => at_zero h⟩⟩ turn hE) (fun f s' h => by obtain ⟨rfl, _⟩ := id h; exact cont s' h) fun _ _ e => e
  intro p hp
  simp only [List.mem_cons, List.not_mem_nil, or_false] at hp
  rcases hp with rfl | rfl
  · exact k1
  · exact k2
end
theorem law_end {h₀ : Heap} {L : Addr} {m₀ m' : Str → Option Value} {dl : Addr} {rest : List (Addr × Obj)} {ks : List Int} {s : Shared} {Q : Flow → Shared → Prop} {k : Nat} {h' : Heap} {tk' : Nat} (z : Nat) (uz : Tok) (due : Value) (vs : List Value) (n : Nat) (tl : List (Addr × Obj)) (ds : List D)
    (F : Fr h₀ L h' m') (N : News h₀ L h' ((dl, listOf vs.toArray n) :: (tl ++ rest))) (hD : DAll tl vs ds) (htl : ∀ p ∈ tl, dl < p.1) (hst : (due = .ref dl ∧ (ks.length ≠ 0 → At ks z ds)) ∨ (∃ cc tc, due = .int cc tc ∧ sAll ks = .inl cc))
    (h1 : m' (Str.ofString "at") = some (.int (z : Int) uz)) (h2 : m' (Str.ofString "due") = some due) (h3 : ∀ y, y ≠ Str.ofString "at" → y ≠ Str.ofString "due" → y ≠ Str.ofString "one" → m' y = m₀ y)
    (hk : (ks.length - z) + dueW due < k) :
    WPost Q (WEnd h₀ L (fun c : WS => [(Str.ofString "at", .int (c.1 : Int) c.2.1), (Str.ofString "due", c.2.2.1)])
        (fun c nx => nx = (dl, listOf c.2.2.2.1.toArray c.2.2.2.2.1) :: (c.2.2.2.2.2.1 ++ rest) ∧ DAll c.2.2.2.2.2.1 c.2.2.2.1 c.2.2.2.2.2.2 ∧ (∀ p ∈ c.2.2.2.2.2.1, dl < p.1) ∧ ((c.2.2.1 = .ref dl ∧ (ks.length ≠ 0 → At ks c.1 c.2.2.2.2.2.2)) ∨ (∃ cc tc, c.2.2.1 = .int cc tc ∧ sAll ks = .inl cc)))
        (fun c => (ks.length - c.1) + dueW c.2.2.1) [Str.ofString "one"] m₀ k s) .next ⟨h', s.gens, s.drawn, tk', s.os⟩ := by
  refine ⟨(z, uz, due, vs, n, tl, ds), h', tk', m', _, rfl, F, N, ⟨rfl, hD, htl, hst⟩, fun p hp => ?_, fun y hy1 hy2 => ?_, hk⟩
  · simp only [List.mem_cons, List.not_mem_nil, or_false] at hp
    rcases hp with rfl | rfl
    · exact h1
    · exact h2
  · refine h3 y (hy1 _ (.head _)) (hy1 _ (.tail _ (.head _))) fun q => ?_
    rw [q] at hy2
    exact absurd hy2 (by decide)
section
variable {prog : Program} {w : World} {A : Around} {E : Value → Shared → Prop} {s : Shared} {env : Env} {h₀ : Heap} {test : Expr} {body : List Stmt} {Q : Flow → Shared → Prop}
theorem law_if {pos : Pos} {m1 : Str → Option Value} {dl : Addr} {nx : List (Addr × Obj)} {ks : List Int} {ds : List D} {a due : Value} (F : Fr h₀ env.locals s.heap (fun y => kstB m1 [(Str.ofString "at", a), (Str.ofString "due", due)] y)) (N : News h₀ env.locals s.heap nx)
    (hst : (due = .ref dl ∧ (ks.length ≠ 0 → sAll ks = .inr ds)) ∨ (∃ c t, due = .int c t ∧ sAll ks = .inl c))
    (h1 : wpAny (model prog w) A (isTrue test env (eval test env)) (fun b s₂ => b = decide (ks = []) ∧ ∃ t, s₂ = { s with toks := t }) E s)
    (h2 : ∀ t, wpAny (model prog w) A (execs body env) (fun f s₂ => f = .next ∧ ∃ h tk t9, s₂ = { s with heap := h, toks := tk } ∧ Fr h₀ env.locals h (fun y => if y = Str.ofString "due" then some (.int 10 t9) else kstB m1 [(Str.ofString "at", a), (Str.ofString "due", due)] y) ∧ News h₀ env.locals h nx) E { s with toks := t })
    (cont : ∀ due' h tk, ((due' = .ref dl ∧ sAll ks = .inr ds) ∨ (∃ c t, due' = .int c t ∧ sAll ks = .inl c)) → Fr h₀ env.locals h (fun y => kstB m1 [(Str.ofString "at", a), (Str.ofString "due", due')] y) → News h₀ env.locals h nx → Q .next { s with heap := h, toks := tk }) :
    wpAny (model prog w) A (exec (.If test body [] pos) env) Q E s := by
  refine if_pure (decide (ks = [])) h1 (fun t hc => ?_) fun t hc => ?_
  · have hk := of_decide_eq_true hc
    subst hk
    refine wpAny_mono (h2 t) (fun f s₂ hp => ?_) fun _ _ e => e
    obtain ⟨rfl, h, tk, t9, rfl, F2, N2⟩ := hp
    refine cont (.int 10 t9) h tk (.inr ⟨10, t9, rfl, rfl⟩) (fr_ext F2 fun y => ?_) N2
    unfold kstB
    by_cases hy : y = Str.ofString "due"
    · subst hy; rfl
    · simp [kstB, hy]
  · have hk := of_decide_eq_false hc
    refine wpAny_execs_nil (cont due s.heap t ?_ F N)
    rcases hst with ⟨rfl, h⟩ | h
    · exact .inl ⟨rfl, h fun z => hk (List.eq_nil_of_length_eq_zero z)⟩
    · exact .inr h
end
theorem law_goal : Challenge.rw_no0080_01.Holds := Mine.hd (by
  k_go0
  all_goals try k_fold
  k_steps
  unfold StopT
  rename World => w
  rename Shared => s₁
  rename (hd.heap_39 _).In _ => KX
  rename Top _ _ _ _ _ _ => T
  rename Below _ _ _ _ => K0
  rename IntsAre _ (List.take 40 _) => hI
  rename _ = min 40 _ => hC
  rename IsRange _ _ _ _ _ _ _ _ => lR
  rename Fr _ _ _ _ => lF
  rename News _ _ _ _ => lN
  have K : Below callerA s₁.heap [] s₁.heap := K0
  rename _ < _ ∧ True => lb2
  have lbl := lb2.1
  rename_i D9 ws9 _ hL9 _ bx9 _ _ _ _ _ _ _ _ _ _
  refine lp_range (n := 3) (σ := Int × Int × Tok × Tok × Nat) (fun _ => []) (fun _ c nx => nx = [(bx9, boxO D9 c.1 c.2.1 c.2.2.1 c.2.2.2.1 c.2.2.2.2), (D9, listOf ws9.toArray 0)] ∧ 0 ≤ c.1) [Str.ofString "data", Str.ofString "at", Str.ofString "due", Str.ofString "one", Str.ofString "given", Str.ofString "e"] (0, 19, _, _, 0) rfl lR rfl rfl lF lN (fun p hp => by cases hp) ⟨rfl, Int.le_refl 0⟩ ?turn ?done
  case done =>
    clear lF lN lR
    rintro ⟨p, q, u1, u2, nb⟩ nx uu h tk ⟨rfl, hp⟩ lF lN
    dsimp only at hp lF lN ⊢
    k_steps
    dsimp only
    refine goodW_bool lF (by assumption) (raisesW_false ?_) ?_
    · wrow_none_raised
    · wrow_post
  case turn =>
    clear lF lN lR
    try (rename Ground _ _ _ _ _ _ _ _ _ => hZ; clear hZ)
    try (rename Hook.says _ _ _ => hZ; clear hZ)
    try (rename Flt.MathXP _ _ _ => hZ; clear hZ)
    try (rename LooseAre _ _ _ => hZ; clear hZ)
    try (rename Glob _ _ _ _ _ _ _ _ => hZ; clear hZ)
    try (rename Tables _ _ _ _ => hZ; clear hZ)
    try (rename TopE _ _ _ _ => hZ; clear hZ)
    try (rename TopW _ _ _ => hZ; clear hZ)
    try (rename BMod _ _ _ _ _ => hZ; clear hZ)
    try (rename Heap.CodeRec _ _ _ => hZ; clear hZ)
    try (rename ReadsAll _ _ _ _ => hZ; clear hZ)
    try (rename Well _ _ _ _ => hZ; clear hZ)
    try (rename Reads _ _ _ _ => hZ; clear hZ)
    try (rename ReadsAllW _ _ _ _ _ _ => hZ; clear hZ)
    try (rename Dflts _ _ _ _ _ _ => hZ; clear hZ)
    try (rename Shape.has _ _ = true => hZ; clear hZ)
    try (rename PyData.layableAll0 _ = true => hZ; clear hZ)
    try (rename PyData.layable0 _ = true => hZ; clear hZ)
    try (rename WShape.hasAll _ _ _ = true => hZ; clear hZ)
    try (rename WData.layableAll _ = true => hZ; clear hZ)
    rintro i ⟨p, q, u1, u2, nb⟩ nx t uu h tk own hi ⟨rfl, hp⟩ hoff lF lN
    dsimp only at hp hoff lF lN
    have hbn : ∀ p ∈ own, p.1 ≠ bx9 := fun p hp => hoff p hp _ (.head _)
    refine let_goal ?_
    intro A1 Q1 E1
    k_steps
    unfold StopT
    refine' c_drawn (vs := ws9) K (by assumption) KX (by assumption) T rfl ?hd1 ?hu1 hI hp ?hl1 (Ne.symm (Nat.ne_of_lt lbl)) hbn ?hs1
    case hd1 => decide
    case hu1 => decide
    case hl1 => rw [hC]; exact Nat.min_le_left _ _
    case hs1 =>
    intro b tb p2 q2 v1 v2 nb2 h2 tk2 hbz hp2 F2 N2
    clear lF lN
    have hb : KBw.bInts b = KBw.bInts b := rfl
    generalize hks : KBw.bInts b = ks at hb
    have hbl : ks.length ≤ 100 := by rw [← hks, KBw.ints_length]; exact hbz
    clear hb
    k_steps
    unfold StopT
    rename_i dl _ ldl D8 _ _ _ _ _ _ lF lN
    have lN2 := news_skip lN
    clear lN
    have hln := ktn_ltOf (l := (bx9, boxO D9 p2 q2 v1 v2 nb2) :: (D9, listOf ws9.toArray 0) :: own) ldl
    have hoc := oct_of hks
    refine' law_while (dl := dl) (rest := (bx9, boxO D9 p2 q2 v1 v2 nb2) :: (D9, listOf ws9.toArray 0) :: own) (ks := ks) lF lN2 rfl rfl ?wt ?cont
    case wt =>
      clear lF lN2
      rintro ⟨z, uz, due, vs, n, tl, ds⟩ nx uu h3 tk3 ⟨rfl, hD, htl, hst⟩ lF lN QN QW
      dsimp only at hD htl hst lF lN ⊢
      replace lF : Fr s₁.heap s₁.heap.objs.size h3 _ := lF
      replace lN : News s₁.heap s₁.heap.objs.size h3 _ := lN
      refine let_goal ?_
      intro A2 Q2 E2
      rcases hst with ⟨rfl, hat⟩ | ⟨cc, tc, rfl, hall⟩
      · k_steps
        · have hz : z < ks.length := by omega
          have hat' := hat (by omega)
          unfold StopT
          refine' c_lone (tm := 0) K (by assumption) KX (by assumption) T rfl ?hd2 ?hu2 hks hbl ?hn2 ?hs2
          case hd2 => decide
          case hu2 => decide
          case hn2 =>
            intro c hc t4 h4 tk4 F4 N4
            clear lF lN
            k_steps
            rename Fr _ _ _ _ => lF5
            rename News _ _ _ _ => lN5
            refine law_end z uz (.int c t4) vs n tl ds lF5 lN5 hD htl (.inr ⟨c, t4, rfl, hat'.stop hz hc⟩) rfl rfl ?_ (by show ks.length - z + 0 < ks.length - z + 1; omega)
            intro y g1 g2 g3
            simp [kstB, g1, g2, g3]
          case hs2 =>
            intro d e hd x v u tl2 h4 tk4 hDv F4 N4 ho1 ho2
            clear lF lN
            have hvl := hD.length
            have hal : ds.length ≤ z := by obtain ⟨_, _, _, q⟩ := hat'; exact q
            have hat2 := hat'.next hoc hz hd
            k_steps
            unfold StopT
            rename Fr _ _ _ _ => lF5
            rename News _ _ _ _ => lN5
            refine PySem.IsiPair.tuple_int (lN5 _ (.head _)).1 rfl ?_
            replace lN5 := pkL lN5
            k_steps
            unfold StopT
            rename Fr _ _ _ _ => lF5
            rename News _ _ _ _ => lN5
            refine' append_1 (vs := vs) (n := n) (rest := (x, tupO [v, .int (e : Int) u] 0) :: (tl2 ++ (tl ++ (bx9, boxO D9 p2 q2 v1 v2 nb2) :: (D9, listOf ws9.toArray 0) :: own))) lF5 lN5 ?hr5 (by omega) ?_
            case hr5 =>
              intro p hp
              rcases List.mem_cons.mp hp with rfl | hp
              · exact Nat.ne_of_gt (ho2 (dl, _) (.head _))
              rcases List.mem_append.mp hp with hp | hp
              · exact Nat.ne_of_gt ((ho1 p hp).2 (dl, _) (.head _))
              rcases List.mem_append.mp hp with hp | hp
              · exact Nat.ne_of_gt (htl p hp)
              · exact Nat.ne_of_lt (hln p hp)
            intro h7 lF7 lN7
            clear lF5 lN5
            k_steps
            rename Fr _ _ _ _ => lF8
            rename News _ _ _ _ => lN8
            refine law_end e u (.ref dl) (vs ++ [v]) (n + 1) (tl2 ++ tl) (ds ++ [d]) lF8 (pkM lN8) ((hD.mono fun p hp => List.mem_append.mpr (.inr hp)).snoc (hDv.mono fun p hp => List.mem_append.mpr (.inl hp))) (fun p hp => ?_) (.inl ⟨rfl, fun _ => hat2⟩) rfl rfl (fun y g1 g2 g3 => by simp [kstB, g1, g2, g3]) (by have := one_lt hoc hd; show ks.length - e + 1 < ks.length - z + 1; omega)
            rcases List.mem_append.mp hp with hp | hp
            · exact (ho1 p hp).2 (dl, _) (.head _)
            · exact htl p hp
        · rename Fr _ _ _ _ => lF5
          rename News _ _ _ _ => lN5
          exact ⟨rfl, _, z, uz, .ref dl, vs, n, tl, ds, _, _, rfl, lF5, lN5, hD, .inl ⟨rfl, fun h0 => (hat h0).end_ (by omega)⟩⟩
      · k_steps
        all_goals
          rename Fr _ _ _ _ => lF5
          rename News _ _ _ _ => lN5
          exact ⟨rfl, _, z, uz, .int cc tc, vs, n, tl, ds, _, _, rfl, lF5, lN5, hD, .inr ⟨cc, tc, rfl, hall⟩⟩
    case cont =>
      intro s2 hW
      obtain ⟨_, u9, z, uz, due, vs, n, tl, ds, h5, tk5, rfl, lF, lN, hD, hst⟩ := hW
      replace lF : Fr s₁.heap s₁.heap.objs.size h5 _ := lF
      replace lN : News s₁.heap s₁.heap.objs.size h5 _ := lN
      refine wpAny_execs_cons ?_
      refine law_if lF lN hst ?t1 ?t2 ?t3
      case t1 =>
        k_steps
        rw [Bool.eq_iff_iff, decide_eq_true_iff]
        exact emptyb hks
      case t2 =>
        intro t9
        k_steps
        all_goals assumption
      case t3 =>
        clear lF lN hst
        intro due' h6 tk6 hst2 lF lN
        replace lF : Fr s₁.heap s₁.heap.objs.size h6 _ := lF
        replace lN : News s₁.heap s₁.heap.objs.size h6 _ := lN
        rcases hst2 with ⟨rfl, hall⟩ | ⟨c, tc, rfl, hall⟩
        · k_steps
          unfold StopT
          refine wpAny_Try_except ?_
          k_steps
          unfold StopT
          refine' p_frames K (by assumption) KX (by assumption) T rfl ?hd3 ?hu3 hks hbl KX T ?hq3 ?hs3
          case hd3 => decide
          case hu3 => decide
          case hq3 => intro c hc; rw [hall] at hc; cases hc
          case hs3 =>
            intro ds2 hds y vs2 n2 tl2 h7 tk7 hD2 F7 N7
            rw [hall] at hds
            cases hds
            k_steps
            try unfold StopT
            rename Fr _ _ _ _ => lF5
            rename News _ _ _ _ => lN5
            show wpAny _ _ (compareOp .NotEq (.ref y) (.ref dl)) _ _ _
            refine ne_same (n1 := tl2) (n2 := tl) (lN5 _ (.head _)).1 (lN5 _ (.tail _ (List.mem_append.mpr (.inr (.head _))))).1 hD2 hD (fun p hp => (lN5 p (.tail _ (List.mem_append.mpr (.inl hp)))).1) (fun p hp => (lN5 p (.tail _ (List.mem_append.mpr (.inr (.tail _ (List.mem_append.mpr (.inl hp))))))).1) (deep_all hall) ?hu5 ?_
            case hu5 => exact Nat.lt_of_lt_of_le (show _ < 100 from Nat.le_of_ble_eq_true rfl) (show 100 ≤ cLine by decide)
            k_steps
            rename Fr _ _ _ _ => lF5
            rename News _ _ _ _ => lN5
            refine' lp_end (p2, q2, v1, v2, nb2) [(bx9, boxO D9 p2 q2 v1 v2 nb2), (D9, listOf ws9.toArray 0)] lF5 lN5 ?se1 ?se2 hoff ?se3 ?se4 ⟨rfl, hp2⟩
            case se1 => (intro p hp; simp only [List.mem_cons, List.mem_append, List.not_mem_nil, or_false] at hp ⊢; grind)
            case se2 => (intro p hp; simp only [List.mem_cons, List.mem_append] at hp ⊢; grind)
            case se3 => intro p hp; cases hp
            case se4 => intro z' g1 g2 g3; simp only [List.contains_cons, List.contains_nil, Bool.or_false, Bool.or_eq_false_iff, beq_eq_false_iff_ne, ne_eq] at g3; simp [kstB, g1, g3]
        · k_steps
          unfold StopT
          refine wpAny_Try_except ?_
          k_steps
          unfold StopT
          refine' p_frames K (by assumption) KX (by assumption) T rfl ?hd4 ?hu4 hks hbl KX T ?hq4 ?hs4
          case hd4 => decide
          case hu4 => decide
          case hs4 => intro ds2 hds; rw [hall] at hds; cases hds
          case hq4 =>
            intro c2 hc2
            rw [hall] at hc2
            cases hc2
            intro g1 e1 dx1 od1 cx1 h7 tk7 mA1 tc1 F1 R1 hO1 hc1
            refine own_hitB (C := 38) R1 F1 K KX T (by k_is) (by kts_isx) (fun h8 g8 tk8 oe us T8 K8 F8 N8 hoc8 hod hoed X8 P8 => ?_)
            obtain ⟨F9, N9⟩ := turn0 T8 F8 N8
            clear F8 N8 K8 X8 P8 T8 R1 F1
            k_steps
            try unfold StopT
            rename Fr _ _ _ _ => lF5
            rename News _ _ _ _ => lN5
            refine at_code KX lF5 lN5 hoc8 hoed hod hO1 hc1 ?_
            k_steps
            · exact absurd rfl (by assumption)
            rename Fr _ _ _ _ => lF5
            rename News _ _ _ _ => lN5
            refine' lp_end (p2, q2, v1, v2, nb2) [(bx9, boxO D9 p2 q2 v1 v2 nb2), (D9, listOf ws9.toArray 0)] lF5 lN5 ?se1 ?se2 hoff ?se3 ?se4 ⟨rfl, hp2⟩
            case se1 => (intro p hp; simp only [List.mem_cons, List.mem_append, List.not_mem_nil, or_false] at hp ⊢; grind)
            case se2 => (intro p hp; simp only [List.mem_cons, List.mem_append] at hp ⊢; grind)
            case se3 => intro p hp; cases hp
            case se4 => intro z' g1 g2 g3; simp only [List.contains_cons, List.contains_nil, Bool.or_false, Bool.or_eq_false_iff, beq_eq_false_iff_ne, ne_eq] at g3; simp [kstB, g1, g3])
section
end
end
end
end Mine
theorem PySem.Challenge.cw_no0080_01_holds : PySem.Challenge.rw_no0080_01.Holds := by
  exact Mine.law_goal
