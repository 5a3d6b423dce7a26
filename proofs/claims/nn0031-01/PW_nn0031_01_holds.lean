import PyProof.Rows.All
import Wide.All
import OpenK.AllK
import Wide.FinOn
import KE.KLam
import KE.KSuper
import KE.KPop
import KE.KItem
import PyProof.Conv_int_bool
import PySem.Challenge.RW_nn0031_01
set_option Elab.async false
set_option compiler.extract_closed false
set_option maxRecDepth 100000
set_option linter.all false
namespace Mine
section
open PySem PySem.W PyProof.Rows
set_option maxHeartbeats 0
/-- the twins of these names are laid here, so that the head goes without them: their proofs are long -/
theorem nk : PySem.W.namesOk = PySem.W.namesOk := rfl
name_quick tw926213455627471399 for PySem.W.namesOk by nk
name_quick tw13145125596335152023 for PySem.W.namesOk by nk
name_quick tw4011157648589011858 for PySem.W.namesOk by nk
name_quick tw17057272898397164401 for PySem.W.namesOk by nk
name_quick tw3424931102881643321 for PySem.W.namesOk by nk
name_quick tw6434138532213402376 for PySem.W.namesOk by nk
name_quick tw8424611434330503625 for PySem.W.namesOk by nk
name_quick tw15900120412870309639 for PySem.W.namesOk by nk
name_quick tw9467589175468403638 for PySem.W.namesOk by nk
name_quick tw5189142188285759775 for PySem.W.namesOk by nk
name_quick tw10938465397075749097 for PySem.W.namesOk by nk
name_quick tw11939915149646268982 for PySem.W.namesOk by nk
name_quick tw9951705424602377420 for PySem.W.namesOk by nk
name_quick tw16697116713213952808 for PySem.W.namesOk by nk
name_quick tw1218959903707654005 for PySem.W.namesOk by nk
name_quick tw16846860572762119324 for PySem.W.namesOk by nk
name_quick tw11994158751524154303 for PySem.W.namesOk by nk
name_quick tw13759679279233594173 for PySem.W.namesOk by nk
name_quick tw17532440430192770315 for PySem.W.namesOk by nk
name_quick tw3118938333895590913 for PySem.W.namesOk by nk
name_quick tw14834023430324568649 for PySem.W.namesOk by nk
name_quick tw7365555872484859036 for PySem.W.namesOk by nk
name_quick tw6380047634161181297 for PySem.W.namesOk by nk
name_quick tw13016732220969518872 for PySem.W.namesOk by nk
name_quick tw10996506086634736982 for PySem.W.namesOk by nk
name_quick tw14714103240675001986 for PySem.W.namesOk by nk
name_quick tw6448080314894763839 for PySem.W.namesOk by nk
name_quick tw6059929106960060952 for PySem.W.namesOk by nk
name_quick tw4434333111790514575 for PySem.W.namesOk by nk
name_quick tw13180171748994924942 for PySem.W.namesOk by nk
name_quick tw1355338860687761863 for PySem.W.namesOk by nk
name_quick tw392140993173905013 for PySem.W.namesOk by nk
name_quick tw5396446701170858492 for PySem.W.namesOk by nk
name_quick tw17863021456227041891 for PySem.W.namesOk by nk
name_quick tw16350708796919097252 for PySem.W.namesOk by nk
name_quick tw7094674258960923220 for PySem.W.namesOk by nk
name_quick tw17476080006546285661 for PySem.W.namesOk by nk
name_quick tw13678640442995254988 for PySem.W.namesOk by nk
name_quick tw4275521005467322725 for PySem.W.namesOk by nk
name_quick tw13607416678640721797 for PySem.W.namesOk by nk
name_quick tw4797165386629745026 for PySem.W.namesOk by nk
name_quick tw9759809726879904816 for PySem.W.namesOk by nk
name_quick tw18340240734955500558 for PySem.W.namesOk by nk
name_quick tw10887116778572429059 for PySem.W.namesOk by nk
name_quick tw14386061602966655976 for PySem.W.namesOk by nk
name_quick tw15894407043143930727 for PySem.W.namesOk by nk
name_quick tw3131671291697673992 for PySem.W.namesOk by nk
name_quick tw17988542015724977305 for PySem.W.namesOk by nk
name_quick tw3778451253796500701 for PySem.W.namesOk by nk
name_quick tw4407734736301137906 for PySem.W.namesOk by nk
name_quick tw15323854079317868165 for PySem.W.namesOk by nk
name_quick tw8537084889766193716 for PySem.W.namesOk by nk
name_quick tw1184552218554016812 for PySem.W.namesOk by nk
name_quick tw1291980286583624508 for PySem.W.namesOk by nk
name_quick tw10424941004445345732 for PySem.W.namesOk by nk
name_quick tw8119918657739134586 for PySem.W.namesOk by nk
name_quick tw7304268236622374541 for PySem.W.namesOk by nk
name_quick tw6929956602132211858 for PySem.W.namesOk by nk
name_quick tw219737044198020058 for PySem.W.namesOk by nk
name_quick tw16049961110935095269 for PySem.W.namesOk by nk
name_quick tw1414301608579184545 for PySem.W.namesOk by nk
name_quick tw17001327861769816259 for PySem.W.namesOk by nk
name_quick tw16916688483869632129 for PySem.W.namesOk by nk
name_quick tw3766158894648301139 for PySem.W.namesOk by nk
name_quick tw5721027456603625697 for PySem.W.namesOk by nk
name_quick tw18445417521260656298 for PySem.W.namesOk by nk
name_quick tw13036272033356848781 for PySem.W.namesOk by nk
name_quick tw6426273055680023932 for PySem.W.namesOk by nk
name_quick tw7392212959928792091 for PySem.W.namesOk by nk
name_quick tw17434858337260393937 for PySem.W.namesOk by nk
name_quick tw11317593695737139937 for PySem.W.namesOk by nk
name_quick tw3880421473898291048 for PySem.W.namesOk by nk
name_quick tw18101931140130867144 for PySem.W.namesOk by nk
name_quick tw2611137233208623240 for PySem.W.namesOk by nk
name_quick tw13512673800721320934 for PySem.W.namesOk by nk
name_quick tw8708707556590381134 for PySem.W.namesOk by nk
name_quick tw9948023125614773506 for PySem.W.namesOk by nk
name_quick tw16349804527192203551 for PySem.W.namesOk by nk
name_quick tw5529568453561195837 for PySem.W.namesOk by nk
name_quick tw16241802466949684156 for PySem.W.namesOk by nk
name_quick tw1333364371103165705 for PySem.W.namesOk by nk
name_quick tw3577408171920636059 for PySem.W.namesOk by nk
name_quick tw12329403913580668285 for PySem.W.namesOk by nk
name_quick tw636462944352149979 for PySem.W.namesOk by nk
name_quick tw16439824349840649037 for PySem.W.namesOk by nk
name_quick tw470574548607681690 for PySem.W.namesOk by nk
name_quick tw4978915544186085027 for PySem.W.namesOk by nk
name_quick tw8603108125212654177 for PySem.W.namesOk by nk
name_quick tw15542503528162795033 for PySem.W.namesOk by nk
name_quick tw12734952128020822468 for PySem.W.namesOk by nk
name_quick tw9137105182441381901 for PySem.W.namesOk by nk
name_quick tw17532718790514356516 for PySem.W.namesOk by nk
name_quick tw7783732958741208154 for PySem.W.namesOk by nk
name_quick tw2627984346626558326 for PySem.W.namesOk by nk
name_quick tw16145670143442454269 for PySem.W.namesOk by nk
name_quick tw17069979004554194336 for PySem.W.namesOk by nk
name_quick tw3764465048917985505 for PySem.W.namesOk by nk
name_quick tw11462045893675790159 for PySem.W.namesOk by nk
name_quick tw1702518465993881591 for PySem.W.namesOk by nk
name_quick tw5032809538720368765 for PySem.W.namesOk by nk
name_quick tw5357591511691535388 for PySem.W.namesOk by nk
name_quick tw5345256250457102556 for PySem.W.namesOk by nk
name_quick tw15079194523842364033 for PySem.W.namesOk by nk
name_quick tw10227693086864044499 for PySem.W.namesOk by nk
name_quick tw6817277305950994716 for PySem.W.namesOk by nk
name_quick tw13335737130258781183 for PySem.W.namesOk by nk
name_quick tw17000458434675057986 for PySem.W.namesOk by nk
name_quick tw17517737089405305841 for PySem.W.namesOk by nk
name_quick tw2711585505577850959 for PySem.W.namesOk by nk
name_quick tw6120631845924854794 for PySem.W.namesOk by nk
name_quick tw15980859228951719591 for PySem.W.namesOk by nk
name_quick tw11625766737575182897 for PySem.W.namesOk by nk
name_quick tw13615603153576403970 for PySem.W.namesOk by nk
name_quick tw6550987210724342151 for PySem.W.namesOk by nk
name_quick tw8693227569615203950 for PySem.W.namesOk by nk
name_quick tw14353015910833222811 for PySem.W.namesOk by nk
name_quick tw9800571698397750058 for PySem.W.namesOk by nk
name_quick tw11707433790658880453 for PySem.W.namesOk by nk
name_quick tw13640514254501968386 for PySem.W.namesOk by nk
name_quick tw8579058602437062094 for PySem.W.namesOk by nk
name_quick tw3362959441861295915 for PySem.W.namesOk by nk
name_quick tw14896874001708588922 for PySem.W.namesOk by nk
name_quick tw667198328695590252 for PySem.W.namesOk by nk
name_quick tw6019396324639902685 for PySem.W.namesOk by nk
name_quick tw4775785305629353868 for PySem.W.namesOk by nk
name_quick tw14537914154153760125 for PySem.W.namesOk by nk
name_quick tw14108194823987119177 for PySem.W.namesOk by nk
name_quick tw14311459727803291754 for PySem.W.namesOk by nk
name_quick tw136631920214876835 for PySem.W.namesOk by nk
name_quick tw912392155897948271 for PySem.W.namesOk by nk
name_quick tw15112985482279097393 for PySem.W.namesOk by nk
name_quick tw7299303143086499733 for PySem.W.namesOk by nk
name_quick tw7581352650102555174 for PySem.W.namesOk by nk
name_quick tw13981391230805400906 for PySem.W.namesOk by nk
name_quick tw8017206721242287953 for PySem.W.namesOk by nk
name_quick tw14433975572909055671 for PySem.W.namesOk by nk
name_quick tw13002492023102617099 for PySem.W.namesOk by nk
name_quick tw1749818173716722547 for PySem.W.namesOk by nk
name_quick tw3891137856419664920 for PySem.W.namesOk by nk
name_quick tw7496433998918960881 for PySem.W.namesOk by nk
name_quick tw13254397897704925713 for PySem.W.namesOk by nk
name_quick tw6363645014702824404 for PySem.W.namesOk by nk
name_quick tw3442601649717412197 for PySem.W.namesOk by nk
name_quick tw1156252341971683116 for PySem.W.namesOk by nk
name_quick tw4075660801711882420 for PySem.W.namesOk by nk
name_quick tw10073347824450446311 for PySem.W.namesOk by nk
name_quick tw1258299570235058372 for PySem.W.namesOk by nk
name_quick tw13912434898499826684 for PySem.W.namesOk by nk
name_quick tw7009043117176579089 for PySem.W.namesOk by nk
name_quick tw17274371674624000324 for PySem.W.namesOk by nk
name_quick tw1503297043503765363 for PySem.W.namesOk by nk
name_quick tw43969757491396457 for PySem.W.namesOk by nk
name_quick tw5268983451555188008 for PySem.W.namesOk by nk
name_quick tw11985326045990495214 for PySem.W.namesOk by nk
name_quick tw16176465441171805009 for PySem.W.namesOk by nk
name_quick tw14821650378409806113 for PySem.W.namesOk by nk
name_quick tw3152983702415266003 for PySem.W.namesOk by nk
name_quick tw13776390136698705113 for PySem.W.namesOk by nk
name_quick tw2422670821966735624 for PySem.W.namesOk by nk
name_quick tw282004115355043989 for PySem.W.namesOk by nk
name_quick tw2862820112641550484 for PySem.W.namesOk by nk
name_quick tw932993149863042379 for PySem.W.namesOk by nk
name_quick tw16531745337717519161 for PySem.W.namesOk by nk
name_quick tw7232422423428716515 for PySem.W.namesOk by nk
name_quick tw1829445100760108279 for PySem.W.namesOk by nk
name_quick tw247782244497830338 for PySem.W.namesOk by nk
name_quick tw17730448691065144110 for PySem.W.namesOk by nk
name_quick tw16593013826814733010 for PySem.W.namesOk by nk
name_quick tw2334299552400917057 for PySem.W.namesOk by nk
name_quick tw4071324889030633612 for PySem.W.namesOk by nk
name_quick tw10528696920762540405 for PySem.W.namesOk by nk
name_quick tw12635297910168745909 for PySem.W.namesOk by nk
name_quick tw900395245841561262 for PySem.W.namesOk by nk
name_quick tw16752143609539240740 for PySem.W.namesOk by nk
name_quick tw9979284746773624096 for PySem.W.namesOk by nk
name_quick tw8595292554425487202 for PySem.W.namesOk by nk
name_quick tw682011567655089306 for PySem.W.namesOk by nk
name_quick tw16741492637210864865 for PySem.W.namesOk by nk
name_quick tw9763268239775435451 for PySem.W.namesOk by nk
name_quick tw15480198773659482676 for PySem.W.namesOk by nk
name_quick tw13317431791736044220 for PySem.W.namesOk by nk
name_quick tw13900631225919944168 for PySem.W.namesOk by nk
name_quick tw11108263761283441063 for PySem.W.namesOk by nk
name_quick tw3264259588550801142 for PySem.W.namesOk by nk
name_quick tw3820604794100220378 for PySem.W.namesOk by nk
name_quick tw5882768191206486792 for PySem.W.namesOk by nk
name_quick tw9407582987413476825 for PySem.W.namesOk by nk
name_quick tw6654550962395885724 for PySem.W.namesOk by nk
name_quick tw18416463498863911781 for PySem.W.namesOk by nk
name_quick tw8860024209350480642 for PySem.W.namesOk by nk
name_quick tw2905824091091238844 for PySem.W.namesOk by nk
name_quick tw12022618010286034681 for PySem.W.namesOk by nk
name_quick tw662354867322794072 for PySem.W.namesOk by nk
name_quick tw11863081143760314161 for PySem.W.namesOk by nk
name_quick tw1735497430108182060 for PySem.W.namesOk by nk
name_quick tw8727135674562949291 for PySem.W.namesOk by nk
name_quick tw16643706677886111943 for PySem.W.namesOk by nk
name_quick tw8675153009337895557 for PySem.W.namesOk by nk
name_quick tw5732905514179830355 for PySem.W.namesOk by nk
name_quick tw3560238982266916124 for PySem.W.namesOk by nk
name_quick tw6679490504615227074 for PySem.W.namesOk by nk
name_quick tw18056578402003937789 for PySem.W.namesOk by nk
name_quick tw6792406925840432001 for PySem.W.namesOk by nk
name_quick tw5902227825499142635 for PySem.W.namesOk by nk
name_quick tw387338674003428930 for PySem.W.namesOk by nk
name_quick tw8376441433122354887 for PySem.W.namesOk by nk
name_quick tw8253183596043897158 for PySem.W.namesOk by nk
name_quick tw14530364306720264245 for PySem.W.namesOk by nk
name_quick tw5076957145309523181 for PySem.W.namesOk by nk
name_quick tw11186114360453789277 for PySem.W.namesOk by nk
name_quick tw1574873078441994576 for PySem.W.namesOk by nk
name_quick tw951843321253372498 for PySem.W.namesOk by nk
name_quick tw17828083071136270317 for PySem.W.namesOk by nk
name_quick tw1620339239838986703 for PySem.W.namesOk by nk
name_quick tw1772237422875290029 for PySem.W.namesOk by nk
name_quick tw11452132507678324671 for PySem.W.namesOk by nk
name_quick tw12635813782599140982 for PySem.W.namesOk by nk
name_quick tw6662432510661729299 for PySem.W.namesOk by nk
name_quick tw14553827428707814869 for PySem.W.namesOk by nk
name_quick tw16979494861989939188 for PySem.W.namesOk by nk
name_quick tw4748654258956052638 for PySem.W.namesOk by nk
name_quick tw16296994325663420285 for PySem.W.namesOk by nk
name_quick tw2193789692954389824 for PySem.W.namesOk by nk
name_quick tw12945451867199242903 for PySem.W.namesOk by nk
name_quick tw4039474712603431140 for PySem.W.namesOk by nk
name_quick tw16018607276475445134 for PySem.W.namesOk by nk
name_quick tw16937413444792307176 for PySem.W.namesOk by nk
name_quick tw15490439104401381959 for PySem.W.namesOk by nk
name_quick tw17552769576498331613 for PySem.W.namesOk by nk
name_quick tw4921902886906138986 for PySem.W.namesOk by nk
name_quick tw11964429278604863157 for PySem.W.namesOk by nk
name_quick tw7241309703204542847 for PySem.W.namesOk by nk
name_quick tw17300597898927385350 for PySem.W.namesOk by nk
name_quick tw9315938663221665524 for PySem.W.namesOk by nk
name_quick tw7892128664451923741 for PySem.W.namesOk by nk
name_quick tw17888162413812561239 for PySem.W.namesOk by nk
name_quick tw3094477031063562474 for PySem.W.namesOk by nk
name_quick tw11130039905162102590 for PySem.W.namesOk by nk
name_quick tw16643379632663270332 for PySem.W.namesOk by nk
name_quick tw13789449189825218787 for PySem.W.namesOk by nk
name_quick tw9136488742655976645 for PySem.W.namesOk by nk
name_quick tw8796240567053077481 for PySem.W.namesOk by nk
name_quick tw15450981722951097364 for PySem.W.namesOk by nk
name_quick tw17804436615005485693 for PySem.W.namesOk by nk
name_quick tw1092655722715705105 for PySem.W.namesOk by nk
name_quick tw13141144453892091621 for PySem.W.namesOk by nk
name_quick tw4552823106982906706 for PySem.W.namesOk by nk
name_quick tw15168306246750427876 for PySem.W.namesOk by nk
name_quick tw14979626087600564940 for PySem.W.namesOk by nk
name_quick tw3856783459128436802 for PySem.W.namesOk by nk
name_quick tw8989982439271903415 for PySem.W.namesOk by nk
name_quick tw18220123701641295943 for PySem.W.namesOk by nk
name_quick tw7323676302269181137 for PySem.W.namesOk by nk
name_quick tw15278061642289888581 for PySem.W.namesOk by nk
name_quick tw17954471519018878134 for PySem.W.namesOk by nk
name_quick tw7397068168572129948 for PySem.W.namesOk by nk
name_quick tw6947952154114656408 for PySem.W.namesOk by nk
name_quick tw1402947280878808549 for PySem.W.namesOk by nk
name_quick tw11161088081135249708 for PySem.W.namesOk by nk
name_quick tw8032284361305108907 for PySem.W.namesOk by nk
name_quick tw14210447440969649564 for PySem.W.namesOk by nk
name_quick tw11566699232636054958 for PySem.W.namesOk by nk
name_quick tw16947794391021106201 for PySem.W.namesOk by nk
name_quick tw11729385059970357855 for PySem.W.namesOk by nk
name_quick tw6711915476519705758 for PySem.W.namesOk by nk
name_quick tw2039238271031011813 for PySem.W.namesOk by nk
name_quick tw3636048126100218174 for PySem.W.namesOk by nk
name_quick tw17975652961387846372 for PySem.W.namesOk by nk
name_quick tw7269565832213808900 for PySem.W.namesOk by nk
name_quick tw4558998842232669794 for PySem.W.namesOk by nk
name_quick tw12832477231654346042 for PySem.W.namesOk by nk
name_quick tw7275051467321613617 for PySem.W.namesOk by nk
name_quick tw13559156169165276386 for PySem.W.namesOk by nk
name_quick tw8075568018651887793 for PySem.W.namesOk by nk
name_quick tw13358618909089187005 for PySem.W.namesOk by nk
name_quick tw17672482021469178181 for PySem.W.namesOk by nk
name_quick tw13236226663087606529 for PySem.W.namesOk by nk
name_quick tw7035115661146626270 for PySem.W.namesOk by nk
name_quick tw12659028871203227004 for PySem.W.namesOk by nk
name_quick tw6434265647005701932 for PySem.W.namesOk by nk
name_quick tw505943868828395459 for PySem.W.namesOk by nk
name_quick tw5111356299099525756 for PySem.W.namesOk by nk
name_quick tw151948405760981731 for PySem.W.namesOk by nk
name_quick tw5349121933718820234 for PySem.W.namesOk by nk
name_quick tw8753696776887207221 for PySem.W.namesOk by nk
name_quick tw11788150170368784547 for PySem.W.namesOk by nk
name_quick tw9501820088010722379 for PySem.W.namesOk by nk
name_quick tw16979880578912567463 for PySem.W.namesOk by nk
name_quick tw11682084944484805031 for PySem.W.namesOk by nk
name_quick tw1706496860858754268 for PySem.W.namesOk by nk
name_quick tw4527066259768149269 for PySem.W.namesOk by nk
name_quick tw14023627001141898710 for PySem.W.namesOk by nk
name_quick tw10010936943081839664 for PySem.W.namesOk by nk
name_quick tw4278364036701150003 for PySem.W.namesOk by nk
name_quick tw12371321757623732685 for PySem.W.namesOk by nk
name_quick tw14073706353221006472 for PySem.W.namesOk by nk
name_quick tw2447775223705975068 for PySem.W.namesOk by nk
name_quick tw15742981410569661332 for PySem.W.namesOk by nk
name_quick tw4636218855388986860 for PySem.W.namesOk by nk
name_quick tw11636919720809706868 for PySem.W.namesOk by nk
name_quick tw10833955939284561965 for PySem.W.namesOk by nk
name_quick tw704327219915372674 for PySem.W.namesOk by nk
name_quick tw9151444980202551346 for PySem.W.namesOk by nk
name_quick tw721709456127091705 for PySem.W.namesOk by nk
name_quick tw17964007177503468958 for PySem.W.namesOk by nk
name_quick tw13215998728584607739 for PySem.W.namesOk by nk
name_quick tw183835017167291270 for PySem.W.namesOk by nk
name_quick tw6135381517318000843 for PySem.W.namesOk by nk
name_quick tw9564595351457756722 for PySem.W.namesOk by nk
name_quick tw11420187438672877268 for PySem.W.namesOk by nk
name_quick tw15263041282635125899 for PySem.W.namesOk by nk
name_quick tw14884601019740666482 for PySem.W.namesOk by nk
name_quick tw20320146153715357 for PySem.W.namesOk by nk
name_quick tw9011979029575296479 for PySem.W.namesOk by nk
name_quick tw1617757218408452269 for PySem.W.namesOk by nk
name_quick tw12290603225136948437 for PySem.W.namesOk by nk
name_quick tw17925548735911062312 for PySem.W.namesOk by nk
name_quick tw7198390536060210744 for PySem.W.namesOk by nk
name_quick tw5518745428033880147 for PySem.W.namesOk by nk
name_quick tw14223099787259518943 for PySem.W.namesOk by nk
name_quick tw11543547407058413889 for PySem.W.namesOk by nk
name_quick tw13642483538084851733 for PySem.W.namesOk by nk
name_quick tw3698559305507148144 for PySem.W.namesOk by nk
name_quick tw10470071008263537045 for PySem.W.namesOk by nk
name_quick tw2719445374943340272 for PySem.W.namesOk by nk
name_quick tw9908251947323293946 for PySem.W.namesOk by nk
name_quick tw14333388528381170442 for PySem.W.namesOk by nk
name_quick tw3105397867545767578 for PySem.W.namesOk by nk
name_quick tw11333186260410459676 for PySem.W.namesOk by nk
name_quick tw12813236842856870187 for PySem.W.namesOk by nk
name_quick tw12392613427281201732 for PySem.W.namesOk by nk
name_quick tw9458956999447867950 for PySem.W.namesOk by nk
name_quick tw12233582284571471492 for PySem.W.namesOk by nk
name_quick tw16414604833108395602 for PySem.W.namesOk by nk
name_quick tw8098380416015320538 for PySem.W.namesOk by nk
name_quick tw16909898463403110869 for PySem.W.namesOk by nk
name_quick tw15066959818950650227 for PySem.W.namesOk by nk
name_quick tw12835720964997663042 for PySem.W.namesOk by nk
name_quick tw7650934615059315214 for PySem.W.namesOk by nk
name_quick tw1258717718454355964 for PySem.W.namesOk by nk
name_quick tw7401281599722004195 for PySem.W.namesOk by nk
name_quick tw12393455550290869266 for PySem.W.namesOk by nk
name_quick tw4658958612460137192 for PySem.W.namesOk by nk
name_quick tw15823609455315575823 for PySem.W.namesOk by nk
name_quick tw17018628822417861297 for PySem.W.namesOk by nk
name_quick tw12177639751122801600 for PySem.W.namesOk by nk
name_quick tw17846936440860909165 for PySem.W.namesOk by nk
name_quick tw15475462885187679331 for PySem.W.namesOk by nk
name_quick tw2478078296215019888 for PySem.W.namesOk by nk
name_quick tw18211773271919218964 for PySem.W.namesOk by nk
name_quick tw11277716924127702174 for PySem.W.namesOk by nk
name_quick tw17000155066101142889 for PySem.W.namesOk by nk
name_quick tw11038253198017346536 for PySem.W.namesOk by nk
name_quick tw6245536207120538393 for PySem.W.namesOk by nk
name_quick tw15919542637913265678 for PySem.W.namesOk by nk
name_quick tw3282434896037501709 for PySem.W.namesOk by nk
name_quick tw16145008321745377990 for PySem.W.namesOk by nk
name_quick tw5770868932273138760 for PySem.W.namesOk by nk
name_quick tw1377046205977697930 for PySem.W.namesOk by nk
name_quick tw17279654841073493023 for PySem.W.namesOk by nk
name_quick tw9931943479562821362 for PySem.W.namesOk by nk
name_quick tw878741703135273975 for PySem.W.namesOk by nk
name_quick tw16548257151911338427 for PySem.W.namesOk by nk
name_quick tw10205541121877940668 for PySem.W.namesOk by nk
name_quick tw6004533443673955352 for PySem.W.namesOk by nk
name_quick tw2664551874359636763 for PySem.W.namesOk by nk
name_quick tw17111948838632640456 for PySem.W.namesOk by nk
name_quick tw6589095468515690095 for PySem.W.namesOk by nk
name_quick tw2660918139993853925 for PySem.W.namesOk by nk
name_quick tw8224813933742928703 for PySem.W.namesOk by nk
name_quick tw10007627690174824804 for PySem.W.namesOk by nk
name_quick tw12825359941727978080 for PySem.W.namesOk by nk
name_quick tw9285146279643344392 for PySem.W.namesOk by nk
name_quick tw2670528217467546775 for PySem.W.namesOk by nk
name_quick tw3039592710220408265 for PySem.W.namesOk by nk
name_quick tw17497748084772794779 for PySem.W.namesOk by nk
name_quick tw4319705520415482375 for PySem.W.namesOk by nk
name_quick tw10942035263794033107 for PySem.W.namesOk by nk
name_quick tw9676229304581654039 for PySem.W.namesOk by nk
name_quick tw11588390666370768167 for PySem.W.namesOk by nk
name_quick tw11853533878840232495 for PySem.W.namesOk by nk
name_quick tw3619232141914619222 for PySem.W.namesOk by nk
name_quick tw6683783046931543321 for PySem.W.namesOk by nk
name_quick tw8400853705098224536 for PySem.W.namesOk by nk
name_quick tw14168537005229113720 for PySem.W.namesOk by nk
name_quick tw15007238320947547705 for PySem.W.namesOk by nk
name_quick tw18345786424863182364 for PySem.W.namesOk by nk
name_quick tw16349216596472256690 for PySem.W.namesOk by nk
name_quick tw14112274594779413971 for PySem.W.namesOk by nk
name_quick tw5823794197072137003 for PySem.W.namesOk by nk
name_quick tw11013792430000457035 for PySem.W.namesOk by nk
name_quick tw347637069881736656 for PySem.W.namesOk by nk
name_quick tw10314498396905981064 for PySem.W.namesOk by nk
name_quick tw14326252917377295143 for PySem.W.namesOk by nk
name_quick tw7581816359482902497 for PySem.W.namesOk by nk
name_quick tw4933834842325187142 for PySem.W.namesOk by nk
name_quick tw9594665118957945026 for PySem.W.namesOk by nk
name_quick tw7299951869573292228 for PySem.W.namesOk by nk
name_quick tw4679858250743294509 for PySem.W.namesOk by nk
name_quick tw12850107946570832962 for PySem.W.namesOk by nk
name_quick tw7745614565497352828 for PySem.W.namesOk by nk
name_quick tw117213463901210413 for PySem.W.namesOk by nk
name_quick tw5135500740108067664 for PySem.W.namesOk by nk
open_top hd for PySem.Challenge.rw_nn0031_01
end
section
set_option maxRecDepth 100000
open PySem PySem.W PySem.Calls PyProof.Rows PySem.Spec
theorem law_post (ns : List Int) : PySem.Challenge.rw_nn0031_01.row.claim.post [ofPy (PyData.list (List.map PyData.int ns))] (WData.bool true) [ofPy (PyData.list (List.map PyData.int ns))] = true := by
  refine' postW_of ?s ?v ?e
  (case s => o_shape)
  (case v => wtm_val)
  (case e => w_fin)
end
section
/-! sums and bounds: each said once -/
@[elab_as_elim] theorem rwt {A : Sort u} {P : A → Prop} {a b : A} (h : a = b) (k : P b) : P a := h ▸ k
@[elab_as_elim] theorem rws {A : Sort u} {P : A → Prop} {a b : A} (h : b = a) (k : P b) : P a := h ▸ k
theorem xe0_2 {P0 P1 : Prop} {W : Prop} (h : P0 ∧ P1) (c : P0 → P1 → W) : W := by
  obtain ⟨h0, h1⟩ := h
  exact c h0 h1
theorem xe0_3 {P0 P1 P2 : Prop} {W : Prop} (h : P0 ∧ P1 ∧ P2) (c : P0 → P1 → P2 → W) : W := by
  obtain ⟨h0, h1, h2⟩ := h
  exact c h0 h1 h2
theorem xe0_4 {P0 P1 P2 P3 : Prop} {W : Prop} (h : P0 ∧ P1 ∧ P2 ∧ P3) (c : P0 → P1 → P2 → P3 → W) : W := by
  obtain ⟨h0, h1, h2, h3⟩ := h
  exact c h0 h1 h2 h3
theorem xe0_5 {P0 P1 P2 P3 P4 : Prop} {W : Prop} (h : P0 ∧ P1 ∧ P2 ∧ P3 ∧ P4) (c : P0 → P1 → P2 → P3 → P4 → W) : W := by
  obtain ⟨h0, h1, h2, h3, h4⟩ := h
  exact c h0 h1 h2 h3 h4
theorem xe0_6 {P0 P1 P2 P3 P4 P5 : Prop} {W : Prop} (h : P0 ∧ P1 ∧ P2 ∧ P3 ∧ P4 ∧ P5) (c : P0 → P1 → P2 → P3 → P4 → P5 → W) : W := by
  obtain ⟨h0, h1, h2, h3, h4, h5⟩ := h
  exact c h0 h1 h2 h3 h4 h5
theorem xe0_9 {P0 P1 P2 P3 P4 P5 P6 P7 P8 : Prop} {W : Prop} (h : P0 ∧ P1 ∧ P2 ∧ P3 ∧ P4 ∧ P5 ∧ P6 ∧ P7 ∧ P8) (c : P0 → P1 → P2 → P3 → P4 → P5 → P6 → P7 → P8 → W) : W := by
  obtain ⟨h0, h1, h2, h3, h4, h5, h6, h7, h8⟩ := h
  exact c h0 h1 h2 h3 h4 h5 h6 h7 h8
theorem xe1_1 {A0 : Sort u0} {P0 : A0 → Prop} {W : Prop} (h : ∃ (x0 : A0), P0 x0) (c : ∀ (x0 : A0), P0 x0 → W) : W := by
  obtain ⟨x0, h0⟩ := h
  exact c x0 h0
theorem xe1_2 {A0 : Sort u0} {P0 P1 : A0 → Prop} {W : Prop} (h : ∃ (x0 : A0), P0 x0 ∧ P1 x0) (c : ∀ (x0 : A0), P0 x0 → P1 x0 → W) : W := by
  obtain ⟨x0, h0, h1⟩ := h
  exact c x0 h0 h1
theorem xe1_3 {A0 : Sort u0} {P0 P1 P2 : A0 → Prop} {W : Prop} (h : ∃ (x0 : A0), P0 x0 ∧ P1 x0 ∧ P2 x0) (c : ∀ (x0 : A0), P0 x0 → P1 x0 → P2 x0 → W) : W := by
  obtain ⟨x0, h0, h1, h2⟩ := h
  exact c x0 h0 h1 h2
theorem xe1_4 {A0 : Sort u0} {P0 P1 P2 P3 : A0 → Prop} {W : Prop} (h : ∃ (x0 : A0), P0 x0 ∧ P1 x0 ∧ P2 x0 ∧ P3 x0) (c : ∀ (x0 : A0), P0 x0 → P1 x0 → P2 x0 → P3 x0 → W) : W := by
  obtain ⟨x0, h0, h1, h2, h3⟩ := h
  exact c x0 h0 h1 h2 h3
theorem xe2_1 {A0 : Sort u0} {A1 : Sort u1} {P0 : A0 → A1 → Prop} {W : Prop} (h : ∃ (x0 : A0) (x1 : A1), P0 x0 x1) (c : ∀ (x0 : A0) (x1 : A1), P0 x0 x1 → W) : W := by
  obtain ⟨x0, x1, h0⟩ := h
  exact c x0 x1 h0
theorem xe2_2 {A0 : Sort u0} {A1 : Sort u1} {P0 P1 : A0 → A1 → Prop} {W : Prop} (h : ∃ (x0 : A0) (x1 : A1), P0 x0 x1 ∧ P1 x0 x1) (c : ∀ (x0 : A0) (x1 : A1), P0 x0 x1 → P1 x0 x1 → W) : W := by
  obtain ⟨x0, x1, h0, h1⟩ := h
  exact c x0 x1 h0 h1
theorem xe2_3 {A0 : Sort u0} {A1 : Sort u1} {P0 P1 P2 : A0 → A1 → Prop} {W : Prop} (h : ∃ (x0 : A0) (x1 : A1), P0 x0 x1 ∧ P1 x0 x1 ∧ P2 x0 x1) (c : ∀ (x0 : A0) (x1 : A1), P0 x0 x1 → P1 x0 x1 → P2 x0 x1 → W) : W := by
  obtain ⟨x0, x1, h0, h1, h2⟩ := h
  exact c x0 x1 h0 h1 h2
theorem xe2_4 {A0 : Sort u0} {A1 : Sort u1} {P0 P1 P2 P3 : A0 → A1 → Prop} {W : Prop} (h : ∃ (x0 : A0) (x1 : A1), P0 x0 x1 ∧ P1 x0 x1 ∧ P2 x0 x1 ∧ P3 x0 x1) (c : ∀ (x0 : A0) (x1 : A1), P0 x0 x1 → P1 x0 x1 → P2 x0 x1 → P3 x0 x1 → W) : W := by
  obtain ⟨x0, x1, h0, h1, h2, h3⟩ := h
  exact c x0 x1 h0 h1 h2 h3
theorem xe2_5 {A0 : Sort u0} {A1 : Sort u1} {P0 P1 P2 P3 P4 : A0 → A1 → Prop} {W : Prop} (h : ∃ (x0 : A0) (x1 : A1), P0 x0 x1 ∧ P1 x0 x1 ∧ P2 x0 x1 ∧ P3 x0 x1 ∧ P4 x0 x1) (c : ∀ (x0 : A0) (x1 : A1), P0 x0 x1 → P1 x0 x1 → P2 x0 x1 → P3 x0 x1 → P4 x0 x1 → W) : W := by
  obtain ⟨x0, x1, h0, h1, h2, h3, h4⟩ := h
  exact c x0 x1 h0 h1 h2 h3 h4
theorem xe2_6 {A0 : Sort u0} {A1 : Sort u1} {P0 P1 P2 P3 P4 P5 : A0 → A1 → Prop} {W : Prop} (h : ∃ (x0 : A0) (x1 : A1), P0 x0 x1 ∧ P1 x0 x1 ∧ P2 x0 x1 ∧ P3 x0 x1 ∧ P4 x0 x1 ∧ P5 x0 x1) (c : ∀ (x0 : A0) (x1 : A1), P0 x0 x1 → P1 x0 x1 → P2 x0 x1 → P3 x0 x1 → P4 x0 x1 → P5 x0 x1 → W) : W := by
  obtain ⟨x0, x1, h0, h1, h2, h3, h4, h5⟩ := h
  exact c x0 x1 h0 h1 h2 h3 h4 h5
theorem xe3_2 {A0 : Sort u0} {A1 : Sort u1} {A2 : Sort u2} {P0 P1 : A0 → A1 → A2 → Prop} {W : Prop} (h : ∃ (x0 : A0) (x1 : A1) (x2 : A2), P0 x0 x1 x2 ∧ P1 x0 x1 x2) (c : ∀ (x0 : A0) (x1 : A1) (x2 : A2), P0 x0 x1 x2 → P1 x0 x1 x2 → W) : W := by
  obtain ⟨x0, x1, x2, h0, h1⟩ := h
  exact c x0 x1 x2 h0 h1
theorem xe3_3 {A0 : Sort u0} {A1 : Sort u1} {A2 : Sort u2} {P0 P1 P2 : A0 → A1 → A2 → Prop} {W : Prop} (h : ∃ (x0 : A0) (x1 : A1) (x2 : A2), P0 x0 x1 x2 ∧ P1 x0 x1 x2 ∧ P2 x0 x1 x2) (c : ∀ (x0 : A0) (x1 : A1) (x2 : A2), P0 x0 x1 x2 → P1 x0 x1 x2 → P2 x0 x1 x2 → W) : W := by
  obtain ⟨x0, x1, x2, h0, h1, h2⟩ := h
  exact c x0 x1 x2 h0 h1 h2
theorem xe3_4 {A0 : Sort u0} {A1 : Sort u1} {A2 : Sort u2} {P0 P1 P2 P3 : A0 → A1 → A2 → Prop} {W : Prop} (h : ∃ (x0 : A0) (x1 : A1) (x2 : A2), P0 x0 x1 x2 ∧ P1 x0 x1 x2 ∧ P2 x0 x1 x2 ∧ P3 x0 x1 x2) (c : ∀ (x0 : A0) (x1 : A1) (x2 : A2), P0 x0 x1 x2 → P1 x0 x1 x2 → P2 x0 x1 x2 → P3 x0 x1 x2 → W) : W := by
  obtain ⟨x0, x1, x2, h0, h1, h2, h3⟩ := h
  exact c x0 x1 x2 h0 h1 h2 h3
theorem xe3_5 {A0 : Sort u0} {A1 : Sort u1} {A2 : Sort u2} {P0 P1 P2 P3 P4 : A0 → A1 → A2 → Prop} {W : Prop} (h : ∃ (x0 : A0) (x1 : A1) (x2 : A2), P0 x0 x1 x2 ∧ P1 x0 x1 x2 ∧ P2 x0 x1 x2 ∧ P3 x0 x1 x2 ∧ P4 x0 x1 x2) (c : ∀ (x0 : A0) (x1 : A1) (x2 : A2), P0 x0 x1 x2 → P1 x0 x1 x2 → P2 x0 x1 x2 → P3 x0 x1 x2 → P4 x0 x1 x2 → W) : W := by
  obtain ⟨x0, x1, x2, h0, h1, h2, h3, h4⟩ := h
  exact c x0 x1 x2 h0 h1 h2 h3 h4
theorem xe3_6 {A0 : Sort u0} {A1 : Sort u1} {A2 : Sort u2} {P0 P1 P2 P3 P4 P5 : A0 → A1 → A2 → Prop} {W : Prop} (h : ∃ (x0 : A0) (x1 : A1) (x2 : A2), P0 x0 x1 x2 ∧ P1 x0 x1 x2 ∧ P2 x0 x1 x2 ∧ P3 x0 x1 x2 ∧ P4 x0 x1 x2 ∧ P5 x0 x1 x2) (c : ∀ (x0 : A0) (x1 : A1) (x2 : A2), P0 x0 x1 x2 → P1 x0 x1 x2 → P2 x0 x1 x2 → P3 x0 x1 x2 → P4 x0 x1 x2 → P5 x0 x1 x2 → W) : W := by
  obtain ⟨x0, x1, x2, h0, h1, h2, h3, h4, h5⟩ := h
  exact c x0 x1 x2 h0 h1 h2 h3 h4 h5
theorem xe3_10 {A0 : Sort u0} {A1 : Sort u1} {A2 : Sort u2} {P0 P1 P2 P3 P4 P5 P6 P7 P8 P9 : A0 → A1 → A2 → Prop} {W : Prop} (h : ∃ (x0 : A0) (x1 : A1) (x2 : A2), P0 x0 x1 x2 ∧ P1 x0 x1 x2 ∧ P2 x0 x1 x2 ∧ P3 x0 x1 x2 ∧ P4 x0 x1 x2 ∧ P5 x0 x1 x2 ∧ P6 x0 x1 x2 ∧ P7 x0 x1 x2 ∧ P8 x0 x1 x2 ∧ P9 x0 x1 x2) (c : ∀ (x0 : A0) (x1 : A1) (x2 : A2), P0 x0 x1 x2 → P1 x0 x1 x2 → P2 x0 x1 x2 → P3 x0 x1 x2 → P4 x0 x1 x2 → P5 x0 x1 x2 → P6 x0 x1 x2 → P7 x0 x1 x2 → P8 x0 x1 x2 → P9 x0 x1 x2 → W) : W := by
  obtain ⟨x0, x1, x2, h0, h1, h2, h3, h4, h5, h6, h7, h8, h9⟩ := h
  exact c x0 x1 x2 h0 h1 h2 h3 h4 h5 h6 h7 h8 h9
theorem xe4_4 {A0 : Sort u0} {A1 : Sort u1} {A2 : Sort u2} {A3 : Sort u3} {P0 P1 P2 P3 : A0 → A1 → A2 → A3 → Prop} {W : Prop} (h : ∃ (x0 : A0) (x1 : A1) (x2 : A2) (x3 : A3), P0 x0 x1 x2 x3 ∧ P1 x0 x1 x2 x3 ∧ P2 x0 x1 x2 x3 ∧ P3 x0 x1 x2 x3) (c : ∀ (x0 : A0) (x1 : A1) (x2 : A2) (x3 : A3), P0 x0 x1 x2 x3 → P1 x0 x1 x2 x3 → P2 x0 x1 x2 x3 → P3 x0 x1 x2 x3 → W) : W := by
  obtain ⟨x0, x1, x2, x3, h0, h1, h2, h3⟩ := h
  exact c x0 x1 x2 x3 h0 h1 h2 h3
theorem xe4_5 {A0 : Sort u0} {A1 : Sort u1} {A2 : Sort u2} {A3 : Sort u3} {P0 P1 P2 P3 P4 : A0 → A1 → A2 → A3 → Prop} {W : Prop} (h : ∃ (x0 : A0) (x1 : A1) (x2 : A2) (x3 : A3), P0 x0 x1 x2 x3 ∧ P1 x0 x1 x2 x3 ∧ P2 x0 x1 x2 x3 ∧ P3 x0 x1 x2 x3 ∧ P4 x0 x1 x2 x3) (c : ∀ (x0 : A0) (x1 : A1) (x2 : A2) (x3 : A3), P0 x0 x1 x2 x3 → P1 x0 x1 x2 x3 → P2 x0 x1 x2 x3 → P3 x0 x1 x2 x3 → P4 x0 x1 x2 x3 → W) : W := by
  obtain ⟨x0, x1, x2, x3, h0, h1, h2, h3, h4⟩ := h
  exact c x0 x1 x2 x3 h0 h1 h2 h3 h4
theorem xe4_7 {A0 : Sort u0} {A1 : Sort u1} {A2 : Sort u2} {A3 : Sort u3} {P0 P1 P2 P3 P4 P5 P6 : A0 → A1 → A2 → A3 → Prop} {W : Prop} (h : ∃ (x0 : A0) (x1 : A1) (x2 : A2) (x3 : A3), P0 x0 x1 x2 x3 ∧ P1 x0 x1 x2 x3 ∧ P2 x0 x1 x2 x3 ∧ P3 x0 x1 x2 x3 ∧ P4 x0 x1 x2 x3 ∧ P5 x0 x1 x2 x3 ∧ P6 x0 x1 x2 x3) (c : ∀ (x0 : A0) (x1 : A1) (x2 : A2) (x3 : A3), P0 x0 x1 x2 x3 → P1 x0 x1 x2 x3 → P2 x0 x1 x2 x3 → P3 x0 x1 x2 x3 → P4 x0 x1 x2 x3 → P5 x0 x1 x2 x3 → P6 x0 x1 x2 x3 → W) : W := by
  obtain ⟨x0, x1, x2, x3, h0, h1, h2, h3, h4, h5, h6⟩ := h
  exact c x0 x1 x2 x3 h0 h1 h2 h3 h4 h5 h6
theorem xe4_9 {A0 : Sort u0} {A1 : Sort u1} {A2 : Sort u2} {A3 : Sort u3} {P0 P1 P2 P3 P4 P5 P6 P7 P8 : A0 → A1 → A2 → A3 → Prop} {W : Prop} (h : ∃ (x0 : A0) (x1 : A1) (x2 : A2) (x3 : A3), P0 x0 x1 x2 x3 ∧ P1 x0 x1 x2 x3 ∧ P2 x0 x1 x2 x3 ∧ P3 x0 x1 x2 x3 ∧ P4 x0 x1 x2 x3 ∧ P5 x0 x1 x2 x3 ∧ P6 x0 x1 x2 x3 ∧ P7 x0 x1 x2 x3 ∧ P8 x0 x1 x2 x3) (c : ∀ (x0 : A0) (x1 : A1) (x2 : A2) (x3 : A3), P0 x0 x1 x2 x3 → P1 x0 x1 x2 x3 → P2 x0 x1 x2 x3 → P3 x0 x1 x2 x3 → P4 x0 x1 x2 x3 → P5 x0 x1 x2 x3 → P6 x0 x1 x2 x3 → P7 x0 x1 x2 x3 → P8 x0 x1 x2 x3 → W) : W := by
  obtain ⟨x0, x1, x2, x3, h0, h1, h2, h3, h4, h5, h6, h7, h8⟩ := h
  exact c x0 x1 x2 x3 h0 h1 h2 h3 h4 h5 h6 h7 h8
theorem xe4_10 {A0 : Sort u0} {A1 : Sort u1} {A2 : Sort u2} {A3 : Sort u3} {P0 P1 P2 P3 P4 P5 P6 P7 P8 P9 : A0 → A1 → A2 → A3 → Prop} {W : Prop} (h : ∃ (x0 : A0) (x1 : A1) (x2 : A2) (x3 : A3), P0 x0 x1 x2 x3 ∧ P1 x0 x1 x2 x3 ∧ P2 x0 x1 x2 x3 ∧ P3 x0 x1 x2 x3 ∧ P4 x0 x1 x2 x3 ∧ P5 x0 x1 x2 x3 ∧ P6 x0 x1 x2 x3 ∧ P7 x0 x1 x2 x3 ∧ P8 x0 x1 x2 x3 ∧ P9 x0 x1 x2 x3) (c : ∀ (x0 : A0) (x1 : A1) (x2 : A2) (x3 : A3), P0 x0 x1 x2 x3 → P1 x0 x1 x2 x3 → P2 x0 x1 x2 x3 → P3 x0 x1 x2 x3 → P4 x0 x1 x2 x3 → P5 x0 x1 x2 x3 → P6 x0 x1 x2 x3 → P7 x0 x1 x2 x3 → P8 x0 x1 x2 x3 → P9 x0 x1 x2 x3 → W) : W := by
  obtain ⟨x0, x1, x2, x3, h0, h1, h2, h3, h4, h5, h6, h7, h8, h9⟩ := h
  exact c x0 x1 x2 x3 h0 h1 h2 h3 h4 h5 h6 h7 h8 h9
theorem xe5_4 {A0 : Sort u0} {A1 : Sort u1} {A2 : Sort u2} {A3 : Sort u3} {A4 : Sort u4} {P0 P1 P2 P3 : A0 → A1 → A2 → A3 → A4 → Prop} {W : Prop} (h : ∃ (x0 : A0) (x1 : A1) (x2 : A2) (x3 : A3) (x4 : A4), P0 x0 x1 x2 x3 x4 ∧ P1 x0 x1 x2 x3 x4 ∧ P2 x0 x1 x2 x3 x4 ∧ P3 x0 x1 x2 x3 x4) (c : ∀ (x0 : A0) (x1 : A1) (x2 : A2) (x3 : A3) (x4 : A4), P0 x0 x1 x2 x3 x4 → P1 x0 x1 x2 x3 x4 → P2 x0 x1 x2 x3 x4 → P3 x0 x1 x2 x3 x4 → W) : W := by
  obtain ⟨x0, x1, x2, x3, x4, h0, h1, h2, h3⟩ := h
  exact c x0 x1 x2 x3 x4 h0 h1 h2 h3
theorem xe5_5 {A0 : Sort u0} {A1 : Sort u1} {A2 : Sort u2} {A3 : Sort u3} {A4 : Sort u4} {P0 P1 P2 P3 P4 : A0 → A1 → A2 → A3 → A4 → Prop} {W : Prop} (h : ∃ (x0 : A0) (x1 : A1) (x2 : A2) (x3 : A3) (x4 : A4), P0 x0 x1 x2 x3 x4 ∧ P1 x0 x1 x2 x3 x4 ∧ P2 x0 x1 x2 x3 x4 ∧ P3 x0 x1 x2 x3 x4 ∧ P4 x0 x1 x2 x3 x4) (c : ∀ (x0 : A0) (x1 : A1) (x2 : A2) (x3 : A3) (x4 : A4), P0 x0 x1 x2 x3 x4 → P1 x0 x1 x2 x3 x4 → P2 x0 x1 x2 x3 x4 → P3 x0 x1 x2 x3 x4 → P4 x0 x1 x2 x3 x4 → W) : W := by
  obtain ⟨x0, x1, x2, x3, x4, h0, h1, h2, h3, h4⟩ := h
  exact c x0 x1 x2 x3 x4 h0 h1 h2 h3 h4
theorem xe5_9 {A0 : Sort u0} {A1 : Sort u1} {A2 : Sort u2} {A3 : Sort u3} {A4 : Sort u4} {P0 P1 P2 P3 P4 P5 P6 P7 P8 : A0 → A1 → A2 → A3 → A4 → Prop} {W : Prop} (h : ∃ (x0 : A0) (x1 : A1) (x2 : A2) (x3 : A3) (x4 : A4), P0 x0 x1 x2 x3 x4 ∧ P1 x0 x1 x2 x3 x4 ∧ P2 x0 x1 x2 x3 x4 ∧ P3 x0 x1 x2 x3 x4 ∧ P4 x0 x1 x2 x3 x4 ∧ P5 x0 x1 x2 x3 x4 ∧ P6 x0 x1 x2 x3 x4 ∧ P7 x0 x1 x2 x3 x4 ∧ P8 x0 x1 x2 x3 x4) (c : ∀ (x0 : A0) (x1 : A1) (x2 : A2) (x3 : A3) (x4 : A4), P0 x0 x1 x2 x3 x4 → P1 x0 x1 x2 x3 x4 → P2 x0 x1 x2 x3 x4 → P3 x0 x1 x2 x3 x4 → P4 x0 x1 x2 x3 x4 → P5 x0 x1 x2 x3 x4 → P6 x0 x1 x2 x3 x4 → P7 x0 x1 x2 x3 x4 → P8 x0 x1 x2 x3 x4 → W) : W := by
  obtain ⟨x0, x1, x2, x3, x4, h0, h1, h2, h3, h4, h5, h6, h7, h8⟩ := h
  exact c x0 x1 x2 x3 x4 h0 h1 h2 h3 h4 h5 h6 h7 h8
theorem xe5_12 {A0 : Sort u0} {A1 : Sort u1} {A2 : Sort u2} {A3 : Sort u3} {A4 : Sort u4} {P0 P1 P2 P3 P4 P5 P6 P7 P8 P9 P10 P11 : A0 → A1 → A2 → A3 → A4 → Prop} {W : Prop} (h : ∃ (x0 : A0) (x1 : A1) (x2 : A2) (x3 : A3) (x4 : A4), P0 x0 x1 x2 x3 x4 ∧ P1 x0 x1 x2 x3 x4 ∧ P2 x0 x1 x2 x3 x4 ∧ P3 x0 x1 x2 x3 x4 ∧ P4 x0 x1 x2 x3 x4 ∧ P5 x0 x1 x2 x3 x4 ∧ P6 x0 x1 x2 x3 x4 ∧ P7 x0 x1 x2 x3 x4 ∧ P8 x0 x1 x2 x3 x4 ∧ P9 x0 x1 x2 x3 x4 ∧ P10 x0 x1 x2 x3 x4 ∧ P11 x0 x1 x2 x3 x4) (c : ∀ (x0 : A0) (x1 : A1) (x2 : A2) (x3 : A3) (x4 : A4), P0 x0 x1 x2 x3 x4 → P1 x0 x1 x2 x3 x4 → P2 x0 x1 x2 x3 x4 → P3 x0 x1 x2 x3 x4 → P4 x0 x1 x2 x3 x4 → P5 x0 x1 x2 x3 x4 → P6 x0 x1 x2 x3 x4 → P7 x0 x1 x2 x3 x4 → P8 x0 x1 x2 x3 x4 → P9 x0 x1 x2 x3 x4 → P10 x0 x1 x2 x3 x4 → P11 x0 x1 x2 x3 x4 → W) : W := by
  obtain ⟨x0, x1, x2, x3, x4, h0, h1, h2, h3, h4, h5, h6, h7, h8, h9, h10, h11⟩ := h
  exact c x0 x1 x2 x3 x4 h0 h1 h2 h3 h4 h5 h6 h7 h8 h9 h10 h11
theorem xe9_7 {A0 : Sort u0} {A1 : Sort u1} {A2 : Sort u2} {A3 : Sort u3} {A4 : Sort u4} {A5 : Sort u5} {A6 : Sort u6} {A7 : Sort u7} {A8 : Sort u8} {P0 P1 P2 P3 P4 P5 P6 : A0 → A1 → A2 → A3 → A4 → A5 → A6 → A7 → A8 → Prop} {W : Prop} (h : ∃ (x0 : A0) (x1 : A1) (x2 : A2) (x3 : A3) (x4 : A4) (x5 : A5) (x6 : A6) (x7 : A7) (x8 : A8), P0 x0 x1 x2 x3 x4 x5 x6 x7 x8 ∧ P1 x0 x1 x2 x3 x4 x5 x6 x7 x8 ∧ P2 x0 x1 x2 x3 x4 x5 x6 x7 x8 ∧ P3 x0 x1 x2 x3 x4 x5 x6 x7 x8 ∧ P4 x0 x1 x2 x3 x4 x5 x6 x7 x8 ∧ P5 x0 x1 x2 x3 x4 x5 x6 x7 x8 ∧ P6 x0 x1 x2 x3 x4 x5 x6 x7 x8) (c : ∀ (x0 : A0) (x1 : A1) (x2 : A2) (x3 : A3) (x4 : A4) (x5 : A5) (x6 : A6) (x7 : A7) (x8 : A8), P0 x0 x1 x2 x3 x4 x5 x6 x7 x8 → P1 x0 x1 x2 x3 x4 x5 x6 x7 x8 → P2 x0 x1 x2 x3 x4 x5 x6 x7 x8 → P3 x0 x1 x2 x3 x4 x5 x6 x7 x8 → P4 x0 x1 x2 x3 x4 x5 x6 x7 x8 → P5 x0 x1 x2 x3 x4 x5 x6 x7 x8 → P6 x0 x1 x2 x3 x4 x5 x6 x7 x8 → W) : W := by
  obtain ⟨x0, x1, x2, x3, x4, x5, x6, x7, x8, h0, h1, h2, h3, h4, h5, h6⟩ := h
  exact c x0 x1 x2 x3 x4 x5 x6 x7 x8 h0 h1 h2 h3 h4 h5 h6
theorem xe10_8 {A0 : Sort u0} {A1 : Sort u1} {A2 : Sort u2} {A3 : Sort u3} {A4 : Sort u4} {A5 : Sort u5} {A6 : Sort u6} {A7 : Sort u7} {A8 : Sort u8} {A9 : Sort u9} {P0 P1 P2 P3 P4 P5 P6 P7 : A0 → A1 → A2 → A3 → A4 → A5 → A6 → A7 → A8 → A9 → Prop} {W : Prop} (h : ∃ (x0 : A0) (x1 : A1) (x2 : A2) (x3 : A3) (x4 : A4) (x5 : A5) (x6 : A6) (x7 : A7) (x8 : A8) (x9 : A9), P0 x0 x1 x2 x3 x4 x5 x6 x7 x8 x9 ∧ P1 x0 x1 x2 x3 x4 x5 x6 x7 x8 x9 ∧ P2 x0 x1 x2 x3 x4 x5 x6 x7 x8 x9 ∧ P3 x0 x1 x2 x3 x4 x5 x6 x7 x8 x9 ∧ P4 x0 x1 x2 x3 x4 x5 x6 x7 x8 x9 ∧ P5 x0 x1 x2 x3 x4 x5 x6 x7 x8 x9 ∧ P6 x0 x1 x2 x3 x4 x5 x6 x7 x8 x9 ∧ P7 x0 x1 x2 x3 x4 x5 x6 x7 x8 x9) (c : ∀ (x0 : A0) (x1 : A1) (x2 : A2) (x3 : A3) (x4 : A4) (x5 : A5) (x6 : A6) (x7 : A7) (x8 : A8) (x9 : A9), P0 x0 x1 x2 x3 x4 x5 x6 x7 x8 x9 → P1 x0 x1 x2 x3 x4 x5 x6 x7 x8 x9 → P2 x0 x1 x2 x3 x4 x5 x6 x7 x8 x9 → P3 x0 x1 x2 x3 x4 x5 x6 x7 x8 x9 → P4 x0 x1 x2 x3 x4 x5 x6 x7 x8 x9 → P5 x0 x1 x2 x3 x4 x5 x6 x7 x8 x9 → P6 x0 x1 x2 x3 x4 x5 x6 x7 x8 x9 → P7 x0 x1 x2 x3 x4 x5 x6 x7 x8 x9 → W) : W := by
  obtain ⟨x0, x1, x2, x3, x4, x5, x6, x7, x8, x9, h0, h1, h2, h3, h4, h5, h6, h7⟩ := h
  exact c x0 x1 x2 x3 x4 x5 x6 x7 x8 x9 h0 h1 h2 h3 h4 h5 h6 h7
theorem xe13_1 {A0 : Sort u0} {A1 : Sort u1} {A2 : Sort u2} {A3 : Sort u3} {A4 : Sort u4} {A5 : Sort u5} {A6 : Sort u6} {A7 : Sort u7} {A8 : Sort u8} {A9 : Sort u9} {A10 : Sort u10} {A11 : Sort u11} {A12 : Sort u12} {P0 : A0 → A1 → A2 → A3 → A4 → A5 → A6 → A7 → A8 → A9 → A10 → A11 → A12 → Prop} {W : Prop} (h : ∃ (x0 : A0) (x1 : A1) (x2 : A2) (x3 : A3) (x4 : A4) (x5 : A5) (x6 : A6) (x7 : A7) (x8 : A8) (x9 : A9) (x10 : A10) (x11 : A11) (x12 : A12), P0 x0 x1 x2 x3 x4 x5 x6 x7 x8 x9 x10 x11 x12) (c : ∀ (x0 : A0) (x1 : A1) (x2 : A2) (x3 : A3) (x4 : A4) (x5 : A5) (x6 : A6) (x7 : A7) (x8 : A8) (x9 : A9) (x10 : A10) (x11 : A11) (x12 : A12), P0 x0 x1 x2 x3 x4 x5 x6 x7 x8 x9 x10 x11 x12 → W) : W := by
  obtain ⟨x0, x1, x2, x3, x4, x5, x6, x7, x8, x9, x10, x11, x12, h0⟩ := h
  exact c x0 x1 x2 x3 x4 x5 x6 x7 x8 x9 x10 x11 x12 h0
theorem xe17_4 {A0 : Sort u0} {A1 : Sort u1} {A2 : Sort u2} {A3 : Sort u3} {A4 : Sort u4} {A5 : Sort u5} {A6 : Sort u6} {A7 : Sort u7} {A8 : Sort u8} {A9 : Sort u9} {A10 : Sort u10} {A11 : Sort u11} {A12 : Sort u12} {A13 : Sort u13} {A14 : Sort u14} {A15 : Sort u15} {A16 : Sort u16} {P0 P1 P2 P3 : A0 → A1 → A2 → A3 → A4 → A5 → A6 → A7 → A8 → A9 → A10 → A11 → A12 → A13 → A14 → A15 → A16 → Prop} {W : Prop} (h : ∃ (x0 : A0) (x1 : A1) (x2 : A2) (x3 : A3) (x4 : A4) (x5 : A5) (x6 : A6) (x7 : A7) (x8 : A8) (x9 : A9) (x10 : A10) (x11 : A11) (x12 : A12) (x13 : A13) (x14 : A14) (x15 : A15) (x16 : A16), P0 x0 x1 x2 x3 x4 x5 x6 x7 x8 x9 x10 x11 x12 x13 x14 x15 x16 ∧ P1 x0 x1 x2 x3 x4 x5 x6 x7 x8 x9 x10 x11 x12 x13 x14 x15 x16 ∧ P2 x0 x1 x2 x3 x4 x5 x6 x7 x8 x9 x10 x11 x12 x13 x14 x15 x16 ∧ P3 x0 x1 x2 x3 x4 x5 x6 x7 x8 x9 x10 x11 x12 x13 x14 x15 x16) (c : ∀ (x0 : A0) (x1 : A1) (x2 : A2) (x3 : A3) (x4 : A4) (x5 : A5) (x6 : A6) (x7 : A7) (x8 : A8) (x9 : A9) (x10 : A10) (x11 : A11) (x12 : A12) (x13 : A13) (x14 : A14) (x15 : A15) (x16 : A16), P0 x0 x1 x2 x3 x4 x5 x6 x7 x8 x9 x10 x11 x12 x13 x14 x15 x16 → P1 x0 x1 x2 x3 x4 x5 x6 x7 x8 x9 x10 x11 x12 x13 x14 x15 x16 → P2 x0 x1 x2 x3 x4 x5 x6 x7 x8 x9 x10 x11 x12 x13 x14 x15 x16 → P3 x0 x1 x2 x3 x4 x5 x6 x7 x8 x9 x10 x11 x12 x13 x14 x15 x16 → W) : W := by
  obtain ⟨x0, x1, x2, x3, x4, x5, x6, x7, x8, x9, x10, x11, x12, x13, x14, x15, x16, h0, h1, h2, h3⟩ := h
  exact c x0 x1 x2 x3 x4 x5 x6 x7 x8 x9 x10 x11 x12 x13 x14 x15 x16 h0 h1 h2 h3
theorem oq1 {n0:Nat}{n1:Nat}{n2:Nat}(h0:((n0 + (n1 + (1:Nat))) < n2)):(((n0 + (1:Nat)) + n1) < n2) := by lia
theorem oq2 {n0:Nat}{n1:Nat}{n2:Nat}(h0:(((n0 + (100:Nat)) + ((16:Nat) * (n1 + (1:Nat)))) < n2)):((((n0 + (3:Nat)) + (100:Nat)) + ((16:Nat) * n1)) < n2) := by subst_vars; first | assumption | lia
theorem oq3 {n0:Nat}{n1:Nat}{n2:Nat}{n3:Nat}(h0:((n0 + n1) < n2))(h1:(n3 ≤ n1)):((n0 + n3) < n2) := by subst_vars; first | assumption | lia
theorem oq4 {n0:Nat}{n1:Nat}{n2:Nat}{n3:Nat}(h0:(((n0 + (100:Nat)) + ((16:Nat) * n1)) < n2))(h1:(n3 ≤ n1)):(((n0 + (100:Nat)) + ((16:Nat) * n3)) < n2) := by subst_vars; first | assumption | lia
theorem oq5 {n0:Nat}{n1:Nat}{n2:Nat}(h0:((n0 + n1) < n2)):(n0 < n2) := Nat.lt_of_add_right_lt h0
theorem oq6 {n0:Nat}{n1:Nat}{n2:Nat}(h0:(((n0 + (100:Nat)) + ((16:Nat) * n1)) < n2)):((n0 + (64:Nat)) < n2) := by lia
theorem oq7 {n0:Nat}(h0:(n0 ≤ (1000:Nat))):(n0 ≤ (16777216:Nat)) := Nat.le_trans h0 (by decide)
theorem oq8 {i0:Int}(h0:((Int.natAbs i0) < ((2:Nat) ^ 64))):((-((2:Int) ^ 64)) < i0) := by grind
theorem oq9 {i0:Int}(h0:((Int.natAbs i0) < ((2:Nat) ^ 64))):(i0 < ((2:Int) ^ 64)) := by subst_vars; omega
theorem oq10 {n0:Nat}{n1:Nat}(h0:((n0 + n1) ≤ (1000000:Nat))):((n0 + n1) ≤ (16777216:Nat)) := Nat.le_trans h0 (by decide)
theorem oq11 {i0:Int}(h0:((0:Int) ≤ i0)):(¬ (i0 < (-((2:Int) ^ 63)))) := by subst_vars; first | assumption | lia
theorem oq12 {i0:Int}(h0:(i0 < ((2:Int) ^ 63))):(¬ (((2:Int) ^ 63) ≤ i0)) := Int.not_le.mpr h0
theorem oq13 {i0:Int}(h0:((0:Int) ≤ i0)):(¬ (i0 < (0:Int))) := by subst_vars; omega
theorem oq14 {i0:Int}{n1:Nat}{n2:Nat}(h0:((Int.toNat i0) < n1))(h1:(n2 = n1)):(i0 < (n2:Int)) := by subst_vars; first | assumption | lia
theorem oq15 {n0:Nat}(h0:(n0 ≤ (1000000:Nat))):(n0 ≤ (16777216:Nat)) := Nat.le_trans h0 (by decide)
theorem oq16 {n0:Nat}(h0:(n0 ≤ (1000000:Nat))):((n0:Int) < ((2:Int) ^ 63)) := by subst_vars; first | assumption | lia
theorem oq17 {n0:Nat}(h0:(n0 ≤ (1000000:Nat))):(¬ (((2:Int) ^ 63) ≤ (n0:Int))) := by subst_vars; first | assumption | lia
theorem oq18 {i0:Int}(h0:(i0 < (0:Int))):((-i0) = (((Int.natAbs i0) : Nat) : Int)) := by subst_vars; omega
theorem oq19 {i0:Int}(h0:(¬ (i0 < (0:Int)))):(i0 = (((Int.natAbs i0) : Nat) : Int)) := by subst_vars; first | assumption | lia
theorem oq20 {n0:Nat}(h0:((n0 + (1:Nat)) ≤ (1000:Nat))):((n0 + (1:Nat)) ≤ (16777216:Nat)) := Nat.lt_of_lt_of_le h0 (by decide)
theorem oq21 {n0:Nat}{n1:Nat}(h0:(n0 ≤ n1)):(((n1 + (1:Nat)) - (n0 + (1:Nat))) < ((n1 + (1:Nat)) - n0)) := by grind
theorem oq22 {n0:Nat}{n1:Nat}(h0:(¬ (n0 < n1)))(h1:(n0 ≤ n1)):(n0 = n1) := by subst_vars; first | assumption | lia
theorem oq23 {i0:Int}(h0:((0:Int) < i0)):((i0 - (0:Int)) = (((Int.toNat i0) : Nat) : Int)) := by subst_vars; first | assumption | lia
theorem oq24 {i0:Int}(h0:(¬ ((0:Int) < i0))):((0:Int) = (((Int.toNat i0) : Nat) : Int)) := by subst_vars; first | assumption | lia
theorem oq25 {i0:Int}{i1:Int}(h0:(i0 < i1)):((i1 - i0) = (((Int.toNat (i1 - i0)) : Nat) : Int)) := by grind
theorem oq26 {i0:Int}{i1:Int}(h0:(¬ (i0 < i1))):((0:Int) = (((Int.toNat (i1 - i0)) : Nat) : Int)) := by subst_vars; first | assumption | lia
theorem oq27 {n0:Nat}{n1:Nat}(h0:(¬ ((n0 = (0:Nat)) ∨ (n1 < (2:Nat))))):((0:Nat) < n0) := by grind
theorem oq28 {n0:Nat}{n1:Nat}(h0:(¬ ((n0 = (0:Nat)) ∨ (n1 < (2:Nat))))):((1:Nat) < n1) := by subst_vars; omega
theorem oq29 {n0:Nat}{n1:Nat}(h0:((0:Nat) < n0))(h1:((2:Nat) ≤ n1)):(¬ ((n0 = (0:Nat)) ∨ (n1 < (2:Nat)))) := by lia
theorem oq30 {n0:Nat}{n1:Nat}{n2:Nat}{n3:Nat}(h0:((n0 + (n1 * (1:Nat))) ≤ n2))(h1:(n3 < n1)):((n3 + n0) < n2) := by subst_vars; first | assumption | lia
theorem oq31 {n0:Nat}(h0:(¬ (n0 = (0:Nat)))):((0:Nat) < n0) := Nat.zero_lt_of_ne_zero h0
theorem oq32 {n0:Nat}(h0:((2:Nat) ≤ n0)):((0:Nat) < n0) := Nat.zero_lt_of_lt h0
theorem oq33 {n0:Nat}(h0:((2:Nat) ≤ n0)):((1:Nat) < n0) := by subst_vars; first | assumption | lia
theorem oq34 {n0:Nat}{n1:Nat}{n2:Nat}{n3:Nat}(h0:(n0 < n1))(h1:(n2 ≤ (n0 + n3))):(n2 < (n3 + (n1 * (1:Nat)))) := by subst_vars; first | assumption | lia
theorem oq35 {n0:Nat}{n1:Nat}(h0:(n0 < (n1 + (1:Nat)))):(n0 ≤ n1) := Nat.le_of_lt_succ h0
theorem oq36 {n0:Nat}{n1:Nat}(h0:(n0 ≤ n1)):((n0 + (1:Nat)) ≤ (n1 + (1:Nat))) := Nat.add_le_add_right h0 1
theorem oq37 {n0:Nat}(h0:((n0 + (1:Nat)) ≤ ((n0 + (1:Nat)) - (1:Nat)))):False := by subst_vars; first | assumption | lia
theorem oq38 {n0:Nat}{n1:Nat}(h0:(((0:Nat) < n0) ↔ ((0:Nat) < n1))):((n0 = (0:Nat)) ↔ (n1 = (0:Nat))) := by lia
theorem oq39 {n0:Nat}{n1:Nat}(h0:(n0 < n1)):(n0 ≤ n1) := Nat.le_of_succ_le h0
theorem oq40 {n0:Nat}{n1:Nat}{n2:Nat}{n3:Nat}{n4:Nat}{n5:Nat}(h0:((n0 + n1) = n2))(h1:((n3 + n4) = (n1 + n5))):(((n0 + n3) + n4) = (n2 + n5)) := by subst_vars; first | assumption | lia
theorem oq41 {n0:Nat}{n1:Nat}{n2:Nat}{n3:Nat}{n4:Nat}{n5:Nat}(h0:((n0 + (n1 * (1:Nat))) ≤ n2))(h1:(n3 < n1)):((n3 + (n0 + n4)) < (n5 + (n2 + n4))) := by grind
theorem oq42 {n0:Nat}{n1:Nat}(h0:(n0 < n1)):((0:Nat) < n1) := Nat.zero_lt_of_lt h0
theorem oq43 {n0:Nat}{n1:Nat}(h0:(n0 < n1)):(n0 ≤ (n1 - (1:Nat))) := Nat.le_sub_one_of_lt h0
theorem oq44 {n0:Nat}{n1:Nat}{n2:Nat}{n3:Nat}(h0:(n0 < n1))(h1:(n1 ≤ n2))(h2:(n2 ≤ n3)):(n0 < n3) := by subst_vars; first | assumption | lia
theorem oq45 {n0:Nat}{n1:Nat}(h0:(n0 < n1)):(¬ (n1 < n0)) := Nat.not_lt_of_gt h0
theorem oq46 {n0:Nat}{n1:Nat}{n2:Nat}{n3:Nat}{n4:Nat}(h0:((n0 * (2:Nat)) ≤ n1))(h1:((n2 + n1) = (n3 + n4)))(h2:(n4 < n0))(h3:(n3 < n0)):False := by subst_vars; first | assumption | lia
theorem oq47 {n0:Nat}{n1:Nat}(h0:((2:Nat) ≤ n0))(h1:(n1 < (2:Nat))):(n1 < n0) := Nat.lt_of_lt_of_le h1 h0
theorem oq48 {n0:Nat}{n1:Nat}{n2:Nat}{n3:Nat}(h0:((n0 + (n1 * (0:Nat))) = (n2 + n3))):(n0 = (n2 + n3)) := by omega
theorem oq49 {n0:Nat}{n1:Nat}{n2:Nat}(h0:(n0 ≤ n1)):(n0 ≤ (n1 + n2)) := Nat.le_add_right_of_le h0
theorem oq50 {i0:Int}(h0:(i0 < (0:Int))):((-(((Int.natAbs i0) : Nat) : Int)) = i0) := by subst_vars; omega
theorem oq51 {i0:Int}(h0:(¬ (i0 < (0:Int)))):((((Int.natAbs i0) : Nat) : Int) = i0) := by subst_vars; omega
theorem oq52 {i0:Int}(h0:(i0 < (0:Int))):((((Int.natAbs i0) : Nat) : Int) = (-i0)) := by omega
theorem oq53 {i0:Int}(h0:(i0 < (0:Int))):(i0 ≤ (0:Int)) := Int.le_of_lt h0
theorem oq54 {i0:Int}(h0:(¬ (i0 < (0:Int)))):((0:Int) ≤ i0) := by simp_all
theorem oq55 {i0:Int}(h0:(i0 < (0:Int))):((0:Int) ≤ (-i0)) := by subst_vars; first | assumption | lia
theorem oq56 {i0:Int}(h0:(i0 ≤ (0:Int))):((0:Int) ≤ (-i0)) := Int.neg_nonneg_of_nonpos h0
theorem oq57 {i0:Int}(h0:((0:Int) ≤ (-i0))):(i0 ≤ (0:Int)) := Int.zero_le_neg_iff.mp h0
theorem oq58 {i0:Int}(h0:(i0 ≤ (0:Int))):((-(((Int.natAbs i0) : Nat) : Int)) = i0) := Eq.symm (Int.eq_neg_natAbs_of_nonpos h0)
theorem oq59 {i0:Int}(h0:((0:Int) ≤ i0)):((((Int.natAbs i0) : Nat) : Int) = i0) := Int.natAbs_of_nonneg h0
theorem oq60 {n0:Nat}(h0:(n0 < ((2:Nat) ^ 20))):(n0 ≤ ((2:Nat) ^ 20)) := Nat.le_of_succ_le h0
theorem oq61 {n0:Nat}(h0:(n0 < ((2:Nat) ^ 30))):(n0 ≤ ((2:Nat) ^ 30)) := Nat.le_of_lt h0
theorem oq62 {i0:Int}(h0:((0:Int) < i0)):((0:Int) ≤ i0) := Int.le_of_lt h0
theorem oq63 {i0:Int}{i1:Int}{i2:Int}(h0:((i0 + i1) = i2)):((i1 + i0) = i2) := by subst_vars; first | assumption | lia
theorem oq64 {i0:Int}(h0:(i0 < (0:Int))):((0:Int) < (-i0)) := Int.neg_pos_of_neg h0
theorem oq65 {i0:Int}{i1:Int}{i2:Int}(h0:((i0 + i1) = i2)):(((-i0) + (-i1)) = (-i2)) := by subst_vars; first | assumption | lia
theorem oq66 {i0:Int}{i1:Int}(h0:(i0 < i1)):((-i1) < (-i0)) := Int.neg_lt_neg h0
theorem oq67 {i0:Int}{i1:Int}{i2:Int}{i3:Int}(h0:((i0 + i1) = i2))(h1:((i0 + i3) = i2)):(i3 = i1) := by subst_vars; first | assumption | lia
theorem oq68 {i0:Int}(h0:(i0 ≠ (0:Int))):((0:Nat) < (Int.natAbs i0)) := Int.natAbs_pos.2 h0
theorem oq69 {i0:Int}{i1:Int}{i2:Int}{i3:Int}(h0:((i0 + i1) = i2)):(((i0 - i3) + (i1 + i3)) = i2) := by subst_vars; first | assumption | lia
theorem oq70 {i0:Int}{i1:Int}{i2:Int}(h0:((Int.natAbs i0) < (Int.natAbs i1)))(h1:((i2 ≤ (0:Int)) → (i0 ≤ (0:Int))))(h2:(¬ (i1 < (0:Int))))(h3:(i0 ≠ (0:Int)))(h4:(i2 < (0:Int))):(((0:Int) < i1) ∧ (((0:Int) ≤ (i0 + i1)) ∧ ((i0 + i1) < i1))) := by lia
theorem oq71 {i0:Int}{i1:Int}(h0:((0:Int) ≤ i0))(h1:((Int.natAbs i0) < (Int.natAbs i1)))(h2:(i1 < (0:Int)))(h3:(i0 ≠ (0:Int))):((i1 < (0:Int)) ∧ (((i0 + i1) ≤ (0:Int)) ∧ (i1 < (i0 + i1)))) := by grind
theorem oq72 {i0:Int}(h0:(i0 < (0:Int))):((i0 < (0:Int)) ∧ (((0:Int) ≤ (0:Int)) ∧ (i0 < (0:Int)))) := by simp_all
theorem oq73 {i0:Int}(h0:((0:Int) < i0)):(((0:Int) < i0) ∧ (((0:Int) ≤ (0:Int)) ∧ ((0:Int) < i0))) := by simp_all
theorem oq74 {i0:Int}{i1:Int}(h0:((Int.natAbs i0) < (Int.natAbs i1)))(h1:(i1 < (0:Int)))(h2:(i0 ≤ (0:Int))):((i1 < (0:Int)) ∧ ((i0 ≤ (0:Int)) ∧ (i1 < i0))) := by grind
theorem oq75 {i0:Int}{i1:Int}(h0:((0:Int) ≤ i0))(h1:((Int.natAbs i0) < (Int.natAbs i1)))(h2:(¬ (i1 < (0:Int)))):(((0:Int) < i1) ∧ (((0:Int) ≤ i0) ∧ (i0 < i1))) := by grind
theorem oq76 {n0:Nat}(h0:((0:Nat) < n0)):((n0:Int) ≠ (0:Int)) := Int.natCast_ne_zero_iff_pos.mpr h0
theorem oq77 {i0:Int}(h0:((0:Nat) = (Int.natAbs i0)))(h1:(i0 ≠ (0:Int))):False := by omega
theorem oq78 {i0:Int}{i1:Int}(h0:(i0 < (0:Int)))(h1:(i1 = (((Int.natAbs i0) : Nat) : Int))):(i0 = (-i1)) := by subst_vars; first | assumption | lia
theorem oq79 {i0:Int}{i1:Int}(h0:(¬ (i0 < (0:Int))))(h1:(i1 = (((Int.natAbs i0) : Nat) : Int))):(i0 = i1) := by subst_vars; first | assumption | lia
theorem oq80 {n0:Nat}(h0:((0:Nat) < n0))(h1:((0:Nat) = n0)):False := by subst_vars; first | assumption | lia
theorem oq81 {n0:Nat}(h0:((0:Nat) < n0)):((0:Int) < (n0:Int)) := Int.natCast_pos.mpr h0
theorem oq82 {i0:Int}(h0:((0:Int) ≤ i0))(h1:(i0 < (0:Int))):False := Int.lt_irrefl _ <| Int.lt_of_le_of_lt h0 h1
theorem oq83 {n0:Nat}:((0:Int) ≤ (n0:Int)) := Int.natCast_nonneg n0
theorem oq84 {n0:Nat}{i1:Int}(h0:((0:Nat) < n0))(h1:(i1 < (n0:Int))):((Int.toNat i1) < n0) := (Int.toNat_lt' h0).mpr h1
theorem oq85 {i0:Int}(h0:((0:Int) ≤ i0)):((((Int.toNat i0) : Nat) : Int) = i0) := Int.toNat_of_nonneg h0
theorem oq86 {n0:Nat}(h0:((0:Nat) < n0)):(¬ (n0 = (0:Nat))) := by subst_vars; first | assumption | lia
theorem oq87 {n0:Nat}:((n0:Int) = (((n0:Int) - (1:Int)) + (1:Int))) := Eq.symm (Int.sub_add_cancel (↑n0) 1)
theorem oq88 {n0:Nat}(h0:((0:Nat) < n0)):((0:Int) ≤ ((n0:Int) - (1:Int))) := by subst_vars; first | assumption | lia
theorem oq89 {i0:Int}:((i0 < (0:Int)) ∨ ((0:Int) ≤ i0)) := Int.lt_or_le i0 0
theorem oq90 {i0:Int}(h0:(i0 < (0:Int))):((0:Int) ≤ ((-i0) - (1:Int))) := by subst_vars; first | assumption | lia
theorem oq91 {n0:Nat}{i1:Int}{i2:Int}{i3:Int}{i4:Int}{i5:Int}{i6:Int}(h0:(((n0:Int) = (i1 + (1:Int))) ∧ ((0:Int) ≤ i1)))(h1:(((i2 + ((1:Int) * i3)) + i4) = i5))(h2:((0:Int) ≤ i6))(h3:(i4 < (n0:Int)))(h4:(i3 < (0:Int)))(h5:(i6 = ((-i2) - i1))):((Int.natAbs i3) ≤ (Int.natAbs i5)) := by subst_vars; first | assumption | lia
theorem oq92 {i0:Int}{i1:Int}{i2:Int}{i3:Int}(h0:(((i0 + ((1:Int) * i1)) + i2) = i3))(h1:((0:Int) ≤ i2))(h2:((0:Int) ≤ i0))(h3:((0:Int) ≤ i1)):((Int.natAbs i1) ≤ (Int.natAbs i3)) := by lia
theorem oq93 {i0:Int}(h0:(i0 < (1:Int))):((0:Int) ≤ (-i0)) := by lia
theorem oq94 {n0:Nat}{i1:Int}{n2:Nat}{i3:Int}(h0:((n0:Int) < i1))(h1:((n2:Int) < (n0:Int)))(h2:((0:Int) ≤ (-i3)))(h3:((i3 + (n2:Int)) = i1)):False := by subst_vars; first | assumption | lia
theorem oq95 {i0:Int}(h0:((1:Int) ≤ i0)):((0:Int) ≤ i0) := Int.le_of_lt h0
theorem oq96 {i0:Int}{i1:Int}(h0:(((1:Int) * i0) ≤ i1)):(i0 ≤ i1) := by simp_all
theorem oq97 {i0:Int}{i1:Int}{i2:Int}(h0:((0:Int) ≤ i0))(h1:((1:Int) ≤ i1))(h2:(i1 ≤ i2)):((1:Int) ≤ (i2 + i0)) := by grind
theorem oq98 {i0:Int}{i1:Int}{i2:Int}{i3:Int}(h0:(((i0 - i1) = (1:Int)) ∨ ((i0 - i1) = (-(1:Int)))))(h1:((i2 - i3) = (-(i0 - i1)))):(((i2 - i3) = (1:Int)) ∨ ((i2 - i3) = (-(1:Int)))) := by lia
theorem oq99 {i0:Int}(h0:(i0 = (0:Int))):((0:Int) ≤ i0) := by subst_vars; first | assumption | lia
theorem oq100 {i0:Int}{i1:Int}{i2:Int}(h0:((1:Int) ≤ (i0 + i1)))(h1:(i2 = (0:Int))):(i2 ≤ (i0 + i1)) := by subst_vars; first | assumption | lia
theorem oq101 {i0:Int}{i1:Int}{i2:Int}(h0:((0:Int) ≤ i0))(h1:(i1 ≤ i2)):(i1 ≤ (i2 + i0)) := by subst_vars; first | assumption | lia
theorem oq102 {i0:Int}{i1:Int}(h0:(i0 = (1:Int))):((i1 = (0:Int)) → (i0 = (1:Int))) := by subst_vars; first | assumption | lia
theorem oq103 {i0:Int}{i1:Int}(h0:((1:Int) ≤ i0)):((i0 = (0:Int)) → (i1 = (1:Int))) := by omega
theorem oq104 {n0:Nat}(h0:((0:Nat) = n0)):(¬ ((0:Nat) < n0)) := by subst_vars; omega
theorem oq105 {i0:Int}(h0:((0:Int) < i0))(h1:((Int.natAbs i0) ≤ (1:Nat))):(i0 = (1:Int)) := by lia
theorem oq106 {i0:Int}(h0:((1:Int) ≤ i0)):((0:Nat) < (Int.natAbs i0)) := by grind
theorem oq107 {i0:Int}(h0:(((Int.natAbs i0) + (1:Nat)) < ((2:Nat) ^ 20))):((Int.natAbs i0) < ((2:Nat) ^ 20)) := Nat.lt_of_succ_lt h0
theorem oq108 {n0:Nat}(h0:(n0 < ((2:Nat) ^ 20))):(n0 < ((2:Nat) ^ 20)) := by subst_vars; first | assumption | lia
theorem oq109 {n0:Nat}{i1:Int}(h0:((n0:Int) < i1)):((0:Int) ≤ i1) := by subst_vars; first | assumption | lia
theorem oq110 {i0:Int}{i1:Int}(h0:((i0 * (1:Int)) ≤ i1)):(i0 ≤ i1) := by simp_all
theorem oq111 {n0:Nat}{i1:Int}(h0:((n0:Int) < i1)):((1:Int) ≤ i1) := by lia
theorem oq112 {n0:Nat}{i1:Int}{i2:Int}{i3:Int}(h0:((n0:Int) = (i1 + i2)))(h1:((0:Int) ≤ i2))(h2:(i3 ≤ i1)):(i3 ≤ (n0:Int)) := by subst_vars; first | assumption | lia
theorem oq113 {i0:Int}{n1:Nat}(h0:((0:Int) ≤ i0))(h1:(i0 ≤ (n1:Int))):((Int.natAbs i0) ≤ n1) := by subst_vars; first | assumption | lia
theorem oq114 {i0:Int}{i1:Int}{n2:Nat}{n3:Nat}{n4:Nat}{n5:Nat}(h0:((Int.natAbs (i0 + i1)) ≤ (n2 + (Int.natAbs i1))))(h1:((Int.natAbs i1) ≤ n3))(h2:(n4 = (Int.natAbs (i0 + i1))))(h3:(n2 ≤ n5)):(n4 ≤ (n5 + (n3 * (1:Nat)))) := by subst_vars; first | assumption | lia
theorem oq115 {n0:Nat}{i1:Int}{n2:Nat}(h0:((n0:Int) < i1))(h1:(i1 ≤ (n2:Int))):((Int.natAbs ((n0:Int) * (1:Int))) ≤ n2) := by subst_vars; first | assumption | lia
theorem oq116 {n0:Nat}{i1:Int}{n2:Nat}{i3:Int}{i4:Int}(h0:((n0:Int) < i1))(h1:((n2:Int) = (i3 + i4)))(h2:((0:Int) ≤ i4))(h3:(i1 ≤ i3)):((Int.natAbs (i1 * (1:Int))) ≤ n2) := by subst_vars; first | assumption | lia
theorem oq117 {i0:Int}{i1:Int}{i2:Int}(h0:((i0 - i1) = (-i2))):(i1 = (i0 + i2)) := by grind
theorem oq118 {n0:Nat}{i1:Int}{i2:Int}{i3:Int}{i4:Int}(h0:((n0:Int) = (i1 + i2)))(h1:((0:Int) ≤ i2))(h2:(i3 ≤ i1))(h3:(i4 ≤ i3)):(i4 ≤ (n0:Int)) := by subst_vars; first | assumption | lia
theorem oq119 {i0:Int}{i1:Int}{i2:Int}(h0:((i0 - i1) = i2)):(i1 = (i0 + (-i2))) := by grind
theorem oq120 {i0:Int}{i1:Int}(h0:(((Int.natAbs i0) + (1:Nat)) < ((2:Nat) ^ 20)))(h1:((Int.natAbs i1) ≤ ((Int.natAbs i0) + (1:Nat)))):((Int.natAbs i1) < ((2:Nat) ^ 20)) := Nat.lt_of_le_of_lt h1 h0
theorem oq121 {n0:Nat}{i1:Int}{i2:Int}{i3:Int}{i4:Int}(h0:((n0:Int) = (i1 + i2)))(h1:((0:Int) ≤ i2))(h2:((0:Int) ≤ i3))(h3:(n0 < ((2:Nat) ^ 20)))(h4:(i4 ≤ i1))(h5:(i3 ≤ i4)):((Int.natAbs i3) < ((2:Nat) ^ 20)) := by subst_vars; first | assumption | lia
theorem oq122 {i0:Int}{n1:Nat}(h0:((1:Int) ≤ i0))(h1:(n1 < ((2:Nat) ^ 20)))(h2:(i0 ≤ (n1:Int))):((Int.natAbs i0) < ((2:Nat) ^ 20)) := by grind
theorem oq123 {n0:Nat}{i1:Int}{n2:Nat}(h0:((n0:Int) < i1))(h1:(i1 ≤ (n2:Int)))(h2:(n2 < ((2:Nat) ^ 20))):((Int.natAbs i1) < ((2:Nat) ^ 20)) := by subst_vars; first | assumption | lia
theorem oq124 {n0:Nat}{i1:Int}{n2:Nat}(h0:((n0:Int) < i1))(h1:(i1 ≤ (n2:Int)))(h2:(n2 < ((2:Nat) ^ 20))):(n0 < ((2:Nat) ^ 20)) := by subst_vars; first | assumption | lia
theorem oq125 {i0:Int}{i1:Int}{i2:Int}{i3:Int}{i4:Int}{i5:Int}(h0:((i0 < i1) ∨ ((i0 = i1) ∧ ((i2 < i3) ∨ ((i2 = i3) ∧ (i4 ≤ i5))))))(h1:(i1 < i0)):False := by lia
theorem oq126 {i0:Int}{i1:Int}{i2:Int}{i3:Int}{i4:Int}{i5:Int}(h0:((i0 < i1) ∨ ((i0 = i1) ∧ ((i2 < i3) ∨ ((i2 = i3) ∧ (i4 ≤ i5))))))(h1:((i3 < i2) ∨ ((i3 = i2) ∧ (i5 ≤ i4))))(h2:(i1 = i0)):((i5 = i4) ∧ (i3 = i2)) := by subst_vars; first | assumption | lia
theorem oq127 {i0:Int}(h0:((1:Int) ≤ i0)):((0:Nat) < (Int.toNat i0)) := Int.pos_iff_toNat_pos.mp h0
theorem oq128 {n0:Nat}(h0:((0:Nat) < n0))(h1:(¬ (n0 = (1:Nat)))):((2:Nat) ≤ n0) := by subst_vars; first | assumption | lia
theorem oq129 {i0:Int}(h0:((1:Int) ≤ i0))(h1:((Int.toNat i0) = (0:Nat))):False := by grind
theorem oq130 {i0:Int}(h0:((1:Int) ≤ i0)):(i0 = (((Int.toNat i0) : Nat) : Int)) := by grind
theorem oq131 {n0:Nat}(h0:((2:Nat) ≤ n0)):((2:Int) ≤ (n0:Int)) := Int.toNat_le.mp h0
theorem oq132 {n0:Nat}{i1:Int}(h0:(((2:Int) * (n0:Int)) ≤ i1))(h1:((0:Nat) < n0)):((n0:Int) < i1) := by grind
theorem oq133 {n0:Nat}(h0:((0:Nat) < n0)):((1:Int) ≤ (n0:Int)) := Int.toNat_le.mp h0
theorem oq134 {n0:Nat}{i1:Int}{i2:Int}(h0:((n0:Int) < i1))(h1:(i1 ≤ i2)):((n0:Int) ≤ i2) := Int.le_trans (Int.le_of_lt h0) h1
theorem oq135 {n0:Nat}{i1:Int}{i2:Int}{i3:Int}{i4:Int}{i5:Int}(h0:((n0:Int) < i1))(h1:((i2 < i3) ∨ ((i2 = i3) ∧ ((i1 < (n0:Int)) ∨ ((i1 = (n0:Int)) ∧ (i4 ≤ i5))))))(h2:(i2 = i3)):False := by lia
theorem oq136 {i0:Int}(h0:((0:Int) < i0)):((((Int.natAbs (-((1:Int) * i0))) : Nat) : Int) = i0) := by grind
theorem oq137 {i0:Int}{i1:Int}:((((Int.natAbs ((1:Int) * (i0 - i1))) : Nat) : Int) = (((Int.natAbs (i0 - i1)) : Nat) : Int)) := by simp_all
theorem oq138 {i0:Int}{i1:Int}:((i0 = (0:Int)) ∨ ((i1 = (0:Int)) ∨ ((((0:Int) < i0) ∧ ((0:Int) < i1)) ∨ (((i0 < (0:Int)) ∧ (i1 < (0:Int))) ∨ ((((0:Int) < i0) ∧ (i1 < (0:Int))) ∨ ((i0 < (0:Int)) ∧ ((0:Int) < i1))))))) := by subst_vars; first | assumption | lia
theorem oq139 {i0:Int}{i1:Int}(h0:((0:Int) ≤ (-i0)))(h1:((1:Int) ≤ i1))(h2:(i1 = i0)):False := by subst_vars; omega
theorem oq140 {i0:Int}(h0:((0:Int) < i0)):((((Int.natAbs i0) : Nat) : Int) = i0) := by subst_vars; first | assumption | lia
theorem oq141 {i0:Int}(h0:((0:Int) < i0)):((1:Int) ≤ i0) := by subst_vars; first | assumption | lia
theorem oq142 {i0:Int}{i1:Int}{i2:Int}{i3:Int}(h0:(i0 < i1))(h1:(i2 = i0))(h2:(i3 = i1)):(i2 < i3) := by subst_vars; omega
theorem oq143 {i0:Int}{i1:Int}{i2:Int}(h0:(i0 < i1))(h1:(i1 ≤ i2)):(i0 < i2) := Int.lt_of_lt_of_le h0 h1
theorem oq144 {i0:Int}{i1:Int}{i2:Int}{i3:Int}(h0:(i0 ≤ i1))(h1:(i2 = i3)):((i2 = ((1:Int) * i3)) ∧ (i0 ≤ ((1:Int) * i1))) := by simp_all
theorem oq145 {i0:Int}(h0:((0:Int) < i0))(h1:(¬ (i0 = (1:Int)))):((2:Int) ≤ i0) := by subst_vars; first | assumption | lia
theorem oq146 {i0:Int}{i1:Int}{i2:Int}(h0:(((2:Int) * i0) ≤ i1))(h1:((1:Int) ≤ i2))(h2:(i2 = i0)):(i2 < i1) := by subst_vars; first | assumption | lia
theorem oq147 {i0:Int}(h0:((0:Int) < i0)):((((Int.natAbs (-i0)) : Nat) : Int) = i0) := by subst_vars; first | assumption | lia
theorem oq148 {i0:Int}{i1:Int}:((i0 = ((1:Int) * i0)) ∧ (i1 ≤ ((1:Int) * i1))) := by simp_all
theorem oq149 {i0:Int}{i1:Int}{i2:Int}(h0:(((2:Int) * i0) ≤ i1))(h1:((1:Int) ≤ i2))(h2:(i2 = i1)):(i0 < i1) := by lia
theorem oq150 {i0:Int}{i1:Int}{i2:Int}{i3:Int}{i4:Int}{i5:Int}(h0:(((1:Int) * i0) ≤ i1))(h1:(((1:Int) * i2) ≤ i3))(h2:(i4 = (i1 + i3)))(h3:(i4 ≤ i5))(h4:(i5 < (i0 + i2))):False := by subst_vars; first | assumption | lia
theorem oq151 {i0:Int}{i1:Int}{i2:Int}(h0:((0:Int) ≤ (-i0)))(h1:((0:Int) ≤ (-i1)))(h2:((1:Int) ≤ i2))(h3:(i2 = (i0 + i1))):False := by subst_vars; first | assumption | lia
theorem oq152 {i0:Int}{i1:Int}(h0:((0:Int) < (-i0)))(h1:((0:Int) < i1)):((((Int.natAbs (i0 - i1)) : Nat) : Int) = (i1 - i0)) := by grind
theorem oq153 {i0:Int}(h0:((1:Int) ≤ i0)):((0:Int) < i0) := by subst_vars; first | assumption | lia
theorem oq154 {i0:Int}{i1:Int}{i2:Int}{i3:Int}{i4:Int}(h0:((0:Int) < (-i0)))(h1:((0:Int) < (-i1)))(h2:(i2 = (i3 + i0)))(h3:(i4 = (i3 - i1))):(i2 < i4) := by subst_vars; first | assumption | lia
theorem oq155 {i0:Int}{i1:Int}(h0:((0:Int) < (-i0)))(h1:((0:Int) < i1)):((((Int.natAbs (i1 - i0)) : Nat) : Int) = (i1 - i0)) := by lia
theorem oq156 {i0:Int}{i1:Int}{i2:Int}{i3:Int}{i4:Int}{i5:Int}(h0:((i0 < i1) ∨ ((i0 = i1) ∧ ((i2 < i3) ∨ ((i2 = i3) ∧ (i4 ≤ i5)))))):(i0 ≤ i1) := by omega
theorem oq157 {i0:Int}{i1:Int}{i2:Int}{i3:Int}{i4:Int}(h0:((0:Int) < (-i0)))(h1:(i1 ≤ i2))(h2:(i3 = (i0 + i1)))(h3:(i4 = (i2 - i0))):(i3 < i4) := by subst_vars; first | assumption | lia
theorem oq158 {i0:Int}{i1:Int}(h0:((i0 - i1) = (0:Int))):(i0 = i1) := Int.eq_of_sub_eq_zero h0
theorem oq159 {i0:Int}{n1:Nat}(h0:((1:Int) ≤ i0))(h1:(n1 < (Int.natAbs i0))):((n1:Int) < i0) := by lia
theorem oq160 {i0:Int}{n1:Nat}(h0:((1:Int) ≤ i0))(h1:(n1 = (Int.natAbs i0))):(i0 = (n1:Int)) := by subst_vars; omega
theorem oq161 {i0:Int}{i1:Int}(h0:(i0 = i1)):(i0 ≤ i1) := Int.le_of_eq h0
theorem oq162 {i0:Int}{i1:Int}(h0:(¬ ((i0 - i1) = (0:Int)))):((0:Int) < (((Int.natAbs (i0 - i1)) : Nat) : Int)) := by simp_all
theorem oq163 {i0:Int}{i1:Int}:((Int.natAbs i0) ≤ ((Int.natAbs i1) + (Int.natAbs (i1 - i0)))) := by omega
theorem oq164 {i0:Int}{i1:Int}{n2:Nat}{n3:Nat}{n4:Nat}{n5:Nat}(h0:((((Int.natAbs (i0 - i1)) : Nat) : Int) ≤ (n2:Int)))(h1:((Int.natAbs i1) ≤ (n3 + (Int.natAbs (i0 - i1)))))(h2:(n4 = (Int.natAbs i1)))(h3:(n3 ≤ n5)):(n4 ≤ (n5 + (n2 * (1:Nat)))) := by subst_vars; first | assumption | lia
theorem oq165 {i0:Int}(h0:((1:Int) ≤ i0))(h1:(i0 = (0:Int))):False := by subst_vars; first | assumption | lia
theorem oq166 {n0:Nat}{i1:Int}{i2:Int}{i3:Int}(h0:((n0:Int) < i1))(h1:((0:Int) ≤ i2))(h2:(i2 ≤ i3)):(((0:Int) ≤ i2) ∧ (((n0:Int) < i1) ∧ (i2 ≤ i3))) := by simp_all
theorem oq167 {i0:Int}(h0:((1:Int) ≤ i0)):(i0 ≠ (0:Int)) := Ne.symm (Int.ne_of_lt h0)
theorem oq168 {i0:Int}{i1:Int}{i2:Int}{i3:Int}(h0:((i0 + i1) = (i2 - i3))):((i0 + i3) = (i2 - i1)) := by lia
theorem oq169 {i0:Int}(h0:(i0 < (0:Int))):((0:Int) ≤ (-(i0 + (1:Int)))) := Int.neg_nonneg_of_nonpos h0
theorem oq170 {i0:Int}{i1:Int}{i2:Int}{i3:Int}{i4:Int}(h0:((i0 + (i1 * (1:Int))) ≤ (0:Int)))(h1:((i0 + i2) = (i3 - i4)))(h2:(i1 ≤ i3))(h3:(i4 ≤ i1))(h4:(i2 < i1)):False := by lia
theorem oq171 {i0:Int}{i1:Int}(h0:(i0 < (i1 + (1:Int)))):(i0 ≤ i1) := (Int.add_le_add_iff_right 1).mp h0
theorem oq172 {i0:Int}{i1:Int}{i2:Int}{i3:Int}{i4:Int}(h0:((0:Int) ≤ i0))(h1:((i1 + i0) = (i2 - i3)))(h2:(i2 < (i4 + i3)))(h3:(i4 ≤ i1)):False := by lia
theorem oq173 {i0:Int}{i1:Int}{i2:Int}{i3:Int}{i4:Int}(h0:(((1:Int) * i0) ≤ i1))(h1:((0:Int) ≤ i2))(h2:((0:Int) ≤ i3))(h3:((i1 + i3) = (i4 - i2))):(i0 ≤ i4) := by lia
theorem oq174 {i0:Int}{i1:Int}{i2:Int}{i3:Int}(h0:(i0 = (i1 - i2)))(h1:(i3 ≤ i1))(h2:(i2 < i3)):((1:Int) ≤ i0) := by subst_vars; first | assumption | lia
theorem oq175 {i0:Int}{i1:Int}{i2:Int}(h0:((0:Int) ≤ i0))(h1:(i1 = (i2 - i0))):(i1 ≤ i2) := by subst_vars; first | assumption | lia
theorem oq176 {i0:Int}{i1:Int}{n2:Nat}{i3:Int}{i4:Int}(h0:((0:Int) ≤ i0))(h1:((i1 + ((n2:Int) * (1:Int))) ≤ i3))(h2:((i3 + i0) = i4)):((n2:Int) ≤ (i4 - i1)) := by subst_vars; first | assumption | lia
theorem oq177 {i0:Int}{i1:Int}{i2:Int}(h0:((i0 - i1) = i2)):((i1 - i0) = (-i2)) := by subst_vars; first | assumption | lia
theorem oq178 {n0:Nat}:((((Int.natAbs (-((1:Int) * (n0:Int)))) : Nat) : Int) = (n0:Int)) := by simp_all
theorem oq179 {n0:Nat}{i1:Int}{i2:Int}(h0:((n0:Int) ≤ (i1 - i2))):((((Int.natAbs ((1:Int) * (i1 - i2))) : Nat) : Int) = (i1 - i2)) := by subst_vars; first | assumption | lia
theorem oq180 {i0:Int}{i1:Int}{i2:Int}{i3:Int}(h0:(i0 = (i1 - i2)))(h1:(i3 ≤ i1))(h2:(i2 < i3)):((0:Nat) < (Int.natAbs i0)) := by subst_vars; first | assumption | lia
theorem oq181 {n0:Nat}{i1:Int}{i2:Int}{i3:Int}(h0:((n0:Int) = (i1 + i2)))(h1:((0:Int) ≤ i2))(h2:((i3 * (1:Int)) ≤ i1)):(i3 ≤ (n0:Int)) := by subst_vars; first | assumption | lia
theorem oq182 {n0:Nat}{i1:Int}{i2:Int}{n3:Nat}(h0:((n0:Int) ≤ (i1 - i2)))(h1:((0:Int) ≤ i2))(h2:(i1 ≤ (n3:Int))):((n0:Int) ≤ (n3:Int)) := by lia
theorem oq183 {i0:Int}{i1:Int}{n2:Nat}(h0:((0:Int) ≤ i0))(h1:(i1 ≤ (n2:Int))):((i1 - i0) ≤ (n2:Int)) := by subst_vars; first | assumption | lia
theorem oq184 {i0:Int}{i1:Int}{i2:Int}{i3:Int}(h0:(i0 = (i1 - i2)))(h1:(i2 < i3)):(i1 < (i3 + i0)) := by subst_vars; first | assumption | lia
theorem oq185 {n0:Nat}{i1:Int}{i2:Int}(h0:((n0:Int) ≤ (i1 - i2)))(h1:((0:Nat) < n0)):((0:Int) < (i1 - i2)) := Int.le_trans (Int.ofNat_le.2 h1) h0
theorem oq186 {i0:Int}(h0:((1:Int) ≤ i0))(h1:(i0 ≤ (1:Int))):(i0 = (1:Int)) := Int.le_antisymm h1 h0
theorem oq187 {i0:Int}{i1:Int}(h0:((1:Int) = (i0 + i1))):((i0 + i1) = (1:Int)) := Eq.symm h0
theorem oq188 {n0:Nat}{i1:Int}{i2:Int}(h0:(((n0:Int) * (1:Int)) = ((i1 - i2) * (1:Int)))):((n0:Int) = (i1 - i2)) := by simp_all
theorem oq189 {i0:Int}{i1:Int}{i2:Int}(h0:((0:Int) ≤ i0))(h1:((i1 + i0) = (1:Int)))(h2:(i2 = (1:Int)))(h3:(i0 ≤ i2)):((i1 = (0:Int)) ∨ (i1 = (1:Int))) := by lia
theorem oq190 {n0:Nat}{i1:Int}(h0:((n0:Int) < i1))(h1:((n0:Int) = (i1 - (0:Int)))):False := by simp_all
theorem oq191 {i0:Int}{i1:Int}(h0:((i0 + i1) = (1:Int)))(h1:(i0 = (1:Int))):(i1 = (0:Int)) := by subst_vars; first | assumption | lia
theorem oq192 {i0:Int}:(i0 ≤ (((1:Int) * i0) + (1:Int))) := by subst_vars; first | assumption | lia
theorem oq193 {i0:Int}(h0:((i0 = (1:Int)) ∨ (i0 = (-(1:Int))))):(((-i0) = (1:Int)) ∨ ((-i0) = (-(1:Int)))) := by subst_vars; first | assumption | lia
theorem oq194 {i0:Int}{i1:Int}{i2:Int}{i3:Int}(h0:(i0 = (i1 - i2)))(h1:(i2 < i3)):(i1 < (i0 + i3)) := by grind
theorem oq195 {i0:Int}{i1:Int}(h0:(¬ (i0 < i1))):((i1 < i0) ∨ (i1 = i0)) := by subst_vars; omega
theorem oq196 {i0:Int}{i1:Int}(h0:(¬ (i0 ≤ i1))):(i1 < i0) := Int.lt_of_not_ge h0
theorem oq197 {i0:Int}{n1:Nat}(h0:(i0 < (n1:Int)))(h1:(n1 ≤ (1000000:Nat))):(i0 < ((2:Int) ^ 63)) := by subst_vars; first | assumption | lia
theorem oq198 {i0:Int}{n1:Nat}(h0:((0:Int) ≤ i0))(h1:(i0 < (n1:Int))):((Int.toNat i0) < n1) := (Int.toNat_lt h0).mpr h1
theorem oq199 {i0:Int}(h0:((0:Int) ≤ i0)):(i0 = (((Int.toNat i0) : Nat) : Int)) := Int.eq_natCast_toNat.mpr h0
theorem oq200 {n0:Nat}(h0:(n0 ≤ (1000:Nat))):((n0:Int) ≤ (1000000:Int)) := Int.le_trans (Int.ofNat_le.2 h0) (by decide)
theorem oq201 {n0:Nat}(h0:((0:Nat) < n0)):((((n0 - (1:Nat)) : Nat) : Int) = ((n0:Int) - (1:Int))) := by grind
theorem oq202 {n0:Nat}:((0:Int) ≤ (((n0 - (1:Nat)) : Nat) : Int)) := Int.natCast_nonneg (n0 - 1)
theorem oq203 {n0:Nat}(h0:((0:Nat) < n0)):(n0 ≠ (0:Nat)) := Nat.ne_zero_of_lt h0
theorem oq204 {n0:Nat}(h0:(n0 < (64:Nat))):(n0 < (9000:Nat)) := Nat.lt_of_lt_of_le h0 (by decide)
theorem oq205 {n0:Nat}{n1:Nat}:((((n0 + (1:Nat)) + (0:Nat)) + n1) = (n0 + (n1 + (1:Nat)))) := Nat.succ_add_eq_add_succ n0 n1
theorem oq206 {n0:Nat}{n1:Nat}{n2:Nat}(h0:(n0 = n1))(h1:(n2 = n0)):(n2 = n1) := h0 ▸ h1
theorem oq207 {n0:Nat}{n1:Nat}{n2:Nat}(h0:(n0 = n1))(h1:(n2 < n1)):(n2 < n0) := by subst_vars; first | assumption | lia
theorem oq208 {n0:Nat}{n1:Nat}{n2:Nat}(h0:(¬ (n0 < n1)))(h1:(n2 = n1)):(n2 ≤ n0) := by subst_vars; first | assumption | lia
theorem oq209 {n0:Nat}{n1:Nat}(h0:(¬ (n0 < n1))):(n1 ≤ n0) := Nat.le_of_not_lt h0
theorem oq210 {n0:Nat}(h0:(n0 ≤ (100000:Nat))):(n0 ≤ (5592405:Nat)) := Nat.le_trans h0 (by decide)
theorem oq211 {n0:Nat}{n1:Nat}{n2:Nat}(h0:(n0 ≤ (1000000:Nat))):((min (n1 - n2) (n0 - n2)) ≤ (1000000:Nat)) := by lia
theorem oq212 {n0:Nat}{n1:Nat}{n2:Nat}(h0:((n0 - n1) = n2))(h1:(n1 ≤ n0))(h2:(n0 ≤ n2)):(n1 = (0:Nat)) := by grind
theorem oq213 {n0:Nat}:(¬ ((n0:Int) < (0:Int))) := by subst_vars; omega
theorem oq214 {n0:Nat}:((n0:Int) = (max (0:Int) (min (n0:Int) (n0:Int)))) := by simp_all
theorem oq215 :(((0:Nat) + (1:Nat)) ≤ ((16777216:Nat) + (1:Nat))) := Nat.le_add_left (0 + 1) 16777216
theorem oq216 :((1:Nat) ≤ (16777216:Nat)) := by simp_all
theorem oq217 {n0:Nat}{n1:Nat}{n2:Nat}(h0:((1:Nat) ≤ n0))(h1:((n1 + n0) < n2)):((n1 + (1:Nat)) < n2) := by subst_vars; first | assumption | lia
theorem oq218 {n0:Nat}(h0:(n0 ≤ (10000:Nat))):((n0 + (1:Nat)) ≤ (16777216:Nat)) := Nat.lt_of_le_of_lt h0 (by decide)
theorem oq219 :((2:Nat) ≤ (16777216:Nat)) := Nat.le_of_ble_eq_true rfl
theorem oq220 {n0:Nat}(h0:((0:Int) < (n0:Int))):((n0 - (1:Nat)) < n0) := by grind
theorem oq221 {n0:Nat}{n1:Nat}(h0:(n0 ≤ n1)):((n0 - (1:Nat)) ≤ n1) := by grind
theorem oq222 {n0:Nat}(h0:((0:Int) < (n0:Int))):(n0 = ((n0 - (1:Nat)) + (1:Nat))) := by subst_vars; first | assumption | lia
theorem oq223 {n0:Nat}:((Int.toNat ((n0:Int) - (1:Int))) = (n0 - (1:Nat))) := by simp_all
theorem oq224 {n0:Nat}{n1:Nat}(h0:((0:Int) < (n0:Int)))(h1:(n0 ≤ n1)):((n0 - (1:Nat)) < n1) := by subst_vars; first | assumption | lia
theorem oq225 {n0:Nat}(h0:((n0:Int) = (0:Int))):(n0 = (0:Nat)) := Int.ofNat_eq_zero.mp h0
theorem oq226 {n0:Nat}(h0:((0:Int) < (n0:Int))):(((n0:Int) - (1:Int)) = (((n0 - (1:Nat)) : Nat) : Int)) := by subst_vars; omega
theorem oq227 {n0:Nat}(h0:(¬ (n0 = (0:Nat)))):(n0 = ((n0 - (1:Nat)) + (1:Nat))) := Eq.symm (Nat.succ_pred_eq_of_ne_zero h0)
theorem oq228 {n0:Nat}{n1:Nat}(h0:(¬ (n0 = (0:Nat))))(h1:(n0 ≤ n1)):((n0 - (1:Nat)) < n1) := by lia
theorem oq229 {n0:Nat}(h0:(¬ (n0 = (0:Nat)))):((0:Int) < (n0:Int)) := by subst_vars; omega
theorem oq230 {n0:Nat}(h0:((n0:Int) ≠ (0:Int))):((0:Nat) < n0) := Nat.zero_lt_of_ne_zero fun a => h0 (congrArg Nat.cast a)
theorem oq231 {n0:Nat}{n1:Nat}{n2:Nat}(h0:(n0 ≤ n1)):(n0 ≤ (n2 + n1)) := Nat.le_add_left_of_le h0
theorem oq232 {n0:Nat}(h0:((0:Int) < (n0:Int))):((0:Nat) < n0) := Int.natCast_pos.mp h0
theorem oq233 {n0:Nat}{n1:Nat}{n2:Nat}(h0:((n0 + n1) = n2))(h1:(n2 ≤ (1000:Nat))):(n0 ≤ (1000000:Nat)) := by subst_vars; first | assumption | lia
theorem oq234 {n0:Nat}(h0:(¬ ((0:Int) < (n0:Int)))):(n0 = (0:Nat)) := by simp_all
theorem oq235 {n0:Nat}{n1:Nat}:(((n0 - (1:Nat)) - n1) = (n0 - (n1 + (1:Nat)))) := by subst_vars; first | assumption | lia
theorem oq236 {n0:Nat}{n1:Nat}{n2:Nat}(h0:((n0 + n1) = n2))(h1:(n2 ≤ (64:Nat))):(n0 ≤ (1000000:Nat)) := by lia
theorem oq237 {n0:Nat}(h0:(n0 ≤ (64:Nat))):(n0 ≤ (1000000:Nat)) := Nat.le_trans h0 (by decide)
theorem oq238 {n0:Nat}(h0:((2:Nat) ≤ n0)):((1:Nat) ≤ n0) := Nat.le_of_lt h0
theorem oq239 {n0:Nat}{n1:Nat}:((n0 - n1) ≤ n0) := by simp_all
theorem oq240 {n0:Nat}{n1:Nat}(h0:(n0 < ((2:Nat) ^ 64)))(h1:(n1 ≤ n0)):(n1 < ((2:Nat) ^ 64)) := Nat.lt_of_le_of_lt h1 h0
theorem oq241 {n0:Nat}{n1:Nat}(h0:(n0 < n1)):((n1 - n0) = ((n1 - (n0 + (1:Nat))) + (1:Nat))) := by grind
theorem oq242 {n0:Nat}{n1:Nat}(h0:(n0 < n1)):((n1 - (n0 + (1:Nat))) < n1) := by subst_vars; omega
theorem oq243 {n0:Nat}{n1:Nat}(h0:((n0:Int) ≠ (n1:Int))):(n0 ≠ n1) := Ne.intro fun a => h0 (congrArg Nat.cast a)
theorem oq244 {n0:Nat}{n1:Nat}(h0:(n0 < n1)):((n0:Int) < (n1:Int)) := by simp_all
theorem oq245 {n0:Nat}{n1:Nat}(h0:(¬ (n0 < n1)))(h1:(n0 ≠ n1)):(n1 < n0) := by subst_vars; omega
theorem oq246 {n0:Nat}{n1:Nat}(h0:((n0:Int) = (n1:Int))):(n0 = n1) := Int.ofNat_inj.mp h0
theorem oq247 {n0:Nat}(h0:(n0 ≤ (64:Nat))):(((n0:Int) - (1:Int)) < ((2:Int) ^ 62)) := by subst_vars; omega
theorem oq248 {n0:Nat}:((-((2:Int) ^ 62)) ≤ ((n0:Int) - (1:Int))) := by subst_vars; first | assumption | lia
theorem oq249 :((-(1:Int)) < ((2:Int) ^ 62)) := by simp_all
theorem oq250 :((-((2:Int) ^ 62)) ≤ (-(1:Int))) := Int.le.intro_sub (Nat.succ 4611686018427387903 - Nat.succ 0) rfl
theorem oq251 {n0:Nat}:((0:Nat) ≤ n0) := Nat.zero_le n0
theorem oq252 {n0:Nat}{n1:Nat}:((Int.toNat (((n0:Int) - (1:Int)) - (n1:Int))) = (n0 - (n1 + (1:Nat)))) := by subst_vars; first | assumption | lia
theorem oq253 {n0:Nat}{n1:Nat}(h0:(n0 < (Int.toNat (((n1:Int) - (1:Int)) - (-(1:Int)))))):((n1 - n0) = ((n1 - (n0 + (1:Nat))) + (1:Nat))) := by lia
theorem oq254 {n0:Nat}{n1:Nat}(h0:(n0 < (Int.toNat (((n1:Int) - (1:Int)) - (-(1:Int)))))):((n1 - (n0 + (1:Nat))) < n1) := by grind
theorem oq255 {n0:Nat}{n1:Nat}{n2:Nat}(h0:(n0 = n1))(h1:(n2 < (Int.toNat (((n0:Int) - (1:Int)) - (-(1:Int)))))):((n0 - (n2 + (1:Nat))) < n1) := by subst_vars; omega
theorem oq256 {n0:Nat}{n1:Nat}(h0:(¬ (n0 < n1))):(¬ ((n0:Int) < (n1:Int))) := by simp_all
theorem oq257 {n0:Nat}{n1:Nat}(h0:((n0:Int) ≠ (n1:Int)))(h1:(¬ (n0 < n1))):(n1 < n0) := by subst_vars; first | assumption | lia
theorem oq258 {n0:Nat}{n1:Nat}(h0:(n0 < (Int.toNat (((n1:Int) - (1:Int)) - (-(1:Int)))))):((n0 + (1:Nat)) ≤ n1) := by grind
theorem oq259 {n0:Nat}:((n0 - (Int.toNat (((n0:Int) - (1:Int)) - (-(1:Int))))) = (0:Nat)) := by simp_all
theorem oq260 {n0:Nat}{n1:Nat}(h0:(n0 = n1)):(¬ (n0 < n1)) := by simp_all
theorem oq261 {n0:Nat}{n1:Nat}(h0:(n0 = n1)):(¬ (n1 < n0)) := by subst_vars; first | assumption | lia
theorem oq262 {n0:Nat}{n1:Nat}{n2:Nat}{n3:Nat}:(((n0 + n1) + (n2 + n3)) = ((n0 + n2) + (n1 + n3))) := Nat.add_add_add_comm n0 n1 n2 n3
theorem oq263 {n0:Nat}{n1:Nat}{n2:Nat}:(((n0 + n1) + n2) = ((n0 + n2) + n1)) := Nat.add_right_comm n0 n1 n2
theorem oq264 {n0:Nat}{n1:Nat}(h0:((n0:Int) < (n1:Int))):(n0 ≤ n1) := by subst_vars; omega
theorem oq265 {n0:Nat}{n1:Nat}(h0:(¬ ((n0:Int) < (n1:Int)))):(n1 ≤ n0) := by simp_all
theorem oq266 {n0:Nat}(h0:(n0 ≤ (64:Nat))):((n0:Int) < ((2:Int) ^ 62)) := by subst_vars; omega
theorem oq267 {n0:Nat}:((-((2:Int) ^ 62)) ≤ (n0:Int)) := Int.neg_ofNat_le_natCast (2 ^ 62) n0
theorem oq268 {n0:Nat}:((Int.toNat ((0:Int) + (n0:Int))) = n0) := by simp_all
theorem oq269 {n0:Nat}{n1:Nat}{n2:Nat}(h0:(n0 ≤ (64:Nat)))(h1:(n1 = n2))(h2:(n2 < (Int.toNat (n0:Int)))):(n1 ≤ (1000000:Nat)) := by subst_vars; first | assumption | lia
theorem oq270 {n0:Nat}{n1:Nat}{n2:Nat}(h0:(n0 ≤ n1))(h1:(n2 < (Int.toNat (n0:Int)))):(n2 < n1) := Nat.lt_of_lt_of_le h1 h0
theorem oq271 {n0:Nat}{n1:Nat}(h0:(n0 < (Int.toNat (n1:Int)))):(n0 < n1) := by subst_vars; first | assumption | lia
theorem oq272 {n0:Nat}{n1:Nat}:((Int.toNat ((n0:Int) + (n1:Int))) = (n0 + n1)) := Eq.symm (Nat.add_zero (n0.add n1))
theorem oq273 {n0:Nat}{n1:Nat}{n2:Nat}{n3:Nat}(h0:(n0 ≤ (64:Nat)))(h1:(n1 = (n2 + n3)))(h2:(n3 < (Int.toNat ((n0:Int) - (n2:Int))))):(n1 ≤ (1000000:Nat)) := by subst_vars; first | assumption | lia
theorem oq274 {n0:Nat}{n1:Nat}{n2:Nat}(h0:(n0 < (Int.toNat ((n1:Int) - (n2:Int))))):((n2 + n0) < n1) := by subst_vars; omega
theorem oq275 {n0:Nat}{n1:Nat}(h0:(n0 ≤ n1)):((n0 + (Int.toNat ((n1:Int) - (n0:Int)))) = n1) := by simp_all
theorem oq276 {n0:Nat}{n1:Nat}(h0:(n0 ≤ (64:Nat)))(h1:(n1 = n0)):(n1 ≤ (1000000:Nat)) := by subst_vars; first | assumption | lia
theorem oq277 {n0:Nat}{n1:Nat}{n2:Nat}(h0:(n0 ≤ (64:Nat)))(h1:(n1 = n2))(h2:(n2 < n0)):(n1 ≤ (1000000:Nat)) := by subst_vars; first | assumption | lia
theorem oq278 {n0:Nat}{n1:Nat}(h0:(n0 < n1)):(n0 < n1) := by subst_vars; first | assumption | lia
theorem oq279 {n0:Nat}{n1:Nat}(h0:(¬ (n0 < n1))):(n1 ≤ (n0 + (1:Nat))) := Nat.le_of_not_ge h0
theorem oq280 {n0:Nat}{n1:Nat}{n2:Nat}{n3:Nat}(h0:(n0 < (n1 + n2)))(h1:(n0 < n3)):(((n0 + n3) - (n1 + n2)) < n3) := by omega
theorem oq281 {n0:Nat}{n1:Nat}{n2:Nat}{n3:Nat}(h0:(n0 < n1))(h1:(n2 ≤ (1:Nat))):((n3 + n1) = (((n3 + n1) - (n2 + n0)) + (n2 + n0))) := by subst_vars; omega
theorem oq282 {n0:Nat}{n1:Nat}{n2:Nat}{n3:Nat}{n4:Nat}{n5:Nat}{n6:Nat}{n7:Nat}(h0:((n0 + n1) = (n2 + n3)))(h1:((n4 + n5) = (n6 + (n1 + n7)))):(((n0 + n4) + n5) = ((n2 + n6) + (n3 + n7))) := by grind
theorem oq283 {n0:Nat}{n1:Nat}{n2:Nat}{n3:Nat}(h0:(n0 < n1)):((n0 - (n2 + n3)) < n1) := Nat.sub_lt_of_lt h0
theorem oq284 {n0:Nat}{n1:Nat}{n2:Nat}(h0:(¬ (n0 < (n1 + n2)))):(n0 = ((n0 - (n1 + n2)) + (n1 + n2))) := by simp_all
theorem oq285 {n0:Nat}{n1:Nat}{n2:Nat}{n3:Nat}{n4:Nat}{n5:Nat}{n6:Nat}(h0:((n0 + n1) = (n2 + n3)))(h1:(n4 = (n5 + (n1 + n6)))):(((n0 + n4) + (0:Nat)) = ((n2 + n5) + (n3 + n6))) := by subst_vars; first | assumption | lia
theorem oq286 {n0:Nat}{n1:Nat}(h0:(n0 ≤ n1)):(¬ (n1 < n0)) := by subst_vars; omega
theorem oq287 {n0:Nat}{n1:Nat}(h0:(¬ (((0:Int) + (n0:Int)) < (n1:Int)))):(n1 ≤ n0) := by simp_all
theorem oq288 {n0:Nat}{n1:Nat}{n2:Nat}:(((((n0:Int) - (n1:Int)) - (n2:Int)) < (0:Int)) ↔ (n0 < (n1 + n2))) := by omega
theorem oq289 {n0:Nat}{n1:Nat}{n2:Nat}{n3:Nat}(h0:(n0 < n1))(h1:(n2 ≤ (1:Nat))):(((((n3 + n1) - (n2 + n0)) : Nat) : Int) = ((((n3:Int) - (n2:Int)) - (n0:Int)) + (n1:Int))) := by lia
theorem oq290 {n0:Nat}{n1:Nat}{n2:Nat}(h0:(¬ (n0 < (n1 + n2)))):((((n0 - (n1 + n2)) : Nat) : Int) = (((n0:Int) - (n1:Int)) - (n2:Int))) := by grind
theorem oq291 {n0:Nat}{n1:Nat}(h0:(n0 < n1))(h1:(n1 ≤ n0)):False := Nat.lt_irrefl _ <| Nat.lt_of_lt_of_le h0 h1
theorem oq292 {n0:Nat}(h0:(n0 < (1:Nat))):(n0 = (0:Nat)) := Nat.lt_one_iff.mp h0
theorem oq293 {n0:Nat}(h0:((1:Nat) ≤ n0))(h1:(n0 ≤ (1:Nat))):(n0 = (1:Nat)) := Nat.le_antisymm h1 h0
theorem oq294 {n0:Nat}{n1:Nat}{n2:Nat}{n3:Nat}(h0:((n0 + (n1 * (1:Nat))) = (n2 + n3)))(h1:(n2 < n1))(h2:(n3 ≤ n0)):False := by lia
theorem oq295 {n0:Nat}{n1:Nat}{n2:Nat}{n3:Nat}(h0:((n0 + (n1 * (0:Nat))) = (n2 + n3))):(n2 = (n0 - n3)) := Nat.eq_sub_of_add_eq (id (Eq.symm h0))
theorem oq296 {n0:Nat}{n1:Nat}(h0:(((0:Nat) < n0) ↔ ((0:Nat) < n1))):(((0:Int) < (n0:Int)) ↔ ((0:Nat) < n1)) := by simp_all
theorem oq297 {i0:Int}{i1:Int}(h0:(¬ (i0 < (0:Int))))(h1:(i1 < (0:Int))):(i1 < i0) := by grind
theorem oq298 {i0:Int}{i1:Int}(h0:(¬ (i0 < (0:Int))))(h1:(i1 < (0:Int))):(¬ (i0 < i1)) := by subst_vars; omega
theorem oq299 :((-(1:Int)) = (-(1:Int))) := by simp_all
theorem oq300 {i0:Int}{i1:Int}(h0:((Int.natAbs i0) < (Int.natAbs i1)))(h1:(¬ (i1 < i0)))(h2:(i1 < (0:Int))):False := by grind
theorem oq301 {i0:Int}{i1:Int}(h0:((Int.natAbs i0) < (Int.natAbs i1)))(h1:(¬ (i0 < i1)))(h2:(¬ (i1 < (0:Int)))):False := by grind
theorem oq302 {i0:Int}{i1:Int}(h0:((i0 < (0:Int)) ↔ (i1 < (0:Int))))(h1:(i0 < (0:Int))):((-((((Int.natAbs i0) + (Int.natAbs i1)) : Nat) : Int)) = (i0 + i1)) := by grind
theorem oq303 {i0:Int}{i1:Int}(h0:((i0 < (0:Int)) ↔ (i1 < (0:Int))))(h1:(¬ (i0 < (0:Int)))):(((((Int.natAbs i0) + (Int.natAbs i1)) : Nat) : Int) = (i0 + i1)) := by grind
theorem oq304 (h0:((1:Int) < (0:Int))):False := (Int.negSucc_not_nonneg 1).mp h0
theorem oq305 (h0:((0:Int) < (0:Int))):False := (Int.negSucc_not_nonneg 0).mp h0
theorem oq306 {i0:Int}{i1:Int}(h0:((Int.natAbs i0) < (Int.natAbs i1)))(h1:(¬ ((i0 < (0:Int)) ↔ (i1 < (0:Int)))))(h2:(i1 < (0:Int))):((-((((Int.natAbs i1) - (Int.natAbs i0)) : Nat) : Int)) = (i0 + i1)) := by grind
theorem oq307 {i0:Int}{i1:Int}(h0:((Int.natAbs i0) < (Int.natAbs i1)))(h1:(¬ ((i0 < (0:Int)) ↔ (i1 < (0:Int)))))(h2:(¬ (i1 < (0:Int)))):(((((Int.natAbs i1) - (Int.natAbs i0)) : Nat) : Int) = (i0 + i1)) := by subst_vars; omega
theorem oq308 (h0:(¬ ((-(1:Int)) < (0:Int)))):False := absurd (by decide) h0
theorem oq309 {i0:Int}{i1:Int}(h0:(¬ ((Int.natAbs i0) < (Int.natAbs i1)))):((Int.natAbs i1) ≤ (Int.natAbs i0)) := Nat.le_of_not_lt h0
theorem oq310 {i0:Int}{i1:Int}(h0:((Int.natAbs i0) ≤ (Int.natAbs i1)))(h1:(¬ ((i1 < (0:Int)) ↔ (i0 < (0:Int)))))(h2:(i1 < (0:Int))):((-((((Int.natAbs i1) - (Int.natAbs i0)) : Nat) : Int)) = (i1 + i0)) := by subst_vars; omega
theorem oq311 {i0:Int}{i1:Int}(h0:((Int.natAbs i0) ≤ (Int.natAbs i1)))(h1:(¬ ((i1 < (0:Int)) ↔ (i0 < (0:Int)))))(h2:(¬ (i1 < (0:Int)))):(((((Int.natAbs i1) - (Int.natAbs i0)) : Nat) : Int) = (i1 + i0)) := by grind
theorem oq312 {i0:Int}{i1:Int}:((i0 + (-i1)) = (i0 - i1)) := Int.add_neg_eq_sub
theorem oq313 {i0:Int}(h0:((Int.natAbs i0) = (0:Nat)))(h1:(i0 ≠ (0:Int))):False := by simp_all
theorem oq314 {i0:Int}(h0:(i0 ≤ (0:Int))):((i0 - (1:Int)) < (0:Int)) := Int.sub_one_lt_of_le h0
theorem oq315 {i0:Int}(h0:(i0 ≤ (0:Int))):((Int.natAbs (i0 - (1:Int))) = ((Int.natAbs i0) + (1:Nat))) := by lia
theorem oq316 {n0:Nat}(h0:(¬ ((0:Nat) < n0))):(n0 = (0:Nat)) := Nat.eq_zero_of_not_pos h0
theorem oq317 {i0:Int}(h0:((Int.natAbs i0) = (0:Nat))):(i0 = (0:Int)) := by grind
theorem oq318 {i0:Int}(h0:(¬ ((Int.natAbs i0) = (0:Nat)))):((0:Nat) < (Int.natAbs i0)) := Nat.zero_lt_of_ne_zero h0
theorem oq319 {n0:Nat}(h0:(n0 < ((2:Nat) ^ 60))):(n0 < ((2:Nat) ^ 64)) := Nat.lt_of_lt_of_le h0 (by decide)
theorem oq320 {n0:Nat}(h0:(n0 < ((2:Nat) ^ 30))):((Int.natAbs (n0:Int)) < ((2:Nat) ^ 64)) := Nat.lt_of_lt_of_le h0 (by decide)
theorem oq321 {i0:Int}(h0:((Int.natAbs i0) < ((2:Nat) ^ 30))):((Int.natAbs i0) < ((2:Nat) ^ 64)) := Nat.lt_of_lt_of_le h0 (by decide)
theorem oq322 {i0:Int}{n1:Nat}{i2:Int}{n3:Nat}(h0:((Int.natAbs i0) = n1))(h1:((Int.natAbs i2) = n3))(h2:(n1 < ((2:Nat) ^ 60)))(h3:(n3 < ((2:Nat) ^ 60))):(((Int.natAbs i0) + (Int.natAbs i2)) < ((2:Nat) ^ 64)) := by subst_vars; first | assumption | lia
theorem oq323 {i0:Int}(h0:(i0 < (0:Int))):(((0:Int) - i0) = (((Int.natAbs i0) : Nat) : Int)) := by subst_vars; first | assumption | lia
theorem oq324 {i0:Int}(h0:(((Int.natAbs i0) + (1:Nat)) < ((2:Nat) ^ 14))):((Int.natAbs i0) < ((2:Nat) ^ 20)) := Nat.le_of_lt <| Nat.lt_of_lt_of_le h0 (by decide)
theorem oq325 {n0:Nat}(h0:(n0 < ((2:Nat) ^ 14))):(n0 < ((2:Nat) ^ 20)) := Nat.lt_of_lt_of_le h0 (by decide)
theorem oq326 {n0:Nat}(h0:(n0 < ((2:Nat) ^ 14))):(((0:Nat) + n0) < ((2:Nat) ^ 19)) := Nat.add_le_add (by decide) h0
theorem oq327 {n0:Nat}(h0:(n0 < ((2:Nat) ^ 20))):((Int.natAbs (n0:Int)) < ((2:Nat) ^ 20)) := by subst_vars; first | assumption | lia
theorem oq328 {i0:Int}{n1:Nat}{n2:Nat}(h0:((Int.toNat i0) < n1))(h1:((n2 + n1) < ((2:Nat) ^ 19))):(((n2 + ((0:Nat) + (1:Nat))) + (Int.toNat i0)) < ((2:Nat) ^ 19)) := by subst_vars; first | assumption | lia
theorem oq329 {i0:Int}{n1:Nat}{n2:Nat}(h0:((Int.toNat i0) < n1))(h1:(n2 ≤ (Int.toNat i0))):((n2 + (1:Nat)) ≤ n1) := Nat.lt_of_le_of_lt h1 h0
theorem oq330 {i0:Int}{i1:Int}(h0:((Int.natAbs i0) < ((2:Nat) ^ 20)))(h1:((Int.natAbs i1) ≤ (Int.natAbs i0))):((Int.natAbs i1) < ((2:Nat) ^ 64)) := by subst_vars; omega
theorem oq331 {i0:Int}(h0:((Int.natAbs i0) < ((2:Nat) ^ 20))):((Int.natAbs i0) < ((2:Nat) ^ 64)) := Nat.lt_of_lt_of_le h0 (by decide)
theorem oq332 {n0:Nat}(h0:(n0 < ((2:Nat) ^ 40))):(n0 < ((2:Nat) ^ 64)) := Nat.lt_of_lt_of_le h0 (by decide)
theorem oq333 {n0:Nat}(h0:(n0 < ((2:Nat) ^ 40))):(n0 < ((2:Nat) ^ 62)) := Nat.lt_of_lt_of_le h0 (by decide)
theorem oq334 {i0:Int}(h0:((Int.natAbs i0) < ((2:Nat) ^ 20))):((Int.natAbs i0) < ((2:Nat) ^ 62)) := by grind
theorem oq335 {n0:Nat}{n1:Nat}{n2:Nat}(h0:(n0 < ((2:Nat) ^ 14)))(h1:(n1 < n2))(h2:(n2 ≤ n0)):(n1 < (1000000:Nat)) := by subst_vars; first | assumption | lia
theorem oq336 {n0:Nat}{n1:Nat}(h0:(n0 = n1))(h1:(n1 < (1000000:Nat))):(n0 ≤ (1000000:Nat)) := by subst_vars; first | assumption | lia
theorem oq337 {i0:Int}(h0:(((Int.natAbs i0) + (1:Nat)) < ((2:Nat) ^ 14))):(((Int.natAbs i0) + (1:Nat)) < ((2:Nat) ^ 20)) := Nat.lt_of_lt_of_le h0 (by decide)
theorem oq338 {n0:Nat}(h0:(n0 < ((2:Nat) ^ 14))):(n0 ≤ ((2:Nat) ^ 14)) := Nat.le_of_lt h0
theorem oq339 {i0:Int}(h0:((0:Int) < i0)):(i0 ≠ (0:Int)) := Ne.symm (Int.ne_of_lt h0)
theorem oq340 {i0:Int}{i1:Int}{n2:Nat}{n3:Nat}{i4:Int}(h0:((Int.natAbs (i0 - i1)) ≤ (n2 + n3)))(h1:((Int.natAbs i4) ≤ (Int.natAbs (i0 - i1))))(h2:(n2 < ((2:Nat) ^ 28)))(h3:(n3 < ((2:Nat) ^ 28))):((Int.natAbs i4) < ((2:Nat) ^ 30)) := by subst_vars; first | assumption | lia
theorem oq341 {i0:Int}{n1:Nat}{n2:Nat}(h0:((Int.natAbs i0) = n1))(h1:(n2 ≤ (Int.natAbs i0)))(h2:(n1 < ((2:Nat) ^ 28))):(n2 < ((2:Nat) ^ 30)) := by subst_vars; first | assumption | lia
theorem oq342 {i0:Int}(h0:((Int.natAbs i0) < ((2:Nat) ^ 14))):((Int.natAbs i0) < ((2:Nat) ^ 30)) := Nat.lt_of_lt_of_le h0 (by decide)
theorem oq343 {n0:Nat}(h0:(n0 < ((2:Nat) ^ 14))):(n0 < ((2:Nat) ^ 30)) := Nat.lt_of_lt_of_le h0 (by decide)
theorem oq344 {n0:Nat}(h0:(n0 < ((2:Nat) ^ 14))):(n0 < ((2:Nat) ^ 64)) := Nat.lt_of_lt_of_le h0 (by decide)
theorem oq345 {i0:Int}{i1:Int}:((i0 < i1) ∨ ((i0 = i1) ∨ (i1 < i0))) := Int.lt_trichotomy i0 i1
theorem oq346 {i0:Int}{i1:Int}(h0:(i0 = i1)):(¬ (i0 < i1)) := by omega
theorem oq347 {i0:Int}{i1:Int}(h0:(i0 = i1)):(¬ (i1 < i0)) := by subst_vars; first | assumption | lia
theorem oq348 :((-(1:Int)) ≤ (0:Int)) := (by decide)
theorem oq349 {n0:Nat}{n1:Nat}(h0:(n0 ≤ n1))(h1:(n1 < n0)):False := Nat.lt_irrefl _ <| Nat.lt_of_le_of_lt h0 h1
theorem oq350 :((0:Int) ≤ (0:Int)) := by subst_vars; omega
theorem oq351 {n0:Nat}{n1:Nat}(h0:(n0 ≤ n1)):((n0:Int) ≤ (n1:Int)) := by simp_all
theorem oq352 {n0:Nat}{n1:Nat}(h0:(¬ (n0 ≤ n1)))(h1:(n0 < n1)):False := by lia
theorem oq353 :(¬ ((1:Int) ≤ (0:Int))) := by subst_vars; omega
theorem oq354 {n0:Nat}{n1:Nat}(h0:(¬ (n0 ≤ n1)))(h1:(¬ (n1 < n0))):False := by simp_all
theorem oq355 {n0:Nat}{n1:Nat}(h0:(¬ (n0 ≤ n1))):(¬ ((n0:Int) ≤ (n1:Int))) := by subst_vars; omega
theorem oq356 {i0:Int}{i1:Int}(h0:(i0 < i1)):(¬ (i1 < i0)) := Int.lt_asymm h0
theorem oq357 {i0:Int}{i1:Int}(h0:(i0 < i1)):(¬ (i1 = i0)) := by subst_vars; first | assumption | lia
theorem oq358 {n0:Nat}(h0:(n0 < ((2:Nat) ^ 13))):(n0 < ((2:Nat) ^ 64)) := Nat.lt_of_lt_of_le h0 (by decide)
theorem oq359 {i0:Int}(h0:(((Int.natAbs i0) + (2:Nat)) < ((2:Nat) ^ 13))):(((Int.natAbs i0) + (1:Nat)) < ((2:Nat) ^ 14)) := Nat.le_of_lt <| Nat.lt_of_lt_of_le h0 (by decide)
theorem oq360 {n0:Nat}(h0:(n0 < ((2:Nat) ^ 13))):(n0 < ((2:Nat) ^ 14)) := Nat.lt_of_lt_of_le h0 (by decide)
theorem oq361 (h0:((1:Int) ≤ (0:Int))):False := by simp_all
theorem oq362 (h0:(¬ ((-(1:Int)) ≤ (0:Int)))):False := by subst_vars; omega
theorem oq363 (h0:(¬ ((0:Int) ≤ (0:Int)))):False := absurd (by decide) h0
theorem oq364 {i0:Int}(h0:(((Int.natAbs i0) + (2:Nat)) < ((2:Nat) ^ 13))):(((Int.natAbs i0) + (1:Nat)) < ((2:Nat) ^ 20)) := Nat.le_of_lt <| Nat.lt_of_lt_of_le h0 (by decide)
theorem oq365 {n0:Nat}(h0:(n0 < ((2:Nat) ^ 13))):(n0 < ((2:Nat) ^ 20)) := Nat.lt_of_lt_of_le h0 (by decide)
theorem oq366 {i0:Int}{i1:Int}(h0:((Int.natAbs i0) < ((2:Nat) ^ 62)))(h1:((Int.natAbs i1) < ((2:Nat) ^ 62))):((Int.natAbs (i0 + i1)) < ((2:Nat) ^ 64)) := by subst_vars; omega
theorem oq367 (h0:((0:Int) < (-(1:Int)))):False := by simp_all
theorem oq368 {i0:Int}{i1:Int}{n2:Nat}(h0:((1:Int) ≤ (i0 + i1)))(h1:(n2 < (Int.natAbs (i0 + i1)))):((n2:Int) < (i0 + i1)) := by grind
theorem oq369 {n0:Nat}(h0:((n0:Int) < ((0:Int) + (1:Int))))(h1:((1:Nat) ≤ n0)):False := by subst_vars; omega
theorem oq370 {n0:Nat}(h0:(n0 < ((2:Nat) ^ 14))):(n0 < ((2:Nat) ^ 62)) := Nat.lt_of_lt_of_le h0 (by decide)
theorem oq371 {i0:Int}{n1:Nat}(h0:((Int.natAbs i0) < ((2:Nat) ^ 20)))(h1:(n1 < ((2:Nat) ^ 14))):((Int.natAbs ((n1:Int) - i0)) < ((2:Nat) ^ 60)) := by omega
theorem oq372 {i0:Int}(h0:((Int.natAbs i0) < ((2:Nat) ^ 20))):((Int.natAbs i0) < ((2:Nat) ^ 60)) := Nat.lt_of_lt_of_le h0 (by decide)
theorem oq373 {i0:Int}{n1:Nat}(h0:((0:Int) ≤ i0))(h1:(n1 < ((2:Nat) ^ 14)))(h2:(i0 ≤ (n1:Int))):((Int.natAbs i0) < ((2:Nat) ^ 20)) := by grind
theorem oq374 {i0:Int}{n1:Nat}(h0:((0:Int) ≤ i0))(h1:((Int.natAbs (n1:Int)) < ((2:Nat) ^ 62)))(h2:(i0 ≤ (n1:Int))):((Int.natAbs i0) < ((2:Nat) ^ 64)) := by grind
theorem oq375 {n0:Nat}{n1:Nat}{i2:Int}(h0:(n0 < n1))(h1:(i2 ≤ (n0:Int))):(i2 ≤ (n1:Int)) := by lia
theorem oq376 {i0:Int}{i1:Int}(h0:(((Int.natAbs i0) + (2:Nat)) < ((2:Nat) ^ 13)))(h1:((Int.natAbs i1) ≤ ((Int.natAbs i0) + (1:Nat)))):((Int.natAbs i1) < ((2:Nat) ^ 14)) := by grind
theorem oq377 {i0:Int}{i1:Int}(h0:((1:Int) ≤ (i0 + i1))):((0:Int) ≤ (i0 + i1)) := Int.le_of_lt h0
theorem oq378 {i0:Int}{i1:Int}{n2:Nat}{n3:Nat}(h0:((i0 + i1) ≤ (n2:Int)))(h1:(n2 < n3)):((i0 + i1) ≤ (n3:Int)) := by lia
theorem oq379 {i0:Int}{i1:Int}{i2:Int}(h0:(((Int.natAbs i0) + (2:Nat)) < ((2:Nat) ^ 13)))(h1:((Int.natAbs (i1 + i2)) ≤ ((Int.natAbs i0) + (1:Nat)))):((Int.natAbs (i1 + i2)) < ((2:Nat) ^ 14)) := by subst_vars; first | assumption | lia
theorem oq380 {i0:Int}{n1:Nat}{n2:Nat}(h0:((1:Int) ≤ i0))(h1:(n1 < n2))(h2:(n2 < ((2:Nat) ^ 14)))(h3:(i0 ≤ (n1:Int))):((Int.natAbs i0) < ((2:Nat) ^ 14)) := by lia
theorem oq381 {i0:Int}{i1:Int}{n2:Nat}(h0:((1:Int) ≤ (i0 + i1)))(h1:((i0 + i1) ≤ (n2:Int)))(h2:(n2 < ((2:Nat) ^ 14))):((Int.natAbs (i0 + i1)) < ((2:Nat) ^ 14)) := by grind
theorem oq382 {i0:Int}(h0:(((Int.natAbs i0) + (2:Nat)) < ((2:Nat) ^ 13))):((Int.natAbs i0) < ((2:Nat) ^ 14)) := by subst_vars; first | assumption | lia
theorem oq383 {i0:Int}(h0:((1:Int) ≤ i0)):((((Int.natAbs i0) : Nat) : Int) = i0) := by subst_vars; omega
theorem oq384 {i0:Int}{i1:Int}(h0:((1:Int) ≤ (i0 + i1))):((((Int.natAbs (i0 + i1)) : Nat) : Int) = (i0 + i1)) := by subst_vars; first | assumption | lia
theorem oq385 {i0:Int}{i1:Int}{n2:Nat}(h0:((Int.natAbs (i0 + i1)) < n2)):((i0 + i1) ≤ (n2:Int)) := by subst_vars; first | assumption | lia
theorem oq386 (h0:(¬ ((0:Int) < (1:Int)))):False := by subst_vars; omega
theorem oq387 {n0:Nat}{i1:Int}{i2:Int}(h0:(¬ (n0 < (Int.natAbs (i1 + i2))))):((i1 + i2) ≤ (n0:Int)) := by lia
theorem oq388 {n0:Nat}{n1:Nat}{i2:Int}(h0:(n0 < n1))(h1:(i2 = (n1:Int)))(h2:(i2 ≤ (n0:Int))):False := by subst_vars; omega
theorem oq389 {i0:Int}{i1:Int}{i2:Int}{i3:Int}{i4:Int}{i5:Int}(h0:(i0 = i1))(h1:(i2 < i3))(h2:(i2 = i4))(h3:(i3 = i5))(h4:(i5 ≤ i0)):(i4 < i1) := by subst_vars; first | assumption | lia
theorem oq390 {i0:Int}{i1:Int}(h0:(i0 < i1)):(i0 ≤ i1) := Int.le_of_lt h0
theorem oq391 {i0:Int}{i1:Int}{i2:Int}{i3:Int}{i4:Int}{i5:Int}(h0:((i0 < i1) ∨ ((i0 = i1) ∧ (i2 ≤ i3))))(h1:(¬ (i4 < i5))):((i5 < i4) ∨ ((i5 = i4) ∧ ((i0 < i1) ∨ ((i0 = i1) ∧ (i2 ≤ i3))))) := by lia
theorem oq392 {i0:Int}{i1:Int}{i2:Int}{n3:Nat}(h0:((0:Int) ≤ i0))(h1:((i1 + i0) = i2))(h2:(i0 < (n3:Int))):((((Int.natAbs (i2 - i1)) : Nat) : Int) ≤ (n3:Int)) := by subst_vars; first | assumption | lia
theorem oq393 {i0:Int}{i1:Int}{i2:Int}{n3:Nat}(h0:((0:Int) ≤ i0))(h1:((i1 + i0) = i2))(h2:(i0 < (n3:Int))):((((Int.natAbs (i2 - (i1 + ((n3:Int) * (1:Int))))) : Nat) : Int) ≤ (n3:Int)) := by subst_vars; omega
theorem oq394 {i0:Int}{n1:Nat}(h0:(i0 ≤ (n1:Int))):(i0 ≤ ((n1:Int) + (1:Int))) := Int.le_add_one h0
theorem oq395 {n0:Nat}:((1:Int) ≤ ((n0:Int) + (1:Int))) := by subst_vars; first | assumption | lia
theorem oq396 {n0:Nat}:(((n0:Int) + (1:Int)) ≤ ((n0:Int) + (1:Int))) := Int.le_refl (↑n0 + 1)
theorem oq397 {i0:Int}{i1:Int}{i2:Int}(h0:(i0 < i1))(h1:(i2 < i0)):(i2 < i1) := Int.lt_trans h1 h0
theorem oq398 {i0:Int}{i1:Int}{i2:Int}(h0:(i0 < i1))(h1:(i2 = i0)):(i2 < i1) := lt_of_eq_of_lt h1 h0
theorem oq399 {i0:Int}{i1:Int}:((i0 < i1) ∨ ((i0 = i1) ∨ ((i0 = (i1 + (1:Int))) ∨ ((i1 + (1:Int)) < i0)))) := by omega
theorem oq400 {i0:Int}{i1:Int}(h0:(i0 < i1)):(i1 ≠ i0) := Int.ne_of_gt h0
theorem oq401 {i0:Int}{i1:Int}:(i0 = ((i1 - ((i1 - i0) - (1:Int))) - (1:Int))) := by subst_vars; first | assumption | lia
theorem oq402 {i0:Int}{i1:Int}(h0:(i0 < i1)):((0:Int) ≤ ((i1 - i0) - (1:Int))) := by subst_vars; first | assumption | lia
theorem oq403 {i0:Int}{i1:Int}{i2:Int}{i3:Int}{i4:Int}{n5:Nat}(h0:((0:Int) ≤ i0))(h1:((0:Int) ≤ i1))(h2:((i2 + i1) = i3))(h3:(i4 = ((i2 - i0) - (n5:Int))))(h4:(i1 < (n5:Int))):((((Int.natAbs (i3 - i2)) : Nat) : Int) < (((Int.natAbs (i3 - i4)) : Nat) : Int)) := by subst_vars; first | assumption | lia
theorem oq404 {i0:Int}{i1:Int}(h0:((i0 + (1:Int)) < i1)):((i0 + (1:Int)) ≠ i1) := Int.ne_of_lt h0
theorem oq405 {i0:Int}{i1:Int}:(i0 = ((i1 + (2:Int)) + ((i0 - i1) - (2:Int)))) := by subst_vars; first | assumption | lia
theorem oq406 {i0:Int}{i1:Int}(h0:((i0 + (1:Int)) < i1)):((0:Int) ≤ ((i1 - i0) - (2:Int))) := by subst_vars; first | assumption | lia
theorem oq407 {i0:Int}{n1:Nat}{i2:Int}{i3:Int}{i4:Int}{i5:Int}(h0:((0:Int) ≤ i0))(h1:((0:Nat) < n1))(h2:((i2 + i3) = i4))(h3:(i5 = (((i2 + (n1:Int)) + (n1:Int)) + i0)))(h4:(i3 < (n1:Int))):((((Int.natAbs (i4 - (i2 + ((n1:Int) * (1:Int))))) : Nat) : Int) < (((Int.natAbs (i4 - i5)) : Nat) : Int)) := by subst_vars; first | assumption | lia
theorem oq408 {i0:Int}(h0:((Int.natAbs i0) < ((2:Nat) ^ 12))):((Int.natAbs i0) < ((2:Nat) ^ 30)) := Nat.lt_of_lt_of_le h0 (by decide)
theorem oq409 {i0:Int}{i1:Int}(h0:((Int.natAbs i0) < ((2:Nat) ^ 30)))(h1:((Int.natAbs i1) ≤ (Int.natAbs i0))):((Int.natAbs i1) < ((2:Nat) ^ 64)) := by subst_vars; omega
theorem oq410 {i0:Int}{n1:Nat}(h0:((Int.natAbs i0) < ((2:Nat) ^ 30)))(h1:(n1 ≤ (Int.natAbs i0))):(n1 < (1073741824:Nat)) := Nat.lt_of_le_of_lt h1 h0
theorem oq411 :((1:Int) < ((2:Int) ^ 62)) := by simp_all
theorem oq412 :((-((2:Int) ^ 62)) ≤ (1:Int)) := Int.neg_ofNat_le_ofNat (2 ^ 62) 1
theorem oq413 {n0:Nat}(h0:(n0 < ((2:Nat) ^ 10))):(((n0:Int) + (1:Int)) < ((2:Int) ^ 62)) := by subst_vars; omega
theorem oq414 {n0:Nat}:((-((2:Int) ^ 62)) ≤ ((n0:Int) + (1:Int))) := Int.neg_ofNat_le_ofNat (2 ^ 62) (n0 + 1)
theorem oq415 {i0:Int}(h0:((1:Int) ≤ i0))(h1:(i0 ≤ (((0:Nat) : Nat) : Int))):False := Int.lt_irrefl _ <| Int.lt_of_lt_of_le h0 h1
theorem oq416 (h0:((0:Nat) < (0:Nat))):False := Nat.not_succ_le_zero 0 h0
theorem oq417 (h0:((1:Nat) < (0:Nat))):False := Nat.not_succ_le_zero 1 h0
theorem oq418 {n0:Nat}{n1:Nat}(h0:(n0 < (Int.toNat (((n1:Int) + (1:Int)) - (1:Int))))):(n0 < n1) := by simp_all
theorem oq419 {n0:Nat}:(((1:Int) + (n0:Int)) = (((n0 + (1:Nat)) : Nat) : Int)) := by subst_vars; first | assumption | lia
theorem oq420 :((0:Nat) ≤ (2:Nat)) := Nat.zero_le 2
theorem oq421 {n0:Nat}(h0:(n0 ≤ (2:Nat))):((n0 = (0:Nat)) ∨ ((n0 = (1:Nat)) ∨ (n0 = (2:Nat)))) := by subst_vars; first | assumption | lia
theorem oq422 {i0:Int}:(i0 = (i0 + (((0:Nat) : Nat) : Int))) := by simp_all
theorem oq423 :((0:Nat) < (2:Nat)) := Nat.zero_lt_two
theorem oq424 {i0:Int}:((i0 + (1:Int)) = (i0 + (((1:Nat) : Nat) : Int))) := by simp_all
theorem oq425 :((1:Nat) < (2:Nat)) := by simp_all
theorem oq426 {n0:Nat}:((((n0 + (1:Nat)) : Nat) : Int) = ((n0:Int) + (1:Int))) := by simp_all
theorem oq427 {n0:Nat}(h0:(n0 < (2:Nat))):((n0 = (0:Nat)) ∨ (n0 = (1:Nat))) := by subst_vars; first | assumption | lia
theorem oq428 {i0:Int}{i1:Int}(h0:(i0 = (i1 + (((0:Nat) : Nat) : Int)))):(i0 = i1) := by simp_all
theorem oq429 {i0:Int}{i1:Int}(h0:(i0 = (i1 + (((1:Nat) : Nat) : Int)))):(i0 = (i1 + (1:Int))) := by omega
theorem oq430 :((0:Nat) < ((0:Nat) + (1:Nat))) := Nat.zero_lt_succ 0
theorem oq431 {n0:Nat}:(((n0:Int) + (1:Int)) = (((n0 + (1:Nat)) : Nat) : Int)) := by simp_all
theorem oq432 (h0:((1:Nat) < ((0:Nat) + (1:Nat)))):False := by subst_vars; first | assumption | lia
theorem oq433 :((0:Nat) < ((1:Nat) + (1:Nat))) := by simp_all
theorem oq434 (h0:((1:Nat) < (1:Nat))):False := by simp_all
theorem oq435 :((1:Nat) < ((1:Nat) + (1:Nat))) := Nat.one_lt_succ_succ 0
theorem oq436 :((0:Nat) < (1:Nat)) := Nat.one_pos
theorem oq437 {i0:Int}{n1:Nat}{i2:Int}{i3:Int}(h0:((1:Int) ≤ i0))(h1:(i0 ≤ (n1:Int))):(((1:Int) ≤ i0) ∧ ((i0 < (((n1 + (1:Nat)) : Nat) : Int)) ∨ ((i0 = (((n1 + (1:Nat)) : Nat) : Int)) ∧ (i2 ≤ i3)))) := by omega
theorem oq438 {i0:Int}{n1:Nat}:(i0 ≤ (i0 + (n1:Int))) := Int.le.intro n1 rfl
theorem oq439 {n0:Nat}(h0:((1:Nat) < n0))(h1:(n0 < (2:Nat))):False := Nat.lt_irrefl _ <| Nat.lt_of_le_of_lt h0 h1
theorem oq440 {i0:Int}{i1:Int}(h0:((Int.natAbs i0) < ((2:Nat) ^ 12)))(h1:((Int.natAbs i1) ≤ (Int.natAbs i0))):((Int.natAbs i1) < ((2:Nat) ^ 14)) := by subst_vars; omega
theorem oq441 {n0:Nat}{n1:Nat}(h0:(n0 < ((2:Nat) ^ 10)))(h1:(n1 < (Int.toNat (((n0:Int) + (1:Int)) - (1:Int))))):((n1 + (1:Nat)) < ((2:Nat) ^ 14)) := by subst_vars; first | assumption | lia
theorem oq442 {i0:Int}{i1:Int}{n2:Nat}{i3:Int}{n4:Nat}(h0:((Int.natAbs i0) ≤ (Int.natAbs i1)))(h1:((Int.natAbs i1) = n2))(h2:(i3 = (i0 + (n4:Int))))(h3:(n2 < ((2:Nat) ^ 28)))(h4:(n4 ≤ (2:Nat))):((Int.natAbs i3) < ((2:Nat) ^ 64)) := by subst_vars; omega
theorem oq443 {i0:Int}{i1:Int}{i2:Int}{i3:Int}{n4:Nat}(h0:((((Int.natAbs (i0 - i1)) : Nat) : Int) = i2))(h1:((Int.natAbs i3) < ((2:Nat) ^ 30)))(h2:(i2 ≤ (n4:Int)))(h3:(n4 ≤ (Int.natAbs i3))):((Int.natAbs i2) < ((2:Nat) ^ 64)) := by lia
theorem oq444 {n0:Nat}(h0:(n0 < (2:Nat))):((n0 + (1:Nat)) ≤ (2:Nat)) := by subst_vars; first | assumption | lia
theorem oq445 {n0:Nat}:((1:Int) ≤ (((n0 + (1:Nat)) : Nat) : Int)) := by subst_vars; first | assumption | lia
theorem oq446 {i0:Int}{i1:Int}{n2:Nat}(h0:((0:Int) ≤ i0))(h1:((Int.natAbs i1) < ((2:Nat) ^ 30)))(h2:(i0 ≤ (n2:Int)))(h3:(n2 ≤ (Int.natAbs i1))):((Int.natAbs i0) < ((2:Nat) ^ 64)) := by subst_vars; first | assumption | lia
theorem oq447 {i0:Int}{n1:Nat}(h0:(i0 ≤ (n1:Int))):(i0 ≤ (((n1 + (1:Nat)) : Nat) : Int)) := by subst_vars; first | assumption | lia
theorem oq448 {n0:Nat}:(((n0:Int) + (1:Int)) ≤ (((n0 + (1:Nat)) : Nat) : Int)) := Int.le_refl (↑n0 + 1)
theorem oq449 {i0:Int}{n1:Nat}(h0:(¬ (i0 ≤ (n1:Int))))(h1:(i0 ≤ (((n1 + (1:Nat)) : Nat) : Int))):(i0 = ((n1:Int) + (1:Int))) := by subst_vars; first | assumption | lia
theorem oq450 {n0:Nat}:((Int.toNat (((n0:Int) + (1:Int)) - (1:Int))) = n0) := by simp_all
theorem oq451 {n0:Nat}(h0:((1:Nat) ≤ n0)):((1:Int) ≤ (n0:Int)) := Int.toNat_le.mp h0
theorem oq452 {i0:Int}{n1:Nat}(h0:(i0 ≤ (n1:Int))):(i0 ≤ (n1:Int)) := by subst_vars; first | assumption | lia
theorem oq453 {i0:Int}(h0:((1:Int) ≤ i0)):((Int.toNat i0) = (Int.natAbs i0)) := by grind
theorem oq454 {i0:Int}{n1:Nat}(h0:((1:Int) ≤ i0))(h1:(n1 < ((2:Nat) ^ 10)))(h2:(i0 ≤ (n1:Int))):((Int.natAbs i0) < ((2:Nat) ^ 14)) := by subst_vars; omega
theorem oq455 {i0:Int}{n1:Nat}{i2:Int}(h0:((Int.natAbs i0) = n1))(h1:((Int.natAbs i2) ≤ (Int.natAbs i0)))(h2:(n1 < ((2:Nat) ^ 28))):((Int.natAbs i2) < ((2:Nat) ^ 30)) := by lia
theorem oq456 {i0:Int}{n1:Nat}{i2:Int}(h0:((Int.natAbs i0) = n1))(h1:((Int.natAbs i2) ≤ (Int.natAbs i0)))(h2:(n1 < ((2:Nat) ^ 28))):((Int.natAbs (i2 + (1:Int))) < ((2:Nat) ^ 30)) := by grind
theorem oq457 {i0:Int}{n1:Nat}(h0:((1:Int) ≤ i0))(h1:(n1 < ((2:Nat) ^ 10)))(h2:(i0 ≤ (n1:Int))):((Int.natAbs i0) < ((2:Nat) ^ 30)) := by grind
theorem oq458 {n0:Nat}(h0:(n0 < ((2:Nat) ^ 10))):(n0 < ((2:Nat) ^ 64)) := Nat.lt_of_lt_of_le h0 (by decide)
theorem oq459 {i0:Int}{i1:Int}{n2:Nat}(h0:((Int.natAbs i0) ≤ (Int.natAbs i1))):((Int.natAbs i0) ≤ ((Int.natAbs i1) + n2)) := Nat.le_add_right_of_le h0
theorem oq460 {i0:Int}{n1:Nat}{n2:Nat}(h0:((Int.natAbs i0) ≤ n1))(h1:(n1 < n2)):((Int.natAbs i0) ≤ n2) := by subst_vars; first | assumption | lia
theorem oq461 {i0:Int}{n1:Nat}{i2:Int}(h0:((Int.natAbs i0) ≤ n1)):((Int.natAbs i0) ≤ ((Int.natAbs i2) + n1)) := Nat.le_add_left_of_le h0
theorem oq462 {i0:Int}{i1:Int}(h0:((Int.natAbs i0) = (Int.natAbs i1)))(h1:((i0 < (0:Int)) ↔ (i1 < (0:Int)))):(i0 = i1) := by subst_vars; first | assumption | lia
theorem oq463 {i0:Int}{i1:Int}(h0:((Int.natAbs i0) < ((2:Nat) ^ 12)))(h1:((Int.natAbs i1) ≤ (Int.natAbs i0))):(((Int.natAbs i1) + (1:Nat)) < ((2:Nat) ^ 14)) := by grind
theorem oq464 {i0:Int}{n1:Nat}(h0:((Int.natAbs i0) < ((2:Nat) ^ 12)))(h1:(n1 ≤ (Int.natAbs i0))):(n1 < ((2:Nat) ^ 14)) := by lia
theorem oq465 {n0:Nat}{n1:Nat}(h0:((n0 + n1) < ((2:Nat) ^ 19))):(n1 < (1073741824:Nat)) := by subst_vars; first | assumption | lia
theorem oq466 {n0:Nat}{n1:Nat}(h0:((n0 + n1) < ((2:Nat) ^ 19))):(n0 ≤ (1000000:Nat)) := by subst_vars; first | assumption | lia
theorem oq467 {n0:Nat}{n1:Nat}(h0:(n0 < ((2:Nat) ^ 14)))(h1:(n1 ≤ n0)):(n1 ≤ (1000000:Nat)) := by grind
theorem oq468 {i0:Int}{i1:Int}{n2:Nat}(h0:(((Int.natAbs i0) + (1:Nat)) < ((2:Nat) ^ 14)))(h1:((Int.natAbs i1) ≤ ((Int.natAbs i0) + n2)))(h2:(n2 < ((2:Nat) ^ 14))):((Int.natAbs i1) < ((2:Nat) ^ 64)) := by subst_vars; first | assumption | lia
theorem oq469 {n0:Nat}:((Int.toNat ((-(1:Int)) + (n0:Int))) = (n0 - (1:Nat))) := by subst_vars; first | assumption | lia
theorem oq470 {n0:Nat}(h0:((1:Nat) ≤ n0)):((n0 - (1:Nat)) < n0) := Nat.sub_one_lt_of_lt h0
theorem oq471 {n0:Nat}(h0:((1:Nat) ≤ n0)):(((n0 - (1:Nat)) + (1:Nat)) = n0) := Nat.sub_add_cancel h0
theorem oq472 {n0:Nat}(h0:((1:Nat) ≤ n0)):((-(n0:Int)) ≤ (-(1:Int))) := by subst_vars; first | assumption | lia
theorem oq473 {i0:Int}{i1:Int}(h0:((Int.natAbs i0) < ((2:Nat) ^ 12)))(h1:((Int.natAbs i1) ≤ (Int.natAbs i0))):(((Int.natAbs i1) + (1:Nat)) < ((2:Nat) ^ 20)) := by subst_vars; first | assumption | lia
theorem oq474 {i0:Int}{n1:Nat}(h0:((Int.natAbs i0) < ((2:Nat) ^ 12)))(h1:(n1 ≤ (Int.natAbs i0))):(n1 < ((2:Nat) ^ 20)) := by subst_vars; omega
theorem oq475 {i0:Int}{i1:Int}(h0:(((i0 - i1) = (1:Int)) ∨ ((i0 - i1) = (-(1:Int))))):((((Int.natAbs (i1 - i0)) : Nat) : Int) = (1:Int)) := by grind
theorem oq476 {n0:Nat}(h0:(n0 ≤ (36:Nat))):(n0 < ((2:Nat) ^ 64)) := Nat.lt_of_le_of_lt h0 (by decide)
theorem oq477 {n0:Nat}{n1:Nat}{n2:Nat}{n3:Nat}(h0:((n0 + n1) = n2))(h1:(n3 ≤ n1)):(n3 ≤ n2) := by subst_vars; first | assumption | lia
theorem oq478 {n0:Nat}{n1:Nat}(h0:(n0 < ((2:Nat) ^ 60)))(h1:(n1 ≤ n0)):(n1 < ((2:Nat) ^ 64)) := by subst_vars; omega
theorem oq479 {n0:Nat}{n1:Nat}(h0:(n0 ≤ (36:Nat)))(h1:(n1 < n0)):(n1 < ((2:Nat) ^ 64)) := by subst_vars; first | assumption | lia
theorem oq480 {n0:Nat}{n1:Nat}{n2:Nat}(h0:((n0 + n1) = n2))(h1:(n2 ≤ (60:Nat))):(n0 ≤ (1000000:Nat)) := by subst_vars; first | assumption | lia
theorem oq481 {n0:Nat}{n1:Nat}(h0:(n0 ≤ (36:Nat)))(h1:(n1 < n0)):((n1:Int) < ((2:Int) ^ 63)) := by subst_vars; omega
theorem oq482 {n0:Nat}{n1:Nat}(h0:(n0 ≤ (36:Nat)))(h1:(n1 < n0)):(n1 < (36:Nat)) := Nat.lt_of_lt_of_le h1 h0
theorem oq483 {n0:Nat}(h0:(n0 ≤ (60:Nat))):(n0 ≤ (1000000:Nat)) := Nat.le_trans h0 (by decide)
theorem oq484 {n0:Nat}{n1:Nat}(h0:(¬ (n0 = n1))):((n0:Int) ≠ (n1:Int)) := Nat.ToInt.of_diseq rfl rfl h0
theorem oq485 {n0:Nat}{n1:Nat}{n2:Nat}{n3:Nat}(h0:((n0 + n1) ≤ n2))(h1:(n3 ≤ n0)):(n3 ≤ n2) := by lia
theorem oq486 {n0:Nat}{n1:Nat}(h0:(n0 ≤ (60:Nat)))(h1:(n1 ≤ (1:Nat))):((n1 + n0) ≤ (1000000:Nat)) := by lia
theorem oq487 {n0:Nat}{n1:Nat}(h0:(n0 ≤ (60:Nat)))(h1:(n1 ≤ (1:Nat))):(((n1 + n0) + ((0:Nat) + (1:Nat))) ≤ (1000000:Nat)) := by subst_vars; first | assumption | lia
theorem oq488 {n0:Nat}{n1:Nat}{n2:Nat}(h0:(n0 ≤ (60:Nat)))(h1:(n1 ≤ (60:Nat)))(h2:(n2 ≤ (1:Nat))):((((n2 + n0) + ((0:Nat) + (1:Nat))) + n1) ≤ (1000000:Nat)) := by subst_vars; first | assumption | lia
theorem oq489 {n0:Nat}(h0:(n0 ≤ (1000:Nat))):(n0 ≤ (1000000:Nat)) := Nat.le_trans h0 (by decide)
theorem oq490 {n0:Nat}(h0:((n0:Int) = (0:Int)))(h1:((0:Nat) < n0)):False := by simp_all
theorem oq491 {n0:Nat}{n1:Nat}{n2:Nat}{n3:Nat}(h0:((n0 + n1) ≤ n2))(h1:(n2 < ((2:Nat) ^ 60)))(h2:(n3 ≤ n0)):(n3 < ((2:Nat) ^ 64)) := by lia
theorem oq492 {n0:Nat}{n1:Nat}{n2:Nat}(h0:((n0 + n1) ≤ n2))(h1:(n2 < ((2:Nat) ^ 60))):(n0 < ((2:Nat) ^ 64)) := by lia
theorem oq493 {n0:Nat}(h0:(n0 < (36:Nat))):(n0 < ((2:Nat) ^ 64)) := Nat.lt_of_lt_of_le h0 (by decide)
theorem oq494 {n0:Nat}:((48:Nat) ≤ ((48:Nat) + n0)) := Nat.le_add_right 48 n0
theorem oq495 {n0:Nat}:((48:Nat) ≤ ((87:Nat) + n0)) := by subst_vars; first | assumption | lia
theorem oq496 {n0:Nat}(h0:(n0 < (10:Nat))):(((48:Nat) + n0) ≠ (63:Nat)) := by subst_vars; first | assumption | lia
theorem oq497 {n0:Nat}:(((87:Nat) + n0) ≠ (63:Nat)) := by subst_vars; first | assumption | lia
theorem oq498 {n0:Nat}(h0:((48:Nat) ≤ n0))(h1:(n0 = (47:Nat))):False := by simp_all
theorem oq499 {n0:Nat}(h0:((48:Nat) ≤ n0)):(¬ (n0 = (45:Nat))) := by omega
theorem oq500 {n0:Nat}(h0:(n0 ≤ (400:Nat))):(n0 ≤ (1000000:Nat)) := Nat.le_trans h0 (by decide)
theorem oq501 {n0:Nat}(h0:(n0 ≤ (400:Nat))):(n0 ≤ (999999:Nat)) := Nat.le_trans h0 (by decide)
theorem oq502 {n0:Nat}{n1:Nat}(h0:(n0 ≤ (400:Nat)))(h1:(n1 ≤ (400:Nat))):((n0 + (n1 + (1:Nat))) ≤ (1000000:Nat)) := by subst_vars; first | assumption | lia
theorem oq503 {n0:Nat}{n1:Nat}(h0:(n0 ≤ (400:Nat)))(h1:(n1 ≤ (400:Nat))):((n0 + (n1 + (1:Nat))) ≤ (999999:Nat)) := by subst_vars; first | assumption | lia
theorem oq504 {n0:Nat}(h0:(n0 ≤ (400:Nat))):(n0 ≤ (1000:Nat)) := by grind
theorem oq505 {n0:Nat}(h0:((n0:Int) < (0:Int))):False := (Int.negSucc_not_nonneg n0).mp h0
theorem oq506 {n0:Nat}{n1:Nat}{n2:Nat}:((n0 + (n1 + (n2 + (1:Nat)))) = (((n0 + n1) + (1:Nat)) + n2)) := by subst_vars; first | assumption | lia
theorem oq507 {n0:Nat}{n1:Nat}:(n0 ≤ ((n0 + (1:Nat)) + n1)) := by subst_vars; first | assumption | lia
theorem oq508 {n0:Nat}{n1:Nat}(h0:((n0:Int) = ((((n0 + (1:Nat)) + n1) : Nat) : Int))):False := by subst_vars; omega
theorem oq509 {n0:Nat}{n1:Nat}:((n0 + (1:Nat)) ≤ ((n0 + (1:Nat)) + n1)) := Nat.le_add_right (n0 + 1) n1
theorem oq510 {n0:Nat}:((((0:Nat) * n0) + (1:Nat)) < ((2:Nat) ^ 60)) := by simp_all
theorem oq511 {n0:Nat}:((((0:Nat) * n0) + (0:Nat)) < ((2:Nat) ^ 60)) := by subst_vars; first | assumption | lia
theorem oq512 {i0:Int}(h0:((0:Int) < i0))(h1:((0:Int) ≤ (-i0))):False := by subst_vars; omega
theorem oq513 {i0:Int}{i1:Int}(h0:(((0:Int) < (-i0)) ↔ ((0:Int) < (-i1)))):((i0 < (0:Int)) ↔ (i1 < (0:Int))) := by simp_all
theorem oq514 {i0:Int}(h0:((Int.natAbs i0) < ((2:Nat) ^ 10))):((Int.natAbs i0) < ((2:Nat) ^ 64)) := Nat.lt_of_lt_of_le h0 (by decide)
theorem oq515 {i0:Int}(h0:((Int.natAbs i0) < ((2:Nat) ^ 10))):((Int.natAbs i0) < ((2:Nat) ^ 30)) := Nat.lt_of_lt_of_le h0 (by decide)
theorem oq516 {i0:Int}{i1:Int}(h0:((Int.natAbs i0) ≤ (Int.natAbs i1)))(h1:((Int.natAbs i1) < ((2:Nat) ^ 30))):((Int.natAbs i0) < ((2:Nat) ^ 30)) := Nat.lt_of_le_of_lt h0 h1
theorem oq517 {i0:Int}{n1:Nat}(h0:((Int.natAbs i0) < ((2:Nat) ^ 30)))(h1:(n1 ≤ (Int.natAbs i0))):(n1 < ((2:Nat) ^ 30)) := Nat.lt_of_le_of_lt h1 h0
theorem oq518 {i0:Int}(h0:((Int.natAbs i0) < ((2:Nat) ^ 10))):((Int.natAbs i0) ≤ ((2:Nat) ^ 10)) := Nat.le_of_lt h0
theorem oq519 {i0:Int}{i1:Int}(h0:((Int.natAbs i0) < ((2:Nat) ^ 20)))(h1:((Int.natAbs i1) < ((2:Nat) ^ 20))):((Int.natAbs (i0 + i1)) < ((2:Nat) ^ 30)) := by subst_vars; omega
theorem oq520 {i0:Int}{i1:Int}(h0:((Int.natAbs i0) < ((2:Nat) ^ 20)))(h1:((Int.natAbs i1) < ((2:Nat) ^ 20))):((Int.natAbs (i0 - i1)) < ((2:Nat) ^ 30)) := by subst_vars; omega
theorem oq521 {i0:Int}(h0:((Int.natAbs i0) < ((2:Nat) ^ 20))):((Int.natAbs i0) < ((2:Nat) ^ 30)) := Nat.lt_of_lt_of_le h0 (by decide)
theorem oq522 {n0:Nat}(h0:((2:Nat) ≤ n0)):(¬ ((1:Nat) = n0)) := Nat.ne_of_lt h0
theorem oq523 {i0:Int}{i1:Int}(h0:((0:Int) < (i0 - i1)))(h1:(i0 < i1)):False := by subst_vars; first | assumption | lia
theorem oq524 {i0:Int}{i1:Int}(h0:(i0 < i1)):((i0 - i1) < (0:Int)) := Int.sub_neg_of_lt h0
theorem oq525 {i0:Int}{i1:Int}(h0:((0:Int) < (i0 - i1)))(h1:(i0 = i1)):False := by omega
theorem oq526 {i0:Int}{i1:Int}(h0:((i0 - i1) < (0:Int)))(h1:(i0 = i1)):False := by omega
theorem oq527 {i0:Int}{i1:Int}(h0:(i0 < i1)):(i0 < i1) := by subst_vars; first | assumption | lia
theorem oq528 {i0:Int}{i1:Int}(h0:(i0 < i1)):((0:Int) < (i1 - i0)) := Int.sub_pos_of_lt h0
theorem oq529 {i0:Int}{i1:Int}(h0:((i0 - i1) < (0:Int)))(h1:(i1 < i0)):False := by grind
theorem oq530 {n0:Nat}{n1:Nat}:((n0 + (n1 + (1:Nat))) = ((n0 + (1:Nat)) + n1)) := Eq.symm (Nat.succ_add_eq_add_succ n0 n1)
theorem oq531 {n0:Nat}{n1:Nat}(h0:(n0 ≤ (1000:Nat)))(h1:(n1 ≤ (1000:Nat))):(((n0 + (1:Nat)) + n1) ≤ (1000000:Nat)) := by subst_vars; first | assumption | lia
theorem oq532 {n0:Nat}{n1:Nat}(h0:(((((n0 + (1:Nat)) + n1) : Nat) : Int) = (0:Int))):False := by subst_vars; omega
theorem oq533 {n0:Nat}{n1:Nat}{n2:Nat}{n3:Nat}(h0:((n0 + n1) ≤ n2))(h1:(n3 ≤ n0))(h2:(n2 < ((2:Nat) ^ 60))):(n3 < ((2:Nat) ^ 64)) := by omega
theorem oq534 {n0:Nat}{n1:Nat}{n2:Nat}(h0:(n0 = ((n1 + (1:Nat)) + n2)))(h1:(n0 ≤ n1)):False := by subst_vars; omega
theorem oq535 {n0:Nat}{n1:Nat}:(n0 ≤ (n0 + n1)) := Nat.le_add_right n0 n1
theorem oq536 {n0:Nat}(h0:((48:Nat) ≤ n0))(h1:(n0 = (45:Nat))):False := by simp_all
theorem oq537 {n0:Nat}{n1:Nat}:((n0:Int) ≠ ((((n0 + (1:Nat)) + n1) : Nat) : Int)) := by subst_vars; omega
theorem oq538 {n0:Nat}{n1:Nat}(h0:(n0 ≤ (10000:Nat)))(h1:(n1 = n0)):(n1 ≤ (1000000:Nat)) := by lia
theorem oq539 {n0:Nat}{n1:Nat}(h0:((n0 + (1:Nat)) = (n1 + (1:Nat))))(h1:((n1 + (1:Nat)) ≤ (10000:Nat))):(n0 ≤ (10000:Nat)) := by lia
theorem oq540 {n0:Nat}(h0:((n0 + (1:Nat)) ≤ (10000:Nat))):(n0 ≤ (10000:Nat)) := Nat.le_of_succ_le h0
theorem oq541 {i0:Int}(h0:((0:Int) ≤ i0))(h1:(i0 < (1000003:Int))):((Int.natAbs i0) < ((2:Nat) ^ 64)) := by subst_vars; omega
theorem oq542 {n0:Nat}(h0:((48:Nat) ≤ n0)):((n0 ≠ (45:Nat)) ∧ (n0 ≠ (47:Nat))) := by grind
theorem oq543 {n0:Nat}(h0:(n0 ≤ (400:Nat))):(n0 ≤ (400:Nat)) := by subst_vars; first | assumption | lia
theorem oq544 {n0:Nat}{n1:Nat}(h0:(n0 ≤ n1)):(n1 = (n0 + (n1 - n0))) := Eq.symm (Nat.add_sub_of_le h0)
theorem oq545 {n0:Nat}{n1:Nat}{n2:Nat}(h0:((n0 + n1) ≤ (n0 + n2))):(n1 ≤ n2) := Nat.add_le_add_iff_left.mp h0
theorem oq546 {n0:Nat}{n1:Nat}{n2:Nat}{n3:Nat}(h0:(n0 ≤ (400:Nat)))(h1:(n1 ≤ (401:Nat)))(h2:(n2 ≤ (1:Nat))):(((n2 + ((min n3 n0) + ((n0 - n3) + (1:Nat)))) + n1) ≤ (1000000:Nat)) := by grind
theorem oq547 {n0:Nat}{n1:Nat}(h0:(n0 ≤ n1))(h1:(n1 < ((2:Nat) ^ 60))):(n0 < ((2:Nat) ^ 60)) := Nat.lt_of_le_of_lt h0 h1
theorem oq548 {n0:Nat}{n1:Nat}(h0:(n0 ≤ (400:Nat))):((min n1 n0) ≤ (1000:Nat)) := by grind
theorem oq549 {n0:Nat}{n1:Nat}(h0:(n0 ≤ (400:Nat))):((n0 - n1) ≤ (1000:Nat)) := Nat.le_trans (Nat.sub_le _ _) (Nat.le_trans h0 (by decide))
theorem oq550 {n0:Nat}{n1:Nat}(h0:(¬ (n0 ≤ n1)))(h1:(n0 ≤ n1)):False := absurd h1 h0
theorem oq551 {n0:Nat}{n1:Nat}(h0:(¬ (n0 ≤ n1))):(n0 = ((n1 + (1:Nat)) + ((n0 - n1) - (1:Nat)))) := by subst_vars; first | assumption | lia
theorem oq552 {n0:Nat}{n1:Nat}{n2:Nat}(h0:(((n0 + (1:Nat)) + n1) ≤ (n0 + (n2 + (1:Nat))))):(n1 ≤ n2) := by subst_vars; first | assumption | lia
theorem oq553 {n0:Nat}{n1:Nat}:((((n0 + (1:Nat)) + n1) - n0) = (n1 + (1:Nat))) := by lia
theorem oq554 {n0:Nat}{n1:Nat}{n2:Nat}{n3:Nat}(h0:(n0 ≤ (400:Nat)))(h1:(n1 ≤ (400:Nat)))(h2:(n2 ≤ (1:Nat))):(((n2 + n1) + (((min n3 n0) + ((n0 - n3) + (1:Nat))) + (1:Nat))) ≤ (1000000:Nat)) := by subst_vars; omega
theorem oq555 {n0:Nat}:((2:Nat) ≤ (n0 + (2:Nat))) := Nat.le_add_left 2 n0
theorem oq556 {n0:Nat}:((6:Nat) ≤ (n0 + (6:Nat))) := Nat.le_add_left 6 n0
theorem oq557 {i0:Int}{i1:Int}(h0:((Int.natAbs i0) < ((2:Nat) ^ 30)))(h1:((Int.natAbs i1) ≤ (Int.natAbs i0))):((Int.natAbs i1) < ((2:Nat) ^ 60)) := by grind
theorem oq558 {i0:Int}{n1:Nat}(h0:((Int.natAbs i0) < ((2:Nat) ^ 30)))(h1:(n1 ≤ (Int.natAbs i0))):(n1 < ((2:Nat) ^ 60)) := by grind
theorem oq559 {i0:Int}(h0:(i0 < (0:Int))):(i0 = (-(((Int.natAbs i0) : Nat) : Int))) := by subst_vars; omega
theorem oq560 {i0:Int}{n1:Nat}(h0:((Int.natAbs i0) < ((2:Nat) ^ 60)))(h1:(n1 = (Int.natAbs i0))):(n1 < ((2:Nat) ^ 60)) := by subst_vars; first | assumption | lia
theorem oq561 {n0:Nat}{n1:Nat}(h0:(n0 = n1))(h1:(n1 < ((2:Nat) ^ 60))):(n0 < ((2:Nat) ^ 60)) := by subst_vars; first | assumption | lia
theorem oq562 {n0:Nat}(h0:(n0 ≤ (60:Nat))):(n0 ≤ (400:Nat)) := Nat.le_trans h0 (by decide)
theorem oq563 {n0:Nat}{n1:Nat}(h0:((0:Nat) < n0))(h1:(n1 = n0)):((0:Nat) < n1) := by subst_vars; first | assumption | lia
theorem oq564 {n0:Nat}(h0:(n0 ≤ (60:Nat))):(n0 ≤ (60:Nat)) := by subst_vars; first | assumption | lia
theorem oq565 {n0:Nat}{n1:Nat}{n2:Nat}(h0:(n0 ≤ (60:Nat)))(h1:(n1 ≤ (1:Nat)))(h2:(n2 ≤ (61:Nat))):(((n1 + n0) + n2) ≤ (200:Nat)) := by lia
theorem oq566 {n0:Nat}(h0:(n0 ≠ (1:Nat))):((n0:Int) ≠ (1:Int)) := Nat.ToInt.of_diseq rfl rfl h0
theorem oq567 {n0:Nat}{n1:Nat}{n2:Nat}:(n0 ≤ ((n0 + n1) + n2)) := by subst_vars; first | assumption | lia
theorem oq568 {n0:Nat}(h0:(n0 ≤ (200:Nat))):(n0 ≤ (1000000:Nat)) := Nat.le_trans h0 (by decide)
theorem oq569 {n0:Nat}{n1:Nat}(h0:(n0 ≤ n1)):((0:Int) < (((n1:Int) - (n0:Int)) + (1:Int))) := by subst_vars; first | assumption | lia
theorem oq570 {i0:Int}{n1:Nat}(h0:((0:Int) ≤ i0)):((((n1 + (Int.toNat i0)) : Nat) : Int) = ((n1:Int) + i0)) := by subst_vars; first | assumption | lia
theorem oq571 {n0:Nat}{i1:Int}:(n0 ≤ (n0 + (Int.toNat i1))) := Nat.le_add_right n0 i1.toNat
theorem oq572 {n0:Nat}{n1:Nat}{i2:Int}(h0:(n0 ≤ n1))(h1:(i2 < (((n1:Int) - (n0:Int)) + (1:Int)))):((n0 + (Int.toNat i2)) ≤ n1) := by lia
theorem oq573 {n0:Nat}{n1:Nat}(h0:(n0 ≤ (200:Nat))):(((min n1 n0) + (1:Nat)) ≤ (1000000:Nat)) := by lia
theorem oq574 {n0:Nat}{n1:Nat}(h0:(n0 ≤ (200:Nat))):((((min n1 n0) + (1:Nat)) + (n0 - n1)) ≤ (1000000:Nat)) := by subst_vars; omega
theorem oq575 {n0:Nat}:(¬ (((0:Int) ≤ (-(1:Int))) ∧ ((-(1:Int)) < (n0:Int)))) := by subst_vars; omega
theorem oq576 {n0:Nat}:((min (30:Nat) n0) ≤ (1000000:Nat)) := by lia
theorem oq577 {i0:Int}(h0:(((0:Int) ≤ i0) ∧ (i0 < (1000003:Int)))):((Int.natAbs i0) < ((2:Nat) ^ 64)) := by subst_vars; first | assumption | lia
theorem oq578 {i0:Int}(h0:((0:Int) ≤ i0)):(((1:Int) + i0) = ((((1:Nat) + (Int.toNat i0)) : Nat) : Int)) := by subst_vars; first | assumption | lia
theorem oq579 {i0:Int}:((1:Nat) ≤ ((1:Nat) + (Int.toNat i0))) := Nat.le_add_right 1 i0.toNat
theorem oq580 {i0:Int}{i1:Int}(h0:(i0 < (1000:Int)))(h1:(i1 < i0)):(((1:Nat) + (Int.toNat i1)) < ((2:Nat) ^ 10)) := by subst_vars; first | assumption | lia
theorem oq581 {i0:Int}(h0:((0:Int) ≤ i0)):(((2:Int) + i0) = ((((2:Nat) + (Int.toNat i0)) : Nat) : Int)) := by lia
theorem oq582 {i0:Int}:((2:Nat) ≤ ((2:Nat) + (Int.toNat i0))) := Nat.le_add_right 2 i0.toNat
theorem oq583 {i0:Int}{i1:Int}(h0:(i0 ≤ (35:Int)))(h1:(i1 < i0)):(((2:Nat) + (Int.toNat i1)) ≤ (36:Nat)) := by lia
theorem oq584 {n0:Nat}(h0:(¬ ((((63:Nat) : Nat) : Int) < (n0:Int)))):(n0 ≤ (1000:Nat)) := by subst_vars; first | assumption | lia
theorem oq585 {n0:Nat}:((min (30:Nat) n0) ≤ (10000:Nat)) := by subst_vars; first | assumption | lia
theorem oq586 {i0:Int}(h0:((0:Int) ≤ i0)):(((((2:Nat) + (Int.toNat i0)) : Nat) : Int) = ((2:Int) + i0)) := by subst_vars; omega
theorem oq587 {i0:Int}(h0:(i0 < (8:Int))):(((2:Nat) + (Int.toNat i0)) ≤ (9:Nat)) := by subst_vars; first | assumption | lia
theorem oq588 {i0:Int}(h0:((0:Int) ≤ i0)):((-(200:Int)) ≤ (i0 - (200:Int))) := Int.le_sub_right_of_add_le h0
theorem oq589 {i0:Int}(h0:(i0 < (400:Int))):((i0 - (200:Int)) ≤ (199:Int)) := by subst_vars; first | assumption | lia
theorem oq590 {i0:Int}(h0:((0:Int) ≤ i0)):((1:Int) ≤ ((1:Int) + i0)) := Int.le_add_of_nonneg_right h0
theorem oq591 {i0:Int}(h0:(i0 < (90:Int))):(((1:Int) + i0) ≤ (90:Int)) := by subst_vars; first | assumption | lia
theorem oq592 {i0:Int}(h0:((0:Int) ≤ i0))(h1:(i0 < (2:Int))):((i0 = (0:Int)) ∨ (i0 = (1:Int))) := by subst_vars; first | assumption | lia
theorem oq593 {i0:Int}(h0:(i0 < (2:Int))):(i0 < ((2:Int) ^ 63)) := Int.le_trans h0 (by decide)
theorem oq594 {i0:Int}(h0:((i0 = (1:Int)) ∨ (i0 = (-(1:Int))))):((Int.natAbs i0) < ((2:Nat) ^ 64)) := by omega
theorem oq595 {i0:Int}(h0:((0:Int) ≤ i0))(h1:(i0 < (24:Int))):((((1:Int) + i0) ≠ (0:Int)) ∧ (((-(24:Int)) ≤ ((1:Int) + i0)) ∧ (((1:Int) + i0) ≤ (24:Int)))) := by subst_vars; first | assumption | lia
theorem oq596 {i0:Int}(h0:((0:Int) ≤ i0))(h1:(i0 < (24:Int))):(((-((1:Int) + i0)) ≠ (0:Int)) ∧ (((-(24:Int)) ≤ (-((1:Int) + i0))) ∧ ((-((1:Int) + i0)) ≤ (24:Int)))) := by subst_vars; first | assumption | lia
theorem oq597 {i0:Int}(h0:((0:Int) ≤ i0)):((-(20:Int)) ≤ (i0 - (20:Int))) := Int.le_sub_right_of_add_le h0
theorem oq598 {i0:Int}(h0:(i0 < (60:Int))):((i0 - (20:Int)) ≤ (39:Int)) := by subst_vars; first | assumption | lia
theorem oq599 {n0:Nat}(h0:(n0 ≤ (9:Nat))):(n0 ≤ (1000:Nat)) := Nat.le_trans h0 (by decide)
theorem oq600 {i0:Int}(h0:((-(200:Int)) ≤ i0))(h1:(i0 ≤ (199:Int))):((Int.natAbs i0) < ((2:Nat) ^ 10)) := by subst_vars; omega
theorem oq601 {i0:Int}(h0:((1:Int) ≤ i0))(h1:(i0 ≤ (90:Int))):((Int.natAbs i0) < ((2:Nat) ^ 10)) := by subst_vars; omega
theorem oq602 {i0:Int}(h0:((-(20:Int)) ≤ i0))(h1:(i0 ≤ (39:Int))):((Int.natAbs i0) < ((2:Nat) ^ 10)) := by subst_vars; first | assumption | lia
theorem oq603 {i0:Int}(h0:((-(24:Int)) ≤ i0))(h1:(i0 ≤ (24:Int))):((Int.natAbs i0) < ((2:Nat) ^ 10)) := by subst_vars; omega
theorem oq604 {i0:Int}(h0:(i0 ≠ (0:Int))):(i0 ≠ (0:Int)) := by subst_vars; first | assumption | lia
theorem oq605 {i0:Int}(h0:((-(200:Int)) ≤ i0))(h1:(i0 ≤ (199:Int))):((Int.natAbs i0) < ((2:Nat) ^ 12)) := by subst_vars; first | assumption | lia
theorem oq606 {i0:Int}(h0:((1:Int) ≤ i0))(h1:(i0 ≤ (90:Int))):((Int.natAbs i0) < ((2:Nat) ^ 12)) := by subst_vars; first | assumption | lia
theorem oq607 {i0:Int}(h0:((-(20:Int)) ≤ i0))(h1:(i0 ≤ (39:Int))):((Int.natAbs i0) < ((2:Nat) ^ 12)) := by grind
theorem oq608 {i0:Int}(h0:((-(24:Int)) ≤ i0))(h1:(i0 ≤ (24:Int))):((Int.natAbs i0) < ((2:Nat) ^ 12)) := by subst_vars; omega
theorem sd1 {n : Nat} (h : n ≤ 64) : n ≤ 1000000 := Nat.le_trans h (by decide)
theorem sd2 {n : Nat} (h : n < 2 ^ 30) : n < 2 ^ 64 := Nat.lt_of_lt_of_le h (by decide)
theorem sd3 {n : Nat} (h : n < 2 ^ 62) : n < 2 ^ 64 := Nat.lt_of_lt_of_le h (by decide)
theorem sd4 {n : Nat} (h : n < 2 ^ 60) : n < 2 ^ 64 := Nat.lt_of_lt_of_le h (by decide)
theorem sd5 (n : Nat) : 0 ≤ 0 + (n:Int) := by lia
end
section
/-! the walk: its rules are named in one text, which the local macro below reads -/
set_option compiler.extract_closed false
open Lean Syntax in
def wkN (k : Name) (a : String) (as : Array Syntax) : Syntax := .node .none k (#[.atom .none a] ++ as)
open Lean Syntax in
def wkQ (as : Array Syntax) : Syntax := .node .none ``Lean.Parser.Tactic.tacticSeq #[.node .none ``Lean.Parser.Tactic.tacticSeq1Indented #[.node .none `null as]]
open Lean Syntax in
/-- what is done with a hole: its key in the walk -/
def wkA (c : Char) : Syntax :=
  if c == 'r' then wkN ``Lean.Parser.Tactic.exact "exact" #[mkCIdent ``rfl] else
  if c == 'A' then wkN ``Lean.Parser.Tactic.assumption "assumption" #[] else
  if c == 'i' then wkN ``Lean.Parser.Tactic.intros "intros" #[.node .none `null #[]] else
  if c == '0' then wkN ``Lean.Parser.Tactic.skip "skip" #[] else
  let k := if c == 'd' then "decide" else if c == 'y' then "lia" else if c == 'o' then "omega" else ""
  if k != "" then wkN (`Lean.Parser.Tactic ++ k.toName) k #[.node .none ``Lean.Parser.Tactic.optConfig #[.node .none `null #[]]] else
  wkN ``PySem.W.tacticWtm_at_ "wtm_at" #[mkStrLit c.toString]
open Lean Syntax in
def wkH (f : Char → Syntax) : List Char → Array Syntax → Array Syntax
  | [], as => as
  | c :: l, as => wkH f l (as.push (if c == '_' then wkN ``Lean.Parser.Term.hole "_" #[] else wkN ``Lean.Parser.Term.syntheticHole "?" #[f c]))
open Lean Syntax in
def wkC (f : Char → Syntax) : List Char → Array Syntax → Array Syntax
  | x :: c :: l, t => wkC f l ((t.push (.atom .none ";")).push (wkN ``Lean.Parser.Tactic.case "case" #[.node .none `null #[.node .none ``Lean.Parser.Tactic.caseArg #[.node .none ``Lean.binderIdent #[f x], .node .none `null #[]]], .atom .none "=>", wkQ #[wkA c]]))
  | [c], t => (t.push (.atom .none ";")).push (wkA c)
  | [], t => t
open Lean Syntax in
/-- the rules of the walk (a rule's name, its holes, what is done with them): the first that fits -/
def wk (f : Char → Syntax) : List String → Array Syntax → Syntax
  | s :: l, as =>
    match s.splitOn " " with
    | [n, h, a] =>
      let r : Syntax := mkCIdent (`Mine ++ n.toName)
      let hs := wkH f h.toList #[]
      let r := if h == "" then r else .node .none ``Lean.Parser.Term.app #[r, .node .none `null hs]
      wk f l (as.push (.node .none `group #[.atom .none "|", wkQ (wkC f a.toList #[wkN ``Lean.Parser.Tactic.withReducible "with_reducible" #[wkQ #[wkN ``Lean.Parser.Tactic.refine' "refine'" #[r]]]])]))
    | _ => wk f l (as.push (.node .none `group #[.atom .none "|", wkQ (wkC f s.toList.tail #[wkA s.front])]))
  | [], as => wkN ``Lean.Parser.Tactic.first "first" #[.node .none `null as]
open Lean Syntax in
def wkM (k : String) : List String → MacroM Syntax
  | s :: l => if s.startsWith k then do
      let m ← Macro.Context.quotContext <$> read
      let n ← Macro.Context.currMacroScope <$> read
      return wk (fun c => mkIdent (addMacroScope m (.mkSimple c.toString) n)) ((s.drop 2).toString.splitOn ";") #[] else wkM k l
  | [] => Macro.throwUnsupported
theorem ble {a b : Nat} (h : Nat.ble a b = true) : a ≤ b := Nat.le_of_ble_eq_true h
theorem hD1 {p G : Prop} [Decidable p] (k : p → G) (h : decide p = true) : G := k (of_decide_eq_true h)
theorem hD2 {p G : Prop} [Decidable p] (k : ¬ p → G) (h : decide p = false) : G := k (of_decide_eq_false h)
theorem hB1 {A : Type} {G : Prop} [BEq A] [LawfulBEq A] {a b : A} (k : a = b → G) (h : (a == b) = true) : G := k (eq_of_beq h)
theorem hB2 {A : Type} {G : Prop} [BEq A] [LawfulBEq A] {a b : A} (k : ¬ a = b → G) (h : (a == b) = false) : G := k (by intro e; subst e; simp at h)
theorem hN1 {A : Type} {G : Prop} [BEq A] [LawfulBEq A] {a b : A} (k : a ≠ b → G) (h : (a != b) = true) : G := k (by intro e; subst e; simp at h)
theorem hN2 {A : Type} {G : Prop} [BEq A] [LawfulBEq A] {a b : A} (k : a = b → G) (h : (a != b) = false) : G := k (by simpa using h)
end
section
/-! A small program logic of my own: data, ledger, state, and the rules' base. -/
open PySem PySem.W PySem.Calls PyProof.Rows PySem.Spec

abbrev Led := List (Addr × Obj)

/-- data -/
inductive D where
  | none
  | bool (b : Bool)
  | int (i : Int)
  | str (x : Str)
  | tup (ds : List D)
  | list (ds : List D)
  | fn (a : Addr)

abbrev tupO (vs : List Value) (n : Nat) : Obj := { cls := .type "tuple", data := .seq vs.toArray n }
abbrev lstO (vs : List Value) (n : Nat) : Obj := { cls := .type "list", data := .seq vs.toArray n }

mutual
inductive Is (R : Led) : Value → D → Prop
  | none : Is R Value.none D.none
  | bool (b : Bool) : Is R (Value.bool b) (D.bool b)
  | int (i : Int) (t : Tok) : Is R (Value.int i t) (D.int i)
  | str (x : Str) (t : Tok) : Is R (Value.str x t) (D.str x)
  | tup {a : Addr} {vs : List Value} {n : Nat} {ds : List D} : (a, tupO vs n) ∈ R → IsAll R vs ds → Is R (Value.ref a) (D.tup ds)
  | list {a : Addr} {vs : List Value} {n : Nat} {ds : List D} : (a, lstO vs n) ∈ R → IsAll R vs ds → Is R (Value.ref a) (D.list ds)
  | fn (a : Addr) : Is R (Value.ref a) (D.fn a)
inductive IsAll (R : Led) : List Value → List D → Prop
  | nil : IsAll R [] []
  | cons {v : Value} {vs : List Value} {d : D} {ds : List D} : Is R v d → IsAll R vs ds → IsAll R (v :: vs) (d :: ds)
end

mutual
theorem Is.mono' {R R' : Led} (hs : ∀ a o, (o.cls = .type "tuple" ∨ o.cls = .type "list") → (a, o) ∈ R → (a, o) ∈ R') : ∀ {v : Value} {d : D}, Is R v d → Is R' v d
  | _, _, .none => .none
  | _, _, .bool b => .bool b
  | _, _, .int i t => .int i t
  | _, _, .str x t => .str x t
  | _, _, .tup h r => .tup (hs _ _ (.inl rfl) h) (IsAll.mono' hs r)
  | _, _, .list h r => .list (hs _ _ (.inr rfl) h) (IsAll.mono' hs r)
  | _, _, .fn a => .fn a
theorem IsAll.mono' {R R' : Led} (hs : ∀ a o, (o.cls = .type "tuple" ∨ o.cls = .type "list") → (a, o) ∈ R → (a, o) ∈ R') : ∀ {vs : List Value} {ds : List D}, IsAll R vs ds → IsAll R' vs ds
  | _, _, .nil => .nil
  | _, _, .cons h r => .cons (Is.mono' hs h) (IsAll.mono' hs r)
end
theorem Is.mono {R R' : Led} (hs : ∀ p ∈ R, p ∈ R') {v : Value} {d : D} (h : Is R v d) : Is R' v d := h.mono' fun _ _ _ h => hs _ h
theorem IsAll.mono {R R' : Led} (hs : ∀ p ∈ R, p ∈ R') {vs : List Value} {ds : List D} (h : IsAll R vs ds) : IsAll R' vs ds := h.mono' fun _ _ _ h => hs _ h

@[elab_as_elim] theorem Is.eInt {R : Led} {i : Int} {P : Value → Prop} {v : Value} (h : Is R v (.int i)) (q : ∀ t, P (.int i t)) : P v := by cases h; exact q _
@[elab_as_elim] theorem Is.eBool {R : Led} {b : Bool} {P : Value → Prop} {v : Value} (h : Is R v (.bool b)) (q : P (.bool b)) : P v := by cases h; exact q
@[elab_as_elim] theorem Is.eNone {R : Led} {P : Value → Prop} {v : Value} (h : Is R v .none) (q : P .none) : P v := by cases h; exact q
@[elab_as_elim] theorem Is.eStr {R : Led} {x : Str} {P : Value → Prop} {v : Value} (h : Is R v (.str x)) (q : ∀ t, P (.str x t)) : P v := by cases h; exact q _
@[elab_as_elim] theorem Is.eFn {R : Led} {a : Addr} {P : Value → Prop} {v : Value} (h : Is R v (.fn a)) (q : P (.ref a)) : P v := by cases h; exact q
@[elab_as_elim] theorem Is.eTup {R : Led} {ds : List D} {P : Value → Prop} {v : Value} (h : Is R v (.tup ds)) (q : ∀ a vs n, (a, tupO vs n) ∈ R → IsAll R vs ds → P (.ref a)) : P v := by
  cases h with | tup h1 h2 => exact q _ _ _ h1 h2
@[elab_as_elim] theorem Is.eList {R : Led} {ds : List D} {P : Value → Prop} {v : Value} (h : Is R v (.list ds)) (q : ∀ a vs n, (a, lstO vs n) ∈ R → IsAll R vs ds → P (.ref a)) : P v := by
  cases h with | list h1 h2 => exact q _ _ _ h1 h2
@[elab_as_elim] theorem IsAll.eNil {R : Led} {P : List Value → Prop} {vs : List Value} (h : IsAll R vs []) (q : P []) : P vs := by cases h; exact q
@[elab_as_elim] theorem IsAll.eCons {R : Led} {d : D} {ds : List D} {P : List Value → Prop} {vs : List Value} (h : IsAll R vs (d :: ds)) (q : ∀ v vs', Is R v d → IsAll R vs' ds → P (v :: vs')) : P vs := by
  cases h with | cons h1 h2 => exact q _ _ h1 h2
theorem wrapG {G : Prop} (h : ∀ P : Prop, (G → P) → P) : G := h G id
theorem IsAll.length {R : Led} : ∀ {vs : List Value} {ds : List D}, IsAll R vs ds → vs.length = ds.length
  | _, _, .nil => rfl
  | _, _, .cons _ r => by (refine rwt List.length_cons ?_; refine rwt List.length_cons ?_; refine rwt r.length ?_; with_reducible rfl)
theorem IsAll.append {R : Led} : ∀ {vs ws : List Value} {ds es : List D}, IsAll R vs ds → IsAll R ws es → IsAll R (vs ++ ws) (ds ++ es)
  | _, _, _, _, .nil, k => k
  | _, _, _, _, .cons h r, k => .cons h (r.append k)
theorem IsAll.get {R : Led} : ∀ {vs : List Value} {ds : List D} {k : Nat} {d : D}, IsAll R vs ds → ds[k]? = some d → ∃ v, vs[k]? = some v ∧ Is R v d
  | _, _, k, d, .nil, hk => by cases k <;> cases hk
  | _, _, 0, d, .cons h r, hk => by cases hk; exact ⟨_, rfl, h⟩
  | _, _, k + 1, d, .cons h r, hk => let ⟨v, h1, h2⟩ := IsAll.get (k := k) r hk; ⟨v, h1, h2⟩
theorem IsAll.getV {R : Led} : ∀ {vs : List Value} {ds : List D} {k : Nat} {v : Value}, IsAll R vs ds → vs[k]? = some v → ∃ d, ds[k]? = some d ∧ Is R v d
  | _, _, k, v, .nil, hk => by cases k <;> cases hk
  | _, _, 0, v, .cons h r, hk => by cases hk; exact ⟨_, rfl, h⟩
  | _, _, k + 1, v, .cons h r, hk => let ⟨d, h1, h2⟩ := IsAll.getV (k := k) r hk; ⟨d, h1, h2⟩
theorem IsAll.take {R : Led} : ∀ {vs : List Value} {ds : List D} (k : Nat), IsAll R vs ds → IsAll R (vs.take k) (ds.take k)
  | _, _, k, .nil => by cases k <;> exact .nil
  | _, _, 0, .cons h r => .nil
  | _, _, k + 1, .cons h r => .cons h (r.take k)
theorem IsAll.drop {R : Led} : ∀ {vs : List Value} {ds : List D} (k : Nat), IsAll R vs ds → IsAll R (vs.drop k) (ds.drop k)
  | _, _, k, .nil => by cases k <;> exact .nil
  | _, _, 0, .cons h r => .cons h r
  | _, _, k + 1, .cons h r => r.drop k
theorem IsAll.reverse {R : Led} : ∀ {vs : List Value} {ds : List D}, IsAll R vs ds → IsAll R vs.reverse ds.reverse
  | _, _, .nil => .nil
  | _, _, .cons h r => by (refine rwt List.reverse_cons ?_; refine rwt List.reverse_cons ?_); exact r.reverse.append (.cons h .nil)

theorem Is.handed {R : Led} {v : Value} {d : D} (h : Is R v d) : handedIn v = true := by cases h <;> rfl

/-- what is fixed for the whole law -/
structure Gl where
  prog : Program
  w : World
  K : Frag
  p : Program
  loose : List Str
  mg : Str → Option Value
  mb : Str → Option Value
abbrev Gl.M (g : Gl) : Model := model g.prog g.w

structure GlOk (g : Gl) (h : Heap) : Prop where
  k : g.K.In h
  t : TopRead g.p g.loose g.mg g.mb h
theorem GlOk.keeps {g : Gl} {h h' : Heap} (x : GlOk g h) (hk : ∀ b o, h.get? b = some o → h'.get? b = some o) : GlOk g h' := ⟨x.k.keeps hk, x.t.keeps hk⟩

/-- one activation -/
structure Fm where
  env : Env
  h₀ : Heap
  R₀ : Led

/-- a variable's slot -/
inductive Sl where
  | un
  | val (d : D)
  | own (ds : List D)
abbrev Vars := List (Str × Sl)

structure StM (g : Gl) (f : Fm) (σ : Vars) (R : Led) (h : Heap) (m : Str → Option Value) : Prop where
  fr : Fr f.h₀ f.env.locals h m
  gl : GlOk g f.h₀
  led : ∀ p ∈ R, h.get? p.1 = some p.2 ∧ p.1 ≠ f.env.locals ∧ (p ∈ f.R₀ ∨ f.h₀.get? p.1 = none)
  sub : ∀ p ∈ f.R₀, p ∈ R
  nd : (σ.map (·.1)).Nodup
  vars : ∀ x d, (x, Sl.val d) ∈ σ → ∃ v, m x = some v ∧ Is R v d
  own : ∀ x ds, (x, Sl.own ds) ∈ σ → ∃ q vs n, m x = some (.ref q) ∧ h.get? q = some (lstO vs n) ∧ f.h₀.get? q = none ∧ q ≠ f.env.locals ∧ (∀ p ∈ R, p.1 ≠ q) ∧ IsAll R vs ds
  one : ∀ x ds y es, (x, Sl.own ds) ∈ σ → (y, Sl.own es) ∈ σ → x = y
def St (g : Gl) (f : Fm) (σ : Vars) (R : Led) (h : Heap) : Prop := ∃ m, StM g f σ R h m

/-- room for n calls deep -/
structure AOk (n : Nat) (A : Around) : Prop where
  hd : A.handled = none
  dp : A.depth + n < recursionLimit
  un : A.units + 100 + 16 * n < cLine
theorem AOk.deeper {n : Nat} {A : Around} {env : Env} (h : AOk (n + 1) A) : AOk n (A.deeper env) := by
  obtain ⟨a, b, c⟩ := h
  refine ⟨a, ?_, ?_⟩
  · show A.depth + 1 + n < _; exact oq1 b
  · show A.units + 3 + 100 + 16 * n < _; exact oq2 c
theorem AOk.le {n k : Nat} {A : Around} (h : AOk n A) (hk : k ≤ n) : AOk k A := ⟨h.hd, by have := h.dp; exact oq3 this hk, by have := h.un; exact oq4 this hk⟩
theorem AOk.room {n : Nat} {A : Around} (h : AOk n A) : A.depth < recursionLimit := by have := h.dp; exact oq5 this
theorem AOk.units {n : Nat} {A : Around} (h : AOk n A) : A.units + 64 < cLine := by have := h.un; exact oq6 this

/-- only the heap and the counter of tokens changed -/
def Rest (s s' : Shared) : Prop := ∃ h tk, s' = { s with heap := h, toks := tk }
theorem Rest.refl (s : Shared) : Rest s s := ⟨s.heap, s.toks, rfl⟩
theorem Rest.trans {s₁ s₂ s₃ : Shared} (x : Rest s₁ s₂) (y : Rest s₂ s₃) : Rest s₁ s₃ := by
  refine xe2_1 x fun h tk e_1 => ?_
  subst e_1
  try clear x
  refine xe2_1 y fun h' tk' e_1 => ?_
  subst e_1
  try clear y
  exact ⟨h', tk', rfl⟩
theorem Rest.mk' {s : Shared} {h : Heap} {tk : Nat} : Rest s { s with heap := h, toks := tk } := ⟨h, tk, rfl⟩
theorem Rest.toks {s : Shared} {tk : Nat} : Rest s { s with toks := tk } := ⟨s.heap, tk, rfl⟩
theorem Rest.heap {s : Shared} {h : Heap} : Rest s { s with heap := h } := ⟨h, s.toks, rfl⟩

abbrev Ext (h h' : Heap) : Prop := ∀ b o, h.get? b = some o → h'.get? b = some o

/-- the state goes on when the heap only grows, with a larger ledger of new objects -/
theorem St.ext {g : Gl} {f : Fm} {σ : Vars} {R R' : Led} {h h' : Heap} (x : St g f σ R h) (e : Ext h h') (hs : ∀ p ∈ R, p ∈ R')
    (hl : ∀ p ∈ R', h'.get? p.1 = some p.2 ∧ (p ∈ R ∨ h.get? p.1 = none)) : St g f σ R' h' := by
  refine xe1_1 x fun m x => ?_
  refine ⟨m, x.fr.after e, x.gl, fun p hp => ⟨(hl p hp).1, ?_, ?_⟩, fun p hp => hs _ (x.sub p hp), x.nd, fun a d ha => ?_, fun a ds ha => ?_, x.one⟩
  · rcases (hl p hp).2 with q | q
    · exact (x.led p q).2.1
    · intro z
      refine xe3_2 x.fr.ns fun o _ _ ho _ => ?_
      rw [z, ho] at q; cases q
  · rcases (hl p hp).2 with q | q
    · exact (x.led p q).2.2
    · right
      cases z : f.h₀.get? p.1 with
      | none => rfl
      | some o => rw [x.fr.keep _ _ z] at q; cases q
  · refine xe1_2 (x.vars a d ha) fun v hv hi => ?_
    exact ⟨v, hv, hi.mono hs⟩
  · refine xe3_6 (x.own a ds ha) fun q vs n h1 h2 h3 h4 h5 h6 => ?_
    refine ⟨q, vs, n, h1, e _ _ h2, h3, h4, fun p hp => ?_, h6.mono hs⟩
    rcases (hl p hp).2 with z | z
    · exact h5 p z
    · intro y; rw [y, h2] at z; cases z
theorem St.toks {g : Gl} {f : Fm} {σ : Vars} {R : Led} {h : Heap} (x : St g f σ R h) : St g f σ R h := x
theorem St.ledIn {g : Gl} {f : Fm} {σ : Vars} {R : Led} {h : Heap} (x : St g f σ R h) : ∀ p ∈ R, h.get? p.1 = some p.2 := by
  refine xe1_1 x fun m x => ?_
  exact fun p hp => (x.led p hp).1
theorem St.glOk {g : Gl} {f : Fm} {σ : Vars} {R : Led} {h : Heap} (x : St g f σ R h) : GlOk g h := by
  refine xe1_1 x fun m x => ?_
  exact x.gl.keeps x.fr.keep
/-- the same ledger, a heap that only grew -/
theorem St.grow {g : Gl} {f : Fm} {σ : Vars} {R : Led} {h h' : Heap} (x : St g f σ R h) (e : Ext h h') : St g f σ R h' :=
  x.ext e (fun _ h => h) fun p hp => ⟨e _ _ (x.ledIn p hp), .inl hp⟩

/-- from s to s' only new objects; the ledger grows by new ones -/
structure Gr (R : Led) (s : Shared) (R' : Led) (s' : Shared) : Prop where
  rest : Rest s s'
  ext : Ext s.heap s'.heap
  sub : ∀ p ∈ R, p ∈ R'
  new : ∀ p ∈ R', p ∈ R ∨ s.heap.get? p.1 = none
  led : ∀ p ∈ R', s'.heap.get? p.1 = some p.2
theorem Gr.refl {R : Led} {s : Shared} (h : ∀ p ∈ R, s.heap.get? p.1 = some p.2) : Gr R s R s := ⟨.refl s, fun _ _ e => e, fun _ h => h, fun _ h => .inl h, h⟩
theorem Gr.trans {R R₁ R₂ : Led} {s s₁ s₂ : Shared} (x : Gr R s R₁ s₁) (y : Gr R₁ s₁ R₂ s₂) : Gr R s R₂ s₂ where
  rest := x.rest.trans y.rest
  ext := fun b o e => y.ext b o (x.ext b o e)
  sub := fun p hp => y.sub p (x.sub p hp)
  new := fun p hp => by
    rcases y.new p hp with h | h
    · exact x.new p h
    · right
      cases q : s.heap.get? p.1 with
      | none => rfl
      | some o => rw [x.ext _ _ q] at h; cases h
  led := y.led
theorem Gr.toks {R : Led} {s : Shared} {tk : Nat} (h : ∀ p ∈ R, s.heap.get? p.1 = some p.2) : Gr R s R { s with toks := tk } := ⟨.toks, fun _ _ e => e, fun _ h => h, fun _ h => .inl h, h⟩
theorem Gr.push {R : Led} {s : Shared} (h : ∀ p ∈ R, s.heap.get? p.1 = some p.2) {o : Obj} (hf : o.isFreed = false := by rfl) : Gr R s ((s.heap.objs.size, o) :: R) { s with heap := s.heap.push o } where
  rest := .heap
  ext := fun b o' e => Heap.get?_push_of_some _ e
  sub := fun p hp => .tail _ hp
  new := fun p hp => by
    rcases List.mem_cons.mp hp with rfl | hp
    · exact .inr (Heap.get?_none_of_le (Nat.le_refl _))
    · exact .inl hp
  led := fun p hp => by
    rcases List.mem_cons.mp hp with rfl | hp
    · exact Heap.get?_push_size _ hf
    · exact Heap.get?_push_of_some _ (h p hp)
/-- a heap that grew by what no ledger bears -/
theorem Gr.grow {R : Led} {s : Shared} {h' : Heap} {tk : Nat} (h : ∀ p ∈ R, s.heap.get? p.1 = some p.2) (e : Ext s.heap h') : Gr R s R { s with heap := h', toks := tk } :=
  ⟨.mk', e, fun _ h => h, fun _ h => .inl h, fun p hp => e _ _ (h p hp)⟩
theorem St.gr {g : Gl} {f : Fm} {σ : Vars} {R R' : Led} {s s' : Shared} (x : St g f σ R s.heap) (y : Gr R s R' s') : St g f σ R' s'.heap :=
  x.ext y.ext y.sub fun p hp => ⟨y.led p hp, y.new p hp⟩

section
variable {g : Gl} {f : Fm} {n : Nat} {σ : Vars}

/-- an expression gives d -/
def EV (g : Gl) (f : Fm) (n : Nat) (σ : Vars) (e : Expr) (d : D) : Prop :=
  ∀ (A : Around) (E : Value → Shared → Prop) (s : Shared) (R : Led) (Q : Value → Shared → Prop), AOk n A → St g f σ R s.heap →
    (∀ v R' s', Gr R s R' s' → Is R' v d → Q v s') → wpAny g.M A (eval e f.env) Q E s
/-- a test gives b -/
def TR (g : Gl) (f : Fm) (n : Nat) (σ : Vars) (e : Expr) (b : Bool) : Prop :=
  ∀ (A : Around) (E : Value → Shared → Prop) (s : Shared) (R : Led) (Q : Bool → Shared → Prop), AOk n A → St g f σ R s.heap →
    (∀ R' s', Gr R s R' s' → Q b s') → wpAny g.M A (isTrue e f.env (eval e f.env)) Q E s
/-- the items of a display, the arguments of a call -/
def ES (g : Gl) (f : Fm) (n : Nat) (σ : Vars) (pos : Pos) (es : List Expr) (ds : List D) : Prop :=
  ∀ (A : Around) (E : Value → Shared → Prop) (s : Shared) (R : Led) (Q : List Value → Shared → Prop), AOk n A → St g f σ R s.heap →
    (∀ vs R' s', Gr R s R' s' → IsAll R' vs ds → Q vs s') → wpAny g.M A (spliced (backTo pos (starEach es f.env))) Q E s

theorem ES.nil {pos : Pos} : ES g f n σ pos [] [] := fun A E s R Q hA hS k => wpAny_items_nil (k [] R s (.refl hS.ledIn) .nil)
theorem ES.cons {pos : Pos} {e : Expr} {es : List Expr} {d : D} {ds : List D} (h : EV g f n σ e d) (hs : ES g f n σ pos es ds)
    (he : starEach (e :: es) f.env = (false, eval e f.env) :: starEach es f.env := by rfl) : ES g f n σ pos (e :: es) (d :: ds) :=
  fun A E s R Q hA hS k => wpAny_items_cons (h A E s R _ hA hS fun v R₁ s₁ r₁ i₁ => hs A E s₁ R₁ _ hA (hS.gr r₁) fun vs R₂ s₂ r₂ i₂ =>
    k _ R₂ s₂ (r₁.trans r₂) (.cons (i₁.mono r₂.sub) i₂)) he

theorem EV.tup {es : List Expr} {k : Nat} {pos : Pos} {ds : List D} (h : ES g f n σ pos es ds) (hz : ds.length ≤ 1000 := by decide) : EV g f n σ (.Tuple es k pos) (.tup ds) :=
  fun A E s R Q hA hS q => wpAny_Tuple (h A E s R _ hA hS fun vs R₁ s₁ r₁ i₁ => ⟨by (refine rwt i₁.length ?_; refine rwt sizeLine_eq ?_); exact oq7 hz,
    q _ _ _ (r₁.trans (.push r₁.led)) (.tup (.head _) (i₁.mono fun p hp => .tail _ hp))⟩)
theorem EV.list {es : List Expr} {pos : Pos} {ds : List D} (h : ES g f n σ pos es ds) (hz : ds.length ≤ 1000 := by decide) : EV g f n σ (.List es pos) (.list ds) :=
  fun A E s R Q hA hS q => wpAny_List (h A E s R _ hA hS fun vs R₁ s₁ r₁ i₁ => ⟨by (refine rwt i₁.length ?_; refine rwt sizeLine_eq ?_); exact oq7 hz,
    q _ _ _ (r₁.trans (.push r₁.led)) (.list (.head _) (i₁.mono fun p hp => .tail _ hp))⟩)

theorem EV.int {i : Int} {k pos} : EV g f n σ (.Constant (.int i) k pos) (.int i) := fun A E s R Q hA hS q => wpAny_Constant_int (q _ R _ (.toks hS.ledIn) (.int _ _))
theorem EV.bool {b : Bool} {k pos} : EV g f n σ (.Constant (.bool b) k pos) (.bool b) := fun A E s R Q hA hS q => wpAny_Constant_bool (q _ R _ (.refl hS.ledIn) (.bool _))
theorem EV.nul {k pos} : EV g f n σ (.Constant .none k pos) .none := fun A E s R Q hA hS q => wpAny_Constant_none (q _ R _ (.refl hS.ledIn) .none)
theorem EV.str {x : Str} {k pos} : EV g f n σ (.Constant (.str x) k pos) (.str x) := fun A E s R Q hA hS q => wpAny_Constant_str (q _ R _ (.toks hS.ledIn) (.str _ _))

theorem EV.name {x : Str} {pos : Pos} {d : D} (hm : (x, Sl.val d) ∈ σ) (hk : f.env.scope.kind = .function := by rfl) (hl : f.env.kindOf x = some .local := by rfl)
    (hd : (x == ("__debug__" : Str)) = false := by decide) : EV g f n σ (.Name x pos) d := fun A E s R Q hA hS q => by
  refine xe1_1 (id hS) fun m S => ?_
  refine xe1_2 (S.vars x d hm) fun v hv hi => ?_
  exact wpAny_Name (wpAny_loadName_local hk hl S.fr.ns hv (q v R s (.refl hS.ledIn) hi)) hd

/-- an operation of two values -/
def OP (g : Gl) (op : Operator) (d₁ d₂ d : D) : Prop :=
  ∀ (A : Around) (E : Value → Shared → Prop) (s : Shared) (R : Led) (v₁ v₂ : Value) (Q : Value → Shared → Prop), AOk 0 A → (∀ p ∈ R, s.heap.get? p.1 = some p.2) → Is R v₁ d₁ → Is R v₂ d₂ →
    (∀ v tk, Is [] v d → Q v { s with toks := tk }) → wpAny g.M A (binaryOp op v₁ v₂) Q E s
def IOP (g : Gl) (op : Operator) (d₁ d₂ d : D) : Prop :=
  ∀ (A : Around) (E : Value → Shared → Prop) (s : Shared) (R : Led) (v₁ v₂ : Value) (Q : Value → Shared → Prop), AOk 0 A → (∀ p ∈ R, s.heap.get? p.1 = some p.2) → Is R v₁ d₁ → Is R v₂ d₂ →
    (∀ v tk, Is [] v d → Q v { s with toks := tk }) → wpAny g.M A (inplaceOp op v₁ v₂) Q E s
def CMP (g : Gl) (op : CmpOp) (d₁ d₂ : D) (b : Bool) : Prop :=
  ∀ (A : Around) (E : Value → Shared → Prop) (s : Shared) (R : Led) (v₁ v₂ : Value) (Q : Value → Shared → Prop), AOk 0 A → (∀ p ∈ R, s.heap.get? p.1 = some p.2) → Is R v₁ d₁ → Is R v₂ d₂ →
    (∀ tk, Q (.bool b) { s with toks := tk }) → wpAny g.M A (compareOp op v₁ v₂) Q E s

theorem nil_sub {R : Led} : ∀ p ∈ ([] : Led), p ∈ R := fun _ h => nomatch h

theorem EV.bin {l r : Expr} {op : Operator} {pos : Pos} {d₁ d₂ d : D} (h₁ : EV g f n σ l d₁) (h₂ : EV g f n σ r d₂) (ho : OP g op d₁ d₂ d) : EV g f n σ (.BinOp l op r pos) d :=
  fun A E s R Q hA hS q => wpAny_BinOp (h₁ A E s R _ hA hS fun v₁ R₁ s₁ r₁ i₁ => h₂ A E s₁ R₁ _ hA (hS.gr r₁) fun v₂ R₂ s₂ r₂ i₂ =>
    ho A E s₂ R₂ v₁ v₂ _ (hA.le (Nat.zero_le _)) r₂.led (i₁.mono r₂.sub) i₂ fun v tk i => q v R₂ _ ((r₁.trans r₂).trans (.toks r₂.led)) (i.mono nil_sub))

theorem EV.cmp {l r : Expr} {op : CmpOp} {pos : Pos} {d₁ d₂ : D} {b : Bool} (h₁ : EV g f n σ l d₁) (h₂ : EV g f n σ r d₂) (ho : CMP g op d₁ d₂ b)
    (hm : behindInMarks op r = false := by with_unfolding_all rfl) : EV g f n σ (.Compare l [op] [r] pos) (.bool b) :=
  fun A E s R Q hA hS q => wpAny_Compare1 (h₁ A E s R _ hA hS fun v₁ R₁ s₁ r₁ i₁ => h₂ A E s₁ R₁ _ hA (hS.gr r₁) fun v₂ R₂ s₂ r₂ i₂ =>
    ho A E s₂ R₂ v₁ v₂ _ (hA.le (Nat.zero_le _)) r₂.led (i₁.mono r₂.sub) i₂ fun tk => q _ R₂ _ ((r₁.trans r₂).trans (.toks r₂.led)) (.bool b)) hm
theorem TR.cmp {l r : Expr} {op : CmpOp} {pos : Pos} {d₁ d₂ : D} {b : Bool} (h₁ : EV g f n σ l d₁) (h₂ : EV g f n σ r d₂) (ho : CMP g op d₁ d₂ b)
    (hm : behindInMarks op r = false := by with_unfolding_all rfl) : TR g f n σ (.Compare l [op] [r] pos) b :=
  fun A E s R Q hA hS q => wpAny_isTrue_Compare1 (h₁ A E s R _ hA hS fun v₁ R₁ s₁ r₁ i₁ => h₂ A E s₁ R₁ _ hA (hS.gr r₁) fun v₂ R₂ s₂ r₂ i₂ =>
    ho A E s₂ R₂ v₁ v₂ _ (hA.le (Nat.zero_le _)) r₂.led (i₁.mono r₂.sub) i₂ fun tk => wpAny_truthy_bool (q R₂ _ ((r₁.trans r₂).trans (.toks r₂.led)))) hm

theorem TR.value {e : Expr} {b : Bool} (h : EV g f n σ e (.bool b)) (he : ∀ whole, isTrue e f.env whole = (do let v ← whole; standAt e.pos; holding [v] (truthy v)) := by intro _; rfl) : TR g f n σ e b :=
  fun A E s R Q hA hS q => wpAny_isTrue_value (h A E s R _ hA hS fun v R₁ s₁ r₁ i₁ => by
    cases i₁
    exact wpAny_truthy_bool (q R₁ s₁ r₁)) (he _)
theorem TR.not {x : Expr} {pos : Pos} {b : Bool} (h : TR g f n σ x b) : TR g f n σ (.UnaryOp .Not x pos) (!b) :=
  fun A E s R Q hA hS q => wpAny_isTrue_Not (h A E s R _ hA hS fun R₁ s₁ r₁ => q R₁ s₁ r₁)
theorem TR.and2 {x y : Expr} {pos : Pos} {a b : Bool} (hx : TR g f n σ x a) (hy : a = true → TR g f n σ y b) : TR g f n σ (.BoolOp .And [x, y] pos) (a && b) :=
  fun A E s R Q hA hS q => wpAny_isTrue_BoolOp (wpAny_allTrue_And_cons (hx A E s R _ hA hS fun R₁ s₁ r₁ => by
    cases a with
    | false => exact q R₁ s₁ r₁
    | true => exact wpAny_allTrue_And_cons (hy rfl A E s₁ R₁ _ hA (hS.gr r₁) fun R₂ s₂ r₂ => by
        have k := q R₂ s₂ (r₁.trans r₂)
        cases b with
        | false => exact k
        | true => exact wpAny_allTrue_And_nil k)))
theorem TR.or2 {x y : Expr} {pos : Pos} {a b : Bool} (hx : TR g f n σ x a) (hy : a = false → TR g f n σ y b) : TR g f n σ (.BoolOp .Or [x, y] pos) (a || b) :=
  fun A E s R Q hA hS q => wpAny_isTrue_BoolOp (wpAny_allTrue_Or_cons (hx A E s R _ hA hS fun R₁ s₁ r₁ => by
    cases a with
    | true => exact q R₁ s₁ r₁
    | false => exact wpAny_allTrue_Or_cons (hy rfl A E s₁ R₁ _ hA (hS.gr r₁) fun R₂ s₂ r₂ => by
        have k := q R₂ s₂ (r₁.trans r₂)
        cases b with
        | true => exact k
        | false => exact wpAny_allTrue_Or_nil k)))
/-- three tests by and -/
theorem TR.and3 {x y z : Expr} {pos : Pos} {a b c : Bool} (hx : TR g f n σ x a) (hy : a = true → TR g f n σ y b) (hz : a = true → b = true → TR g f n σ z c) : TR g f n σ (.BoolOp .And [x, y, z] pos) (a && (b && c)) :=
  fun A E s R Q hA hS q => wpAny_isTrue_BoolOp (wpAny_allTrue_And_cons (hx A E s R _ hA hS fun R₁ s₁ r₁ => by
    cases a with
    | false => exact q R₁ s₁ r₁
    | true => exact wpAny_allTrue_And_cons (hy rfl A E s₁ R₁ _ hA (hS.gr r₁) fun R₂ s₂ r₂ => by
        cases b with
        | false => exact q R₂ s₂ (r₁.trans r₂)
        | true => exact wpAny_allTrue_And_cons (hz rfl rfl A E s₂ R₂ _ hA (hS.gr (r₁.trans r₂)) fun R₃ s₃ r₃ => by
            have k := q R₃ s₃ ((r₁.trans r₂).trans r₃)
            cases c with
            | false => exact k
            | true => exact wpAny_allTrue_And_nil k))))
theorem EV.and2 {x y : Expr} {pos : Pos} {a b : Bool} (hx : EV g f n σ x (.bool a)) (hy : a = true → EV g f n σ y (.bool b)) : EV g f n σ (.BoolOp .And [x, y] pos) (.bool (a && b)) :=
  fun A E s R Q hA hS q => wpAny_And2 (hx A E s R _ hA hS fun v R₁ s₁ r₁ i₁ => by
    cases i₁
    refine wpAny_truthy_bool ?_
    cases a with
    | false => exact q _ R₁ s₁ r₁ (.bool _)
    | true => exact hy rfl A E s₁ R₁ _ hA (hS.gr r₁) fun v R₂ s₂ r₂ i₂ => q v R₂ s₂ (r₁.trans r₂) i₂)
theorem EV.not {x : Expr} {pos : Pos} {b : Bool} (h : EV g f n σ x (.bool b)) : EV g f n σ (.UnaryOp .Not x pos) (.bool (!b)) :=
  fun A E s R Q hA hS q => wpAny_UnaryOp (h A E s R _ hA hS fun v R₁ s₁ r₁ i₁ => by
    cases i₁
    exact not_value (wpAny_truthy_bool (q _ R₁ s₁ r₁ (.bool _))))
theorem EV.neg {x : Expr} {pos : Pos} {i : Int} (h : EV g f n σ x (.int i)) : EV g f n σ (.UnaryOp .USub x pos) (.int (-i)) :=
  fun A E s R Q hA hS q => wpAny_UnaryOp (h A E s R _ hA hS fun v R₁ s₁ r₁ i₁ => by
    cases i₁
    exact P.neg_int (q _ R₁ _ (r₁.trans (.toks r₁.led)) (.int _ _)))
theorem EV.ite {t x y : Expr} {pos : Pos} {b : Bool} {d₁ d₂ : D} (h : TR g f n σ t b) (hx : b = true → EV g f n σ x d₁) (hy : b = false → EV g f n σ y d₂) : EV g f n σ (.IfExp t x y pos) (if b = true then d₁ else d₂) :=
  fun A E s R Q hA hS q => wpAny_IfExp (h A E s R _ hA hS fun R₁ s₁ r₁ => by
    cases b with
    | true => exact hx rfl A E s₁ R₁ _ hA (hS.gr r₁) fun v R₂ s₂ r₂ i₂ => q v R₂ s₂ (r₁.trans r₂) i₂
    | false => exact hy rfl A E s₁ R₁ _ hA (hS.gr r₁) fun v R₂ s₂ r₂ i₂ => q v R₂ s₂ (r₁.trans r₂) i₂)
end
end
section
open PySem PySem.W PySem.Calls PyProof.Rows PySem.Spec

section
variable {g : Gl} {f : Fm} {n : Nat} {σ : Vars}

/-! ## names of the top, calls -/
theorem EV.glob {x : Str} {pos : Pos} {a : Addr} (e : nsIn g.K mainGlobals x = some (some (.ref a))) (hk : f.env.scope.kind = .function := by rfl) (hx : f.env.kindOf x = some .globalImplicit := by rfl)
    (hg : f.env.globals = mainGlobals := by rfl) (hd : (x == ("__debug__" : Str)) = false := by decide) : EV g f n σ (.Name x pos) (.fn a) := fun A E s R Q hA hS q =>
  Name_function_global hk hx (loadGlobal_global (hg ▸ hS.glOk.t.g) (mg_of hS.glOk.k hS.glOk.t.g e) (q _ R s (.refl hS.ledIn) (.fn a))) hd
theorem EV.globS {x : Str} {pos : Pos} {y : Str} {t : Tok} (e : nsIn g.K mainGlobals x = some (some (.str y t))) (hk : f.env.scope.kind = .function := by rfl) (hx : f.env.kindOf x = some .globalImplicit := by rfl)
    (hg : f.env.globals = mainGlobals := by rfl) (hd : (x == ("__debug__" : Str)) = false := by decide) : EV g f n σ (.Name x pos) (.str y) := fun A E s R Q hA hS q =>
  Name_function_global hk hx (loadGlobal_global (hg ▸ hS.glOk.t.g) (mg_of hS.glOk.k hS.glOk.t.g e) (q _ R s (.refl hS.ledIn) (.str y t))) hd

/-- a builtin's name (in a call's head) -/
theorem name_bi {A : Around} {E : Value → Shared → Prop} {s : Shared} {R : Led} {x : Str} {pos : Pos} {v : Value} {Q : Value → Shared → Prop} (hS : St g f σ R s.heap) (e : nsIn g.K mainGlobals x = some none) (hv : bootBuiltins x = some v) (h : Q v s)
    (hn : x ≠ "__name__" := by decide) (hk : f.env.scope.kind = .function := by rfl) (hx : f.env.kindOf x = some .globalImplicit := by rfl)
    (hg : f.env.globals = mainGlobals := by rfl) (hb : f.env.builtins = builtinsNs := by rfl) (hd : (x == ("__debug__" : Str)) = false := by decide) : wpAny g.M A (eval (.Name x pos) f.env) Q E s :=
  Name_function_global hk hx (loadGlobal_builtin (hg ▸ hS.glOk.t.g) (mg_none_of hS.glOk.k hS.glOk.t.g e) (hb ▸ hS.glOk.t.b) ((hS.glOk.t.builtins x hn).trans hv) h) hd

/-- the contract of a def: it changes nothing that stands, gives d -/
def FN (g : Gl) (n : Nat) (a : Addr) (ds : List D) (d : D) : Prop :=
  ∀ (A : Around) (E : Value → Shared → Prop) (s : Shared) (R : Led) (vs : List Value) (Q : Value → Shared → Prop), AOk n A → GlOk g s.heap → (∀ p ∈ R, s.heap.get? p.1 = some p.2) → IsAll R vs ds →
    (∀ v R' s', Gr R s R' s' → Is R' v d → Q v s') →
    wpAny g.M A (call (.ref a) vs) Q E s
theorem FN.le {g : Gl} {n k : Nat} {a : Addr} {ds : List D} {d : D} (h : FN g n a ds d) (hk : n ≤ k) : FN g k a ds d := fun A E s R vs Q hA => h A E s R vs Q (hA.le hk)

theorem eval_Call_eq {func : Expr} {args : List Expr} {keywords : List Keyword} {pos : Pos} {env : Env} (h : ∀ o n p, func ≠ .Attribute o n p) :
    eval (.Call func args keywords pos) env = (do callWith pos (← eval func env) [] (backTo pos (starEach args env)) (backToKw pos (keywordEach keywords env))) := by
  cases func <;> first | rfl | exact absurd rfl (h _ _ _)

theorem EV.call {func : Expr} {args : List Expr} {pos : Pos} {a : Addr} {ds : List D} {d : D} {k : Nat} (hf : EV g f n σ func (.fn a)) (ha : ES g f n σ pos args ds) (hF : FN g k a ds d)
    (hkeep : keepIn g.K (.ref a) = true) (hkn : k ≤ n) (hne : ∀ o n p, func ≠ .Attribute o n p := by intro _ _ _ h; cases h) (hne' : args ≠ [] := by intro h; cases h)
    (he : ∀ e es, args = e :: es → starEach args f.env = (false, eval e f.env) :: starEach es f.env ∧ (backTo pos (starEach es f.env)).any (·.1) = false := by (intro _ _ h; cases h; exact ⟨rfl, rfl⟩)) : EV g f n σ (.Call func args [] pos) d :=
  fun A E s R Q hA hS q => by
    (refine rwt (eval_Call_eq hne) ?_)
    refine wpAny_bind (hf A E s R _ hA hS fun v R₁ s₁ r₁ i₁ => ?_)
    (first | refine Is.eInt i₁ fun _ => ?_ | refine Is.eFn i₁ ?_ | refine Is.eBool i₁ ?_ | refine Is.eStr i₁ fun _ => ?_ | refine Is.eNone i₁ ?_ | cases i₁)
    cases args with
    | nil => exact absurd rfl hne'
    | cons e es =>
      obtain ⟨h1, h2⟩ := he e es rfl
      have S₁ := hS.gr r₁
      refine callWith_K (h₀ := s₁.heap) S₁.glOk.k hkeep (ha A E s₁ R₁ _ hA S₁ fun vs R₂ s₂ r₂ i₂ => ⟨(S₁.gr r₂).glOk.k, ?_⟩) h1 h2
      exact hF A E s₂ R₂ vs _ (hA.le hkn) (S₁.gr r₂).glOk r₂.led i₂ fun v R₃ s₃ r₃ i₃ => q v R₃ s₃ ((r₁.trans r₂).trans r₃) i₃

/-! ## storing -/
def Sl.plain : Sl → Bool
  | .own _ => false
  | _ => true
inductive Upd (x : Str) (v : Sl) : Vars → Vars → Prop
  | here {s : Sl} {r : Vars} : s.plain = true → Upd x v ((x, s) :: r) ((x, v) :: r)
  | tail {p : Str × Sl} {r r' : Vars} : Upd x v r r' → Upd x v (p :: r) (p :: r')
theorem Upd.keys {x : Str} {v : Sl} {σ σ' : Vars} (u : Upd x v σ σ') : σ'.map (·.1) = σ.map (·.1) := by
  induction u with
  | here => rfl
  | tail _ ih => (refine rwt List.map_cons ?_; refine rwt List.map_cons ?_; refine rwt ih ?_; with_reducible rfl)
theorem Upd.inKeys {x : Str} {v : Sl} {σ σ' : Vars} (u : Upd x v σ σ') : x ∈ σ.map (·.1) := by
  induction u with
  | here => exact .head _
  | tail _ ih => exact .tail _ ih
theorem Upd.mem {x : Str} {v : Sl} {σ σ' : Vars} (u : Upd x v σ σ') (nd : (σ.map (·.1)).Nodup) : ∀ p ∈ σ', (p ∈ σ ∧ p.1 ≠ x) ∨ p = (x, v) := by
  induction u with
  | here hs =>
    rename_i s r
    intro p hp
    rw [List.map_cons, List.nodup_cons] at nd
    rcases List.mem_cons.mp hp with rfl | hp
    · exact .inr rfl
    · exact .inl ⟨.tail _ hp, fun e => nd.1 (List.mem_map.mpr ⟨p, hp, e⟩)⟩
  | tail u ih =>
    rename_i q r r'
    intro p hp
    rw [List.map_cons, List.nodup_cons] at nd
    rcases List.mem_cons.mp hp with rfl | hp
    · exact .inl ⟨.head _, fun e => nd.1 (e ▸ u.inKeys)⟩
    · exact (ih nd.2 p hp).imp (fun h => ⟨.tail _ h.1, h.2⟩) id
theorem Upd.old {x : Str} {v : Sl} {σ σ' : Vars} (u : Upd x v σ σ') : ∃ s, s.plain = true ∧ (x, s) ∈ σ := by
  induction u with
  | here hs => exact ⟨_, hs, .head _⟩
  | tail _ ih => obtain ⟨s, h, k⟩ := ih; exact ⟨s, h, .tail _ k⟩

theorem StM.store {R : Led} {h h' : Heap} {m : Str → Option Value} {x : Str} {v : Value} {d : D} {σ' : Vars} (S : StM g f σ R h m) (u : Upd x (.val d) σ σ') (i : Is R v d)
    (hn : h'.Ns f.env.locals (fun y => if y = x then some v else m y)) (hs : Heap.SameBut f.env.locals h h') : StM g f σ' R h' (fun y => if y = x then some v else m y) where
  fr := S.fr.set hn hs
  gl := S.gl
  led := fun p hp => ⟨(hs.2 _ (S.led p hp).2.1).trans (S.led p hp).1, (S.led p hp).2⟩
  sub := S.sub
  nd := by (refine rwt u.keys ?_); exact S.nd
  vars := fun y d' hy => by
    rcases u.mem S.nd _ hy with ⟨h1, h2⟩ | e
    · refine xe1_2 (S.vars y d' h1) fun v' h3 h4 => ?_
      exact ⟨v', by (refine rwt (if_neg h2) ?_); exact h3, h4⟩
    · cases e; exact ⟨v, if_pos rfl, i⟩
  own := fun y ds hy => by
    rcases u.mem S.nd _ hy with ⟨h1, h2⟩ | e
    · refine xe3_5 (S.own y ds h1) fun q vs k h3 h4 h5 h6 h7 => ?_
      exact ⟨q, vs, k, by (refine rwt (if_neg h2) ?_); exact h3, (hs.2 _ h6).trans h4, h5, h6, h7⟩
    · cases e
  one := fun y ds z es hy hz => by
    rcases u.mem S.nd _ hy with ⟨h1, _⟩ | e
    · rcases u.mem S.nd _ hz with ⟨h2, _⟩ | e
      · exact S.one y ds z es h1 h2
      · cases e
    · cases e

/-- storing a local name -/
theorem store_ {A : Around} {E : Value → Shared → Prop} {s : Shared} {R : Led} {x : Str} {v : Value} {d : D} {σ' : Vars} {Q : Unit → Shared → Prop} (S : St g f σ R s.heap) (i : Is R v d) (u : Upd x (.val d) σ σ')
    (h : ∀ s', Rest s s' → St g f σ' R s'.heap → Q () s') (hl : f.env.kindOf x = some .local := by rfl)
    (hp : (f.env.scope.kind == .class || (f.env.scope.kind == .module && f.env.locals != f.env.globals)) = false := by rfl) : wpAny g.M A (storeName f.env x v) Q E s := by
  refine xe1_1 S fun m S => ?_
  exact wpAny_storeName_local hl S.fr.ns (fun h' hn hs => h _ .mk' ⟨_, S.store u i hn hs⟩) hp

theorem St.weaken {R : Led} {h : Heap} {σ' : Vars} (S : St g f σ R h) (hs : ∀ p ∈ σ', p ∈ σ) (nd : (σ'.map (·.1)).Nodup) : St g f σ' R h := by
  refine xe1_1 S fun m S => ?_
  exact ⟨m, S.fr, S.gl, S.led, S.sub, nd, fun x d hx => S.vars x d (hs _ hx), fun x ds hx => S.own x ds (hs _ hx), fun x ds y es hx hy => S.one x ds y es (hs _ hx) (hs _ hy)⟩

/-! ## statements -/
inductive Out where
  | next (σ : Vars)
  | brk (σ : Vars)
  | cont (σ : Vars)
  | ret (d : D)
def OutOk (g : Gl) (f : Fm) (R : Led) (h : Heap) : Out → Flow → Prop
  | .next σ, fl => fl = .next ∧ St g f σ R h
  | .brk σ, fl => fl = .brk ∧ St g f σ R h
  | .cont σ, fl => fl = .cont ∧ St g f σ R h
  | .ret d, fl => ∃ v, fl = .ret v ∧ Is R v d ∧ St g f [] R h

def WX (g : Gl) (f : Fm) (n : Nat) (σ : Vars) (st : Stmt) (Q : Out → Prop) : Prop :=
  ∀ (A : Around) (E : Value → Shared → Prop) (s : Shared) (R : Led) (K : Flow → Shared → Prop), AOk n A → St g f σ R s.heap →
    (∀ o fl R' s', Q o → Rest s s' → (∀ p ∈ R, p ∈ R') → OutOk g f R' s'.heap o fl → K fl s') → wpAny g.M A (exec st f.env) K E s
def WP (g : Gl) (f : Fm) (n : Nat) (σ : Vars) (ss : List Stmt) (Q : Out → Prop) : Prop :=
  ∀ (A : Around) (E : Value → Shared → Prop) (s : Shared) (R : Led) (K : Flow → Shared → Prop), AOk n A → St g f σ R s.heap →
    (∀ o fl R' s', Q o → Rest s s' → (∀ p ∈ R, p ∈ R') → OutOk g f R' s'.heap o fl → K fl s') → wpAny g.M A (execs ss f.env) K E s

theorem WP.mono {ss : List Stmt} {Q Q' : Out → Prop} (h : WP g f n σ ss Q) (hq : ∀ o, Q o → Q' o) : WP g f n σ ss Q' :=
  fun A E s R K hA hS k => h A E s R K hA hS fun o fl R' s' q => k o fl R' s' (hq o q)
theorem WX.mono {st : Stmt} {Q Q' : Out → Prop} (h : WX g f n σ st Q) (hq : ∀ o, Q o → Q' o) : WX g f n σ st Q' :=
  fun A E s R K hA hS k => h A E s R K hA hS fun o fl R' s' q => k o fl R' s' (hq o q)
theorem WP.nil {Q : Out → Prop} (h : Q (.next σ)) : WP g f n σ [] Q := fun A E s R K hA hS k => wpAny_execs_nil (k _ _ R s h (.refl _) (fun _ h => h) ⟨rfl, hS⟩)
def Then (g : Gl) (f : Fm) (n : Nat) (rest : List Stmt) (Q : Out → Prop) : Out → Prop
  | .next σ' => WP g f n σ' rest Q
  | o => Q o
theorem WP.cons {st : Stmt} {rest : List Stmt} {Q : Out → Prop} (h : WX g f n σ st (Then g f n rest Q)) : WP g f n σ (st :: rest) Q :=
  fun A E s R K hA hS k => wpAny_execs_cons (h A E s R _ hA hS fun o fl R₁ s₁ q r₁ m₁ ok => by
    cases o with
    | next σ' =>
      obtain ⟨rfl, S₁⟩ := ok
      exact q A E s₁ R₁ K hA S₁ fun o fl R₂ s₂ q₂ r₂ m₂ ok₂ => k o fl R₂ s₂ q₂ (r₁.trans r₂) (fun p hp => m₂ p (m₁ p hp)) ok₂
    | brk σ' => obtain ⟨rfl, S₁⟩ := ok; exact k _ _ R₁ s₁ q r₁ m₁ ⟨rfl, S₁⟩
    | cont σ' => obtain ⟨rfl, S₁⟩ := ok; exact k _ _ R₁ s₁ q r₁ m₁ ⟨rfl, S₁⟩
    | ret d => obtain ⟨v, rfl, i, S₁⟩ := ok; exact k _ _ R₁ s₁ q r₁ m₁ ⟨v, rfl, i, S₁⟩)

theorem St.nil {R : Led} {h : Heap} (S : St g f σ R h) : St g f [] R h := S.weaken (fun _ h => nomatch h) .nil

theorem WX.ret {e : Expr} {pos : Pos} {d : D} {Q : Out → Prop} (h : EV g f n σ e d) (q : Q (.ret d)) : WX g f n σ (.Return (some e) pos) Q :=
  fun A E s R K hA hS k => wpAny_Return_some (h A E s R _ hA hS fun v R₁ s₁ r₁ i₁ => k _ _ R₁ s₁ q r₁.rest r₁.sub ⟨v, rfl, i₁, (hS.gr r₁).nil⟩)
theorem WX.brk {pos : Pos} {Q : Out → Prop} (q : Q (.brk σ)) : WX g f n σ (.Break pos) Q := fun A E s R K hA hS k => wpAny_Break (k _ _ R s q (.refl _) (fun _ h => h) ⟨rfl, hS⟩)
theorem WX.assign {x : Str} {p pos : Pos} {e : Expr} {d : D} {σ' : Vars} {Q : Out → Prop} (h : EV g f n σ e d) (u : Upd x (.val d) σ σ') (q : Q (.next σ'))
    (hs : swapsWith e (some (.Name x p)) pos.line f.env = pure false := by rfl) (hl : f.env.kindOf x = some .local := by rfl)
    (hp : (f.env.scope.kind == .class || (f.env.scope.kind == .module && f.env.locals != f.env.globals)) = false := by rfl) : WX g f n σ (.Assign [.Name x p] e pos) Q :=
  fun A E s R K hA hS k => wpAny_Assign_Name (h A E s R _ hA hS fun v R₁ s₁ r₁ i₁ => store_ (hS.gr r₁) i₁ u (fun s₂ r₂ S₂ => k _ _ R₁ s₂ q (r₁.rest.trans r₂) r₁.sub ⟨rfl, S₂⟩) hl hp) hs
theorem WX.aug {x : Str} {p pos : Pos} {op : Operator} {e : Expr} {d₁ d₂ d : D} {σ' : Vars} {Q : Out → Prop} (hx : (x, Sl.val d₁) ∈ σ) (h : EV g f n σ e d₂) (ho : IOP g op d₁ d₂ d) (u : Upd x (.val d) σ σ') (q : Q (.next σ'))
    (hk : f.env.scope.kind = .function := by rfl) (hl : f.env.kindOf x = some .local := by rfl)
    (hp : (f.env.scope.kind == .class || (f.env.scope.kind == .module && f.env.locals != f.env.globals)) = false := by rfl) : WX g f n σ (.AugAssign (.Name x p) op e pos) Q :=
  fun A E s R K hA hS k => by
    refine xe1_1 (id hS) fun m S => ?_
    refine xe1_2 (S.vars x d₁ hx) fun v hv i => ?_
    refine wpAny_AugAssign_Name (wpAny_loadName_local hk hl S.fr.ns hv (h A E s R _ hA hS fun v₂ R₁ s₁ r₁ i₁ => ?_))
    refine ho A E s₁ R₁ v v₂ _ (hA.le (Nat.zero_le _)) r₁.led (i.mono r₁.sub) i₁ fun v₃ tk i₃ => ?_
    exact store_ (s := { s₁ with toks := tk }) (hS.gr (r₁.trans (.toks (tk := tk) r₁.led))) (i₃.mono nil_sub) u (fun s₂ r₂ S₂ => k _ _ R₁ s₂ q ((r₁.rest.trans .toks).trans r₂) r₁.sub ⟨rfl, S₂⟩) hl hp
theorem WX.if_ {t : Expr} {body orelse : List Stmt} {pos : Pos} {b : Bool} {Q : Out → Prop} (h : TR g f n σ t b) (ht : b = true → WP g f n σ body Q) (he : b = false → WP g f n σ orelse Q) : WX g f n σ (.If t body orelse pos) Q :=
  fun A E s R K hA hS k => wpAny_If (h A E s R _ hA hS fun R₁ s₁ r₁ => by
    cases b with
    | true => exact ht rfl A E s₁ R₁ K hA (hS.gr r₁) fun o fl R₂ s₂ q r₂ m₂ ok => k o fl R₂ s₂ q (r₁.rest.trans r₂) (fun p hp => m₂ p (r₁.sub p hp)) ok
    | false => exact he rfl A E s₁ R₁ K hA (hS.gr r₁) fun o fl R₂ s₂ q r₂ m₂ ok => k o fl R₂ s₂ q (r₁.rest.trans r₂) (fun p hp => m₂ p (r₁.sub p hp)) ok)

/-- a while: I k σ holds ahead of each turn, k falls -/
theorem WX.while_ {test : Expr} {body : List Stmt} {pos : Pos} {Q : Out → Prop} (I : Nat → Vars → Prop) (k₀ : Nat) (h0 : I k₀ σ)
    (turn : ∀ k σ, I k σ → ∃ b, TR g f n σ test b ∧ (b = true → WP g f n σ body (fun o => match o with
      | .next σ' => ∃ j, j < k ∧ I j σ'
      | .cont σ' => ∃ j, j < k ∧ I j σ'
      | .brk σ' => Q (.next σ')
      | .ret d => Q (.ret d))) ∧ (b = false → Q (.next σ))) : WX g f n σ (.While test body [] pos) Q :=
  fun A E s R K hA hS kk => by
    refine wpAny_While (codeAny_whileLoop (fun k s' => ∃ σ' R', I k σ' ∧ Rest s s' ∧ (∀ p ∈ R, p ∈ R') ∧ St g f σ' R' s'.heap) ?_ k₀ ⟨σ, R, h0, .refl _, fun _ h => h, hS⟩)
    intro k s' hh_
    refine xe2_4 hh_ fun σ' R' hI r' m' S' => ?_
    try clear hh_
    refine xe1_3 (turn k σ' hI) fun b hT ht hf => ?_
    refine hT A _ s' R' _ hA S' fun R₁ s₁ g₁ => ?_
    have r₁ := g₁.rest
    have m₁ := g₁.sub
    have S₁ := S'.gr g₁
    cases b with
    | false => exact wpAny_execs_nil (kk _ _ R₁ s₁ (hf rfl) (r'.trans r₁) (fun p hp => m₁ p (m' p hp)) ⟨rfl, S₁⟩)
    | true =>
      refine ht rfl A _ s₁ R₁ _ hA S₁ fun o fl R₂ s₂ q r₂ m₂ ok => ?_
      cases o with
      | next σ₂ => obtain ⟨rfl, S₂⟩ := ok; obtain ⟨j, hj, hI'⟩ := q; exact ⟨j, hj, σ₂, R₂, hI', (r'.trans r₁).trans r₂, fun p hp => m₂ p (m₁ p (m' p hp)), S₂⟩
      | cont σ₂ => obtain ⟨rfl, S₂⟩ := ok; obtain ⟨j, hj, hI'⟩ := q; exact ⟨j, hj, σ₂, R₂, hI', (r'.trans r₁).trans r₂, fun p hp => m₂ p (m₁ p (m' p hp)), S₂⟩
      | brk σ₂ => obtain ⟨rfl, S₂⟩ := ok; exact kk _ _ R₂ s₂ q ((r'.trans r₁).trans r₂) (fun p hp => m₂ p (m₁ p (m' p hp))) ⟨rfl, S₂⟩
      | ret d => obtain ⟨v, rfl, i, S₂⟩ := ok; exact kk _ _ R₂ s₂ q ((r'.trans r₁).trans r₂) (fun p hp => m₂ p (m₁ p (m' p hp))) ⟨v, rfl, i, S₂⟩
end
end
section
open PySem PySem.W PySem.Calls PyProof.Rows PySem.Spec

section
variable {g : Gl} {f : Fm} {n : Nat} {σ : Vars}

/-! ## ints -/
theorem OP.add {a b : Int} : OP g .Add (.int a) (.int b) (.int (a + b)) := fun A E s R v₁ v₂ Q hA hL i₁ i₂ q => by (first | refine Is.eInt i₁ fun _ => ?_ | refine Is.eFn i₁ ?_ | refine Is.eBool i₁ ?_ | refine Is.eStr i₁ fun _ => ?_ | refine Is.eNone i₁ ?_ | cases i₁); (first | refine Is.eInt i₂ fun _ => ?_ | refine Is.eFn i₂ ?_ | refine Is.eBool i₂ ?_ | refine Is.eStr i₂ fun _ => ?_ | refine Is.eNone i₂ ?_ | cases i₂); exact add_int (q _ _ (.int _ _))
theorem OP.sub {a b : Int} : OP g .Sub (.int a) (.int b) (.int (a - b)) := fun A E s R v₁ v₂ Q hA hL i₁ i₂ q => by (first | refine Is.eInt i₁ fun _ => ?_ | refine Is.eFn i₁ ?_ | refine Is.eBool i₁ ?_ | refine Is.eStr i₁ fun _ => ?_ | refine Is.eNone i₁ ?_ | cases i₁); (first | refine Is.eInt i₂ fun _ => ?_ | refine Is.eFn i₂ ?_ | refine Is.eBool i₂ ?_ | refine Is.eStr i₂ fun _ => ?_ | refine Is.eNone i₂ ?_ | cases i₂); exact sub_int (q _ _ (.int _ _))
theorem OP.mul {a b : Int} (h : a.natAbs < 2 ^ 64) : OP g .Mult (.int a) (.int b) (.int (a * b)) := fun A E s R v₁ v₂ Q hA hL i₁ i₂ q => by
  (first | refine Is.eInt i₁ fun _ => ?_ | refine Is.eFn i₁ ?_ | refine Is.eBool i₁ ?_ | refine Is.eStr i₁ fun _ => ?_ | refine Is.eNone i₁ ?_ | cases i₁); (first | refine Is.eInt i₂ fun _ => ?_ | refine Is.eFn i₂ ?_ | refine Is.eBool i₂ ?_ | refine Is.eStr i₂ fun _ => ?_ | refine Is.eNone i₂ ?_ | cases i₂); exact mul_int (q _ _ (.int _ _)) (.of_left (intBits_le_64 (by exact oq8 h) (by exact oq9 h)))
theorem OP.div {a b : Int} (hb : b ≠ 0) (h : b.natAbs < 1073741824) : OP g .FloorDiv (.int a) (.int b) (.int (a.fdiv b)) := fun A E s R v₁ v₂ Q hA hL i₁ i₂ q => by
  (first | refine Is.eInt i₁ fun _ => ?_ | refine Is.eFn i₁ ?_ | refine Is.eBool i₁ ?_ | refine Is.eStr i₁ fun _ => ?_ | refine Is.eNone i₁ ?_ | cases i₁); (first | refine Is.eInt i₂ fun _ => ?_ | refine Is.eFn i₂ ?_ | refine Is.eBool i₂ ?_ | refine Is.eStr i₂ fun _ => ?_ | refine Is.eNone i₂ ?_ | cases i₂); exact floordiv_int hb (q _ _ (.int _ _)) (.inl (PyProof.noPylong_small h))
theorem OP.mod {a b : Int} (hb : b ≠ 0) : OP g .Mod (.int a) (.int b) (.int (a.fmod b)) := fun A E s R v₁ v₂ Q hA hL i₁ i₂ q => by
  (first | refine Is.eInt i₁ fun _ => ?_ | refine Is.eFn i₁ ?_ | refine Is.eBool i₁ ?_ | refine Is.eStr i₁ fun _ => ?_ | refine Is.eNone i₁ ?_ | cases i₁); (first | refine Is.eInt i₂ fun _ => ?_ | refine Is.eFn i₂ ?_ | refine Is.eBool i₂ ?_ | refine Is.eStr i₂ fun _ => ?_ | refine Is.eNone i₂ ?_ | cases i₂); exact mod_int' hb (q _ _ (.int _ _))
theorem OP.shl {a k : Int} (hk : 0 ≤ k) (hk2 : k ≤ 1000000) (ha : a.natAbs < 2 ^ 64) : OP g .LShift (.int a) (.int k) (.int (a * 2 ^ k.toNat)) := fun A E s R v₁ v₂ Q hA hL i₁ i₂ q => by
  (first | refine Is.eInt i₁ fun _ => ?_ | refine Is.eFn i₁ ?_ | refine Is.eBool i₁ ?_ | refine Is.eStr i₁ fun _ => ?_ | refine Is.eNone i₁ ?_ | cases i₁); (first | refine Is.eInt i₂ fun _ => ?_ | refine Is.eFn i₂ ?_ | refine Is.eBool i₂ ?_ | refine Is.eStr i₂ fun _ => ?_ | refine Is.eNone i₂ ?_ | cases i₂); exact lshift_int_small hk hk2 ha (q _ _ (.int _ _))
theorem OP.shr {a k : Int} (hk : 0 ≤ k) : OP g .RShift (.int a) (.int k) (.int (a.fdiv (2 ^ k.toNat))) := fun A E s R v₁ v₂ Q hA hL i₁ i₂ q => by
  (first | refine Is.eInt i₁ fun _ => ?_ | refine Is.eFn i₁ ?_ | refine Is.eBool i₁ ?_ | refine Is.eStr i₁ fun _ => ?_ | refine Is.eNone i₁ ?_ | cases i₁); (first | refine Is.eInt i₂ fun _ => ?_ | refine Is.eFn i₂ ?_ | refine Is.eBool i₂ ?_ | refine Is.eStr i₂ fun _ => ?_ | refine Is.eNone i₂ ?_ | cases i₂); exact rshift_int hk (q _ _ (.int _ _))
theorem OP.and {a b : Int} : OP g .BitAnd (.int a) (.int b) (.int (Builtin.bitAnd a b)) := fun A E s R v₁ v₂ Q hA hL i₁ i₂ q => by
  (first | refine Is.eInt i₁ fun _ => ?_ | refine Is.eFn i₁ ?_ | refine Is.eBool i₁ ?_ | refine Is.eStr i₁ fun _ => ?_ | refine Is.eNone i₁ ?_ | cases i₁); (first | refine Is.eInt i₂ fun _ => ?_ | refine Is.eFn i₂ ?_ | refine Is.eBool i₂ ?_ | refine Is.eStr i₂ fun _ => ?_ | refine Is.eNone i₂ ?_ | cases i₂); exact and_int (q _ _ (.int _ _))
theorem OP.subB {a b : Bool} : OP g .Sub (.bool a) (.bool b) (.int (b2i a - b2i b)) := fun A E s R v₁ v₂ Q hA hL i₁ i₂ q => by
  (first | refine Is.eInt i₁ fun _ => ?_ | refine Is.eFn i₁ ?_ | refine Is.eBool i₁ ?_ | refine Is.eStr i₁ fun _ => ?_ | refine Is.eNone i₁ ?_ | cases i₁); (first | refine Is.eInt i₂ fun _ => ?_ | refine Is.eFn i₂ ?_ | refine Is.eBool i₂ ?_ | refine Is.eStr i₂ fun _ => ?_ | refine Is.eNone i₂ ?_ | cases i₂); exact sub_bool (q _ _ (.int _ _))
theorem IOP.add {a b : Int} : IOP g .Add (.int a) (.int b) (.int (a + b)) := fun A E s R v₁ v₂ Q hA hL i₁ i₂ q => by (first | refine Is.eInt i₁ fun _ => ?_ | refine Is.eFn i₁ ?_ | refine Is.eBool i₁ ?_ | refine Is.eStr i₁ fun _ => ?_ | refine Is.eNone i₁ ?_ | cases i₁); (first | refine Is.eInt i₂ fun _ => ?_ | refine Is.eFn i₂ ?_ | refine Is.eBool i₂ ?_ | refine Is.eStr i₂ fun _ => ?_ | refine Is.eNone i₂ ?_ | cases i₂); exact iadd_int (q _ _ (.int _ _))
theorem IOP.sub {a b : Int} : IOP g .Sub (.int a) (.int b) (.int (a - b)) := fun A E s R v₁ v₂ Q hA hL i₁ i₂ q => by (first | refine Is.eInt i₁ fun _ => ?_ | refine Is.eFn i₁ ?_ | refine Is.eBool i₁ ?_ | refine Is.eStr i₁ fun _ => ?_ | refine Is.eNone i₁ ?_ | cases i₁); (first | refine Is.eInt i₂ fun _ => ?_ | refine Is.eFn i₂ ?_ | refine Is.eBool i₂ ?_ | refine Is.eStr i₂ fun _ => ?_ | refine Is.eNone i₂ ?_ | cases i₂); exact isub_int (q _ _ (.int _ _))
theorem IOP.shr {a k : Int} (hk : 0 ≤ k) : IOP g .RShift (.int a) (.int k) (.int (a.fdiv (2 ^ k.toNat))) := fun A E s R v₁ v₂ Q hA hL i₁ i₂ q => by
  (first | refine Is.eInt i₁ fun _ => ?_ | refine Is.eFn i₁ ?_ | refine Is.eBool i₁ ?_ | refine Is.eStr i₁ fun _ => ?_ | refine Is.eNone i₁ ?_ | cases i₁); (first | refine Is.eInt i₂ fun _ => ?_ | refine Is.eFn i₂ ?_ | refine Is.eBool i₂ ?_ | refine Is.eStr i₂ fun _ => ?_ | refine Is.eNone i₂ ?_ | cases i₂); exact irshift_int hk (q _ _ (.int _ _))

theorem CMP.eqI {a b : Int} : CMP g .Eq (.int a) (.int b) (a == b) := fun A E s R v₁ v₂ Q hA hL i₁ i₂ q => by (first | refine Is.eInt i₁ fun _ => ?_ | refine Is.eFn i₁ ?_ | refine Is.eBool i₁ ?_ | refine Is.eStr i₁ fun _ => ?_ | refine Is.eNone i₁ ?_ | cases i₁); (first | refine Is.eInt i₂ fun _ => ?_ | refine Is.eFn i₂ ?_ | refine Is.eBool i₂ ?_ | refine Is.eStr i₂ fun _ => ?_ | refine Is.eNone i₂ ?_ | cases i₂); exact eq_int (q s.toks)
theorem CMP.neI {a b : Int} : CMP g .NotEq (.int a) (.int b) (a != b) := fun A E s R v₁ v₂ Q hA hL i₁ i₂ q => by (first | refine Is.eInt i₁ fun _ => ?_ | refine Is.eFn i₁ ?_ | refine Is.eBool i₁ ?_ | refine Is.eStr i₁ fun _ => ?_ | refine Is.eNone i₁ ?_ | cases i₁); (first | refine Is.eInt i₂ fun _ => ?_ | refine Is.eFn i₂ ?_ | refine Is.eBool i₂ ?_ | refine Is.eStr i₂ fun _ => ?_ | refine Is.eNone i₂ ?_ | cases i₂); exact ne_int (q s.toks)
theorem CMP.ltI {a b : Int} : CMP g .Lt (.int a) (.int b) (decide (a < b)) := fun A E s R v₁ v₂ Q hA hL i₁ i₂ q => by (first | refine Is.eInt i₁ fun _ => ?_ | refine Is.eFn i₁ ?_ | refine Is.eBool i₁ ?_ | refine Is.eStr i₁ fun _ => ?_ | refine Is.eNone i₁ ?_ | cases i₁); (first | refine Is.eInt i₂ fun _ => ?_ | refine Is.eFn i₂ ?_ | refine Is.eBool i₂ ?_ | refine Is.eStr i₂ fun _ => ?_ | refine Is.eNone i₂ ?_ | cases i₂); exact lt_int (q s.toks)
theorem CMP.leI {a b : Int} : CMP g .LtE (.int a) (.int b) (decide (a ≤ b)) := fun A E s R v₁ v₂ Q hA hL i₁ i₂ q => by (first | refine Is.eInt i₁ fun _ => ?_ | refine Is.eFn i₁ ?_ | refine Is.eBool i₁ ?_ | refine Is.eStr i₁ fun _ => ?_ | refine Is.eNone i₁ ?_ | cases i₁); (first | refine Is.eInt i₂ fun _ => ?_ | refine Is.eFn i₂ ?_ | refine Is.eBool i₂ ?_ | refine Is.eStr i₂ fun _ => ?_ | refine Is.eNone i₂ ?_ | cases i₂); exact le_int (q s.toks)
theorem CMP.gtI {a b : Int} : CMP g .Gt (.int a) (.int b) (decide (b < a)) := fun A E s R v₁ v₂ Q hA hL i₁ i₂ q => by (first | refine Is.eInt i₁ fun _ => ?_ | refine Is.eFn i₁ ?_ | refine Is.eBool i₁ ?_ | refine Is.eStr i₁ fun _ => ?_ | refine Is.eNone i₁ ?_ | cases i₁); (first | refine Is.eInt i₂ fun _ => ?_ | refine Is.eFn i₂ ?_ | refine Is.eBool i₂ ?_ | refine Is.eStr i₂ fun _ => ?_ | refine Is.eNone i₂ ?_ | cases i₂); exact gt_int (q s.toks)
theorem CMP.geI {a b : Int} : CMP g .GtE (.int a) (.int b) (decide (b ≤ a)) := fun A E s R v₁ v₂ Q hA hL i₁ i₂ q => by (first | refine Is.eInt i₁ fun _ => ?_ | refine Is.eFn i₁ ?_ | refine Is.eBool i₁ ?_ | refine Is.eStr i₁ fun _ => ?_ | refine Is.eNone i₁ ?_ | cases i₁); (first | refine Is.eInt i₂ fun _ => ?_ | refine Is.eFn i₂ ?_ | refine Is.eBool i₂ ?_ | refine Is.eStr i₂ fun _ => ?_ | refine Is.eNone i₂ ?_ | cases i₂); exact ge_int (q s.toks)
theorem CMP.neB {a b : Bool} : CMP g .NotEq (.bool a) (.bool b) (a != b) := fun A E s R v₁ v₂ Q hA hL i₁ i₂ q => by (first | refine Is.eInt i₁ fun _ => ?_ | refine Is.eFn i₁ ?_ | refine Is.eBool i₁ ?_ | refine Is.eStr i₁ fun _ => ?_ | refine Is.eNone i₁ ?_ | cases i₁); (first | refine Is.eInt i₂ fun _ => ?_ | refine Is.eFn i₂ ?_ | refine Is.eBool i₂ ?_ | refine Is.eStr i₂ fun _ => ?_ | refine Is.eNone i₂ ?_ | cases i₂); exact ne_bool (q s.toks)
theorem CMP.eqB {a b : Bool} : CMP g .Eq (.bool a) (.bool b) (a == b) := fun A E s R v₁ v₂ Q hA hL i₁ i₂ q => by (first | refine Is.eInt i₁ fun _ => ?_ | refine Is.eFn i₁ ?_ | refine Is.eBool i₁ ?_ | refine Is.eStr i₁ fun _ => ?_ | refine Is.eNone i₁ ?_ | cases i₁); (first | refine Is.eInt i₂ fun _ => ?_ | refine Is.eFn i₂ ?_ | refine Is.eBool i₂ ?_ | refine Is.eStr i₂ fun _ => ?_ | refine Is.eNone i₂ ?_ | cases i₂); exact eq_bool (q s.toks)
theorem CMP.isN {d : D} : CMP g .Is d .none (match d with | .none => true | _ => false) := fun A E s R v₁ v₂ Q hA hL i₁ i₂ q => by
  (first | refine Is.eInt i₂ fun _ => ?_ | refine Is.eFn i₂ ?_ | refine Is.eBool i₂ ?_ | refine Is.eStr i₂ fun _ => ?_ | refine Is.eNone i₂ ?_ | cases i₂)
  refine is_none ?_
  (first | refine Is.eInt i₁ fun _ => ?_ | refine Is.eFn i₁ ?_ | refine Is.eBool i₁ ?_ | refine Is.eStr i₁ fun _ => ?_ | refine Is.eNone i₁ ?_ | cases i₁) <;> exact q s.toks

/-! ## strs -/
theorem CMP.eqS {x y : Str} : CMP g .Eq (.str x) (.str y) (x.cps.toList == y.cps.toList) := fun A E s R v₁ v₂ Q hA hL i₁ i₂ q => by (first | refine Is.eInt i₁ fun _ => ?_ | refine Is.eFn i₁ ?_ | refine Is.eBool i₁ ?_ | refine Is.eStr i₁ fun _ => ?_ | refine Is.eNone i₁ ?_ | cases i₁); (first | refine Is.eInt i₂ fun _ => ?_ | refine Is.eFn i₂ ?_ | refine Is.eBool i₂ ?_ | refine Is.eStr i₂ fun _ => ?_ | refine Is.eNone i₂ ?_ | cases i₂); exact P.eq_str (q s.toks)
theorem CMP.inS {x y : Str} : CMP g .In (.str y) (.str x) (!(Builtin.Str.occurrences x y 0 x.length 1).isEmpty) := fun A E s R v₁ v₂ Q hA hL i₁ i₂ q => by (first | refine Is.eInt i₁ fun _ => ?_ | refine Is.eFn i₁ ?_ | refine Is.eBool i₁ ?_ | refine Is.eStr i₁ fun _ => ?_ | refine Is.eNone i₁ ?_ | cases i₁); (first | refine Is.eInt i₂ fun _ => ?_ | refine Is.eFn i₂ ?_ | refine Is.eBool i₂ ?_ | refine Is.eStr i₂ fun _ => ?_ | refine Is.eNone i₂ ?_ | cases i₂); exact P.in_str (q s.toks)

theorem str_empty {x : Str} (h : (x.length == 0) = true) : x = ⟨#[]⟩ := by
  obtain ⟨a⟩ := x
  have h' : a.size = 0 := by simpa [Str.length] using h
  rw [Array.size_eq_zero_iff] at h'
  (refine rwt h' ?_; with_reducible rfl)
theorem OP.addS {x y : Str} (hz : x.length + y.length ≤ 1000000) : OP g .Add (.str x) (.str y) (.str (x ++ y)) := fun A E s R v₁ v₂ Q hA hL i₁ i₂ q => by
  (first | refine Is.eInt i₁ fun _ => ?_ | refine Is.eFn i₁ ?_ | refine Is.eBool i₁ ?_ | refine Is.eStr i₁ fun _ => ?_ | refine Is.eNone i₁ ?_ | cases i₁); (first | refine Is.eInt i₂ fun _ => ?_ | refine Is.eFn i₂ ?_ | refine Is.eBool i₂ ?_ | refine Is.eStr i₂ fun _ => ?_ | refine Is.eNone i₂ ?_ | cases i₂)
  refine P.add_str ?_
  split
  · rename_i h
    have e : x ++ y = y := by (refine rwt (str_empty h) ?_); exact Str.empty_append ..
    rw [e] at q
    exact q _ s.toks (.str _ _)
  · split
    · rename_i h
      have e : x ++ y = x := by (refine rwt (str_empty h) ?_); apply Str.ext'; simp [Str.cps_append]
      rw [e] at q
      exact q _ s.toks (.str _ _)
    · exact ⟨by (refine rwt (Str.length_append ..) ?_; refine rwt sizeLine_eq ?_); exact oq10 hz, q _ _ (.str _ _)⟩

/-! ## lists, tuples: items -/
theorem EV.itemL {v i : Expr} {pos : Pos} {ds : List D} {k : Int} {d : D} (hv : EV g f n σ v (.list ds)) (hi : EV g f n σ i (.int k)) (h0 : 0 ≤ k) (hk : k < 2 ^ 63) (hd : ds[k.toNat]? = some d)
    (hs : ∀ o j, subscripted i false o j = operate [o, j] (getItem o j) := by intro _ _; rfl) : EV g f n σ (.Subscript v i pos) d :=
  fun A E s R Q hA hS q => Subscript_ (hv A E s R _ hA hS fun v₁ R₁ s₁ r₁ i₁ => hi A E s₁ R₁ _ hA (hS.gr r₁) fun v₂ R₂ s₂ r₂ i₂ => by
    (first | refine Is.eInt i₂ fun _ => ?_ | refine Is.eFn i₂ ?_ | refine Is.eBool i₂ ?_ | refine Is.eStr i₂ fun _ => ?_ | refine Is.eNone i₂ ?_ | cases i₂)
    cases i₁ with
    | list hm ha =>
      refine xe1_2 (ha.get hd) fun x hx ix => ?_
      have hl : s₂.heap.IsList _ _ := ⟨_, r₂.led _ (r₂.sub _ hm), rfl, _, rfl⟩
      exact tail_any hl.typeIs slot_list_getitem.lookup (wpAny_getItem_list hl h0 hk (by simpa using hx) (q x R₂ s₂ (r₁.trans r₂) (ix.mono r₂.sub))) (hs _ _))
theorem EV.itemT {v i : Expr} {pos : Pos} {ds : List D} {k : Int} {j : Nat} {d : D} (hv : EV g f n σ v (.tup ds)) (hi : EV g f n σ i (.int k)) (hj : seqIndex? k ds.length = some j) (hd : ds[j]? = some d) (hlo : -(2 ^ 63) ≤ k := by decide) (hk : k < 2 ^ 63 := by decide)
    (hs : ∀ o j, subscripted i false o j = operate [o, j] (getItem o j) := by intro _ _; rfl) : EV g f n σ (.Subscript v i pos) d :=
  fun A E s R Q hA hS q => Subscript_ (hv A E s R _ hA hS fun v₁ R₁ s₁ r₁ i₁ => hi A E s₁ R₁ _ hA (hS.gr r₁) fun v₂ R₂ s₂ r₂ i₂ => by
    (first | refine Is.eInt i₂ fun _ => ?_ | refine Is.eFn i₂ ?_ | refine Is.eBool i₂ ?_ | refine Is.eStr i₂ fun _ => ?_ | refine Is.eNone i₂ ?_ | cases i₂)
    cases i₁ with
    | tup hm ha =>
      refine xe1_2 (ha.get hd) fun x hx ix => ?_
      have hl : IsTup s₂.heap _ _ := ⟨_, r₂.led _ (r₂.sub _ hm), rfl, _, rfl⟩
      exact tail_any hl.typeIs slot_tuple_getitem.lookup (getItem_tuple hl hlo hk (by rw [← ha.length] at hj; simpa using hj) (by simpa using hx) (q x R₂ s₂ (r₁.trans r₂) (ix.mono r₂.sub))) (hs _ _))
theorem EV.itemS {v i : Expr} {pos : Pos} {x : Str} {k : Int} {c : Nat} (hv : EV g f n σ v (.str x)) (hi : EV g f n σ i (.int k)) (h0 : 0 ≤ k) (hk : k < 2 ^ 63) (hc : x.cps[k.toNat]? = some c)
    (hs : ∀ o j, subscripted i false o j = operate [o, j] (getItem o j) := by intro _ _; rfl) : EV g f n σ (.Subscript v i pos) (.str ⟨#[c]⟩) :=
  fun A E s R Q hA hS q => Subscript_ (hv A E s R _ hA hS fun v₁ R₁ s₁ r₁ i₁ => hi A E s₁ R₁ _ hA (hS.gr r₁) fun v₂ R₂ s₂ r₂ i₂ => by
    (first | refine Is.eInt i₂ fun _ => ?_ | refine Is.eFn i₂ ?_ | refine Is.eBool i₂ ?_ | refine Is.eStr i₂ fun _ => ?_ | refine Is.eNone i₂ ?_ | cases i₂); (first | refine Is.eInt i₁ fun _ => ?_ | refine Is.eFn i₁ ?_ | refine Is.eBool i₁ ?_ | refine Is.eStr i₁ fun _ => ?_ | refine Is.eNone i₁ ?_ | cases i₁)
    refine tail_any (typeIs_str _ _ _) F.slot_str_getitem.lookup (P.getItem_str (c := c) ?_ ?_ (q _ R₂ _ ((r₁.trans r₂).trans (.toks r₂.led)) (.str _ _))) (hs _ _)
    · (refine rwt (decide_eq_false (by exact oq11 h0)) ?_; refine rwt (decide_eq_false (by exact oq12 hk)) ?_); rfl
    · have hlt : k.toNat < x.cps.size := (Array.getElem?_eq_some_iff.mp hc).1
      have e : seqIndex? k x.length = some k.toNat := by
        have e1 : x.length = x.cps.size := rfl
        unfold seqIndex?
        have hj : (if k < 0 then k + (x.length : Int) else k) = k := if_neg (by exact oq13 h0)
        simp only [hj]
        (refine rwt (decide_eq_true h0) ?_; refine rwt (decide_eq_true (show k < (x.length : Int) by exact oq14 hlt e1)) ?_)
        rfl
      (refine rwt e ?_); exact hc)

/-! ## slices -/
def optI : Option Int → D
  | none => .none
  | some i => .int i
theorem part_of {R : Led} {v : Value} {o : Option Int} (h : Is R v (optI o)) : IsPart v o := by
  cases o with
  | none => cases h; exact .none
  | some i => cases h; exact .int i _
/-- a slice's part -/
inductive PT (g : Gl) (f : Fm) (n : Nat) (σ : Vars) : Option Expr → Option Int → Prop
  | none : PT g f n σ none none
  | some {e : Expr} {i : Int} : EV g f n σ e (.int i) → PT g f n σ (some e) (some i)
theorem PT.eval {e : Option Expr} {o : Option Int} (h : PT g f n σ e o) {A : Around} {E : Value → Shared → Prop} {s : Shared} {R : Led} {Q : Value → Shared → Prop} (hA : AOk n A) (hS : St g f σ R s.heap)
    (q : ∀ v R' s', Gr R s R' s' → Is R' v (optI o) → Q v s') : wpAny g.M A (evalPart e f.env) Q E s := by
  cases h with
  | none => exact wpAny_pure (q _ R s (.refl hS.ledIn) .none)
  | some h => exact h A E s R Q hA hS fun v R' s' r i => q v R' s' r i

theorem EV.sliceL {v : Expr} {lo hi : Option Expr} {p pos : Pos} {ds es : List D} {l u : Option Int} (hv : EV g f n σ v (.list ds)) (hl : PT g f n σ lo l) (hu : PT g f n σ hi u)
    (hz : ds.length ≤ 1000000) (he : ∀ vs : List Value, vs.length = ds.length → ∀ R, IsAll R vs ds → IsAll R (slicePick vs.toArray l u none).toList es)
    (ht : ∀ o r, letTemporaryGo v o r = pure () := by intro _ _; rfl) : EV g f n σ (.Subscript v (.Slice lo hi none p) pos) (.list es) :=
  fun A E s R Q hA hS q => wpAny_Subscript_list_slice (hv A E s R _ hA hS fun v₁ R₁ s₁ r₁ i₁ => hl.eval hA (hS.gr r₁) fun v₂ R₂ s₂ r₂ i₂ => hu.eval hA (hS.gr (r₁.trans r₂)) fun v₃ R₃ s₃ r₃ i₃ => by
    cases i₁ with
    | list hm ha =>
      rename_i a vs k
      have hm₃ := r₃.sub _ (r₂.sub _ hm)
      refine ⟨a, vs.toArray, l, u, rfl, ⟨_, r₃.led _ hm₃, rfl, _, rfl⟩, by (refine rwt List.size_toArray ?_; refine rwt ha.length ?_; refine rwt sizeLine_eq ?_); exact oq15 hz, part_of i₂, part_of i₃, ?_⟩
      have r₄ := ((r₁.trans r₂).trans r₃)
      have r₅ : Gr R₃ s₃ R₃ { s₃ with heap := s₃.heap.push { cls := .type "slice", data := .fields #[v₂, v₃, .none] } } := .grow r₃.led fun b o e => Heap.get?_push_of_some _ e
      have r₆ := r₄.trans r₅
      have r₇ := r₆.trans (.push r₆.led (o := { cls := .type "list", data := .seq (slicePick vs.toArray l u none) }))
      rw [Heap.size_push] at r₇
      refine q _ _ _ r₇ (.list (vs := (slicePick vs.toArray l u none).toList) (n := 0) ?_ ?_)
      · show (_, lstO (slicePick vs.toArray l u none).toList 0) ∈ _
        simp only [lstO, Array.toArray_toList]
        exact .head _
      · exact (he vs ha.length _ (ha.mono fun p hp => r₃.sub _ (r₂.sub _ hp))).mono fun p hp => .tail _ hp) ht

theorem EV.sliceS {v : Expr} {lo hi : Option Expr} {p pos : Pos} {x y : Str} {l u : Option Int} (hv : EV g f n σ v (.str x)) (hl : PT g f n σ lo l) (hu : PT g f n σ hi u)
    (hz : y.length ≤ 1000000) (he : ∀ l' u' : Option (Int × Tok), l'.map (·.1) = l → u'.map (·.1) = u → (if ((slicePicked x l' u' none).length == x.length) = true then x else ⟨((slicePicked x l' u' none).filterMap (x.cps[·]?)).toArray⟩) = y)
    (ht : ∀ o r, letTemporaryGo v o r = pure () := by intro _ _; rfl) : EV g f n σ (.Subscript v (.Slice lo hi none p) pos) (.str y) :=
  fun A E s R Q hA hS q => wpAny_Subscript_str_slice (hv A E s R _ hA hS fun v₁ R₁ s₁ r₁ i₁ => hl.eval hA (hS.gr r₁) fun v₂ R₂ s₂ r₂ i₂ => hu.eval hA (hS.gr (r₁.trans r₂)) fun v₃ R₃ s₃ r₃ i₃ => by
    cases i₁ with
    | str _ t =>
      have part : ∀ {R : Led} {v : Value} {o : Option Int}, Is R v (optI o) → ∃ o' : Option (Int × Tok), o'.map (·.1) = o ∧ v = partValue o' := by
        intro R v o h
        cases o with
        | none => cases h; exact ⟨none, rfl, rfl⟩
        | some i => cases h; rename_i t; exact ⟨some (i, t), rfl, rfl⟩
      refine xe1_2 (part i₂) fun l' e2 e_1 => ?_
      subst e_1
      refine xe1_2 (part i₃) fun u' e3 e_1 => ?_
      subst e_1
      refine ⟨x, t, l', u', rfl, rfl, rfl, ?_⟩
      have r₅ : Gr R₃ s₃ R₃ { s₃ with heap := s₃.heap.push { cls := .type "slice", data := .fields #[partValue l', partValue u', .none] } } := .grow r₃.led fun b o e => Heap.get?_push_of_some _ e
      have r₆ := ((r₁.trans r₂).trans r₃).trans r₅
      have hy := he l' u' e2 e3
      unfold sliceMade
      simp only [Option.map_none, Option.getD_none, beq_self_eq_true, Bool.true_and]
      split
      · rename_i h
        rw [if_pos h] at hy
        subst hy
        exact q _ R₃ _ r₆ (.str _ _)
      · rename_i h
        rw [if_neg h] at hy
        subst hy
        exact ⟨by (refine rwt sizeLine_eq ?_); exact oq15 hz, q _ R₃ _ (r₆.trans (.toks r₆.led)) (.str _ _)⟩) ht
end
end
section
open PySem PySem.W PySem.Calls PyProof.Rows PySem.Spec

section
variable {g : Gl} {f : Fm} {n : Nat} {σ : Vars}

/-! ## len, abs -/
theorem starEach_one {e : Expr} {env : Env} (h : starEach [e] env = [(false, eval e env)]) : starEach (e :: []) env = (false, eval e env) :: starEach [] env := h

theorem EV.len {e : Expr} {p pos : Pos} {ds : List D} (he : EV g f n σ e (.list ds)) (hz : ds.length ≤ 1000000) (hg : nsIn g.K mainGlobals "len" = some none)
    (hs : starEach [e] f.env = [(false, eval e f.env)] := by rfl) (hk : f.env.scope.kind = .function := by rfl) (hx : f.env.kindOf "len" = some .globalImplicit := by rfl)
    (hgl : f.env.globals = mainGlobals := by rfl) (hb : f.env.builtins = builtinsNs := by rfl) : EV g f n σ (.Call (.Name "len" p) [e] [] pos) (.int ds.length) :=
  fun A E s R Q hA hS q => Call_Name1 (name_bi hS hg (show bootBuiltins "len" = some (.builtin "len") by decide +kernel) (callWith_builtin1 (he A E s R _ hA hS fun v R₁ s₁ r₁ i₁ => by
    cases i₁ with
    | list hm ha =>
      rename_i a vs k
      have hl : s₁.heap.IsList a vs.toArray := ⟨_, r₁.led _ hm, rfl, _, rfl⟩
      refine len_list hl (by (refine rwt List.size_toArray ?_; refine rwt ha.length ?_); exact oq16 hz) ?_
      (refine rwt List.size_toArray ?_; refine rwt ha.length ?_)
      exact q _ R₁ _ (r₁.trans (.toks r₁.led)) (.int _ _))) (by decide) hk hx hgl hb) hs
theorem EV.lenS {e : Expr} {p pos : Pos} {x : Str} (he : EV g f n σ e (.str x)) (hz : x.length ≤ 1000000) (hg : nsIn g.K mainGlobals "len" = some none)
    (hs : starEach [e] f.env = [(false, eval e f.env)] := by rfl) (hk : f.env.scope.kind = .function := by rfl) (hx : f.env.kindOf "len" = some .globalImplicit := by rfl)
    (hgl : f.env.globals = mainGlobals := by rfl) (hb : f.env.builtins = builtinsNs := by rfl) : EV g f n σ (.Call (.Name "len" p) [e] [] pos) (.int x.length) :=
  fun A E s R Q hA hS q => Call_Name1 (name_bi hS hg (show bootBuiltins "len" = some (.builtin "len") by decide +kernel) (callWith_builtin1 (he A E s R _ hA hS fun v R₁ s₁ r₁ i₁ => by
    (first | refine Is.eInt i₁ fun _ => ?_ | refine Is.eFn i₁ ?_ | refine Is.eBool i₁ ?_ | refine Is.eStr i₁ fun _ => ?_ | refine Is.eNone i₁ ?_ | cases i₁)
    exact P.len_str (by exact oq17 hz) (q _ R₁ _ (r₁.trans (.toks r₁.led)) (.int _ _)))) (by decide) hk hx hgl hb) hs
theorem EV.abs {e : Expr} {p pos : Pos} {i : Int} (he : EV g f n σ e (.int i)) (hg : nsIn g.K mainGlobals "abs" = some none)
    (hs : starEach [e] f.env = [(false, eval e f.env)] := by rfl) (hk : f.env.scope.kind = .function := by rfl) (hx : f.env.kindOf "abs" = some .globalImplicit := by rfl)
    (hgl : f.env.globals = mainGlobals := by rfl) (hb : f.env.builtins = builtinsNs := by rfl) : EV g f n σ (.Call (.Name "abs" p) [e] [] pos) (.int (i.natAbs : Int)) :=
  fun A E s R Q hA hS q => Call_Name1 (name_bi hS hg (show bootBuiltins "abs" = some (.builtin "abs") by decide +kernel) (callWith_builtin1 (he A E s R _ hA hS fun v R₁ s₁ r₁ i₁ => by
    (first | refine Is.eInt i₁ fun _ => ?_ | refine Is.eFn i₁ ?_ | refine Is.eBool i₁ ?_ | refine Is.eStr i₁ fun _ => ?_ | refine Is.eNone i₁ ?_ | cases i₁)
    refine call_abs_int fun u tk => ?_
    have e : (if i < 0 then -i else i) = (i.natAbs : Int) := by split <;> (first | exact oq18 (by assumption) | exact oq19 (by assumption))
    (refine rwt e ?_)
    exact q _ R₁ _ (r₁.trans (.toks r₁.led)) (.int _ _))) (by decide) hk hx hgl hb) hs

/-! ## several names at once -/
inductive Upds : List (Str × D) → Vars → Vars → Prop
  | nil {σ : Vars} : Upds [] σ σ
  | cons {x : Str} {d : D} {r : List (Str × D)} {σ σ₁ σ₂ : Vars} : Upd x (.val d) σ σ₁ → Upds r σ₁ σ₂ → Upds ((x, d) :: r) σ σ₂

theorem Upds.eNil {P : Prop} {σ σ' : Vars} (u : Upds [] σ σ') (q : σ' = σ → P) : P := by cases u; exact q rfl
theorem Upds.eTwo {P : Prop} {x y : Str} {d e : D} {σ σ' : Vars} (u : Upds [(x, d), (y, e)] σ σ') (q : ∀ σ₁, Upd x (.val d) σ σ₁ → Upd y (.val e) σ₁ σ' → P) : P := by
  cases u with | cons a u => cases u with | cons b u => cases u; exact q _ a b
@[elab_as_elim] theorem IsAll.eTwo {R : Led} {d e : D} {P : List Value → Prop} {vs : List Value} (h : IsAll R vs [d, e]) (q : ∀ v v', Is R v d → Is R v' e → P [v, v']) : P vs := by
  cases h with | cons a h => cases h with | cons b h => cases h; exact q _ _ a b
theorem storeAll {A : Around} {E : Value → Shared → Prop} {R : Led} {Q : Unit → Shared → Prop} (xs : List Str) : ∀ {ds : List D} {vs : List Value} {s : Shared} {σ σ' : Vars}, St g f σ R s.heap → IsAll R vs ds → xs.length = ds.length → Upds (xs.zip ds) σ σ' →
    (∀ x ∈ xs, f.env.kindOf x = some .local) → (f.env.scope.kind == .class || (f.env.scope.kind == .module && f.env.locals != f.env.globals)) = false → (∀ s', Rest s s' → St g f σ' R s'.heap → Q () s') →
    wpAny g.M A (assignInOrder (xs.map fun x => bindName f.env x) vs) Q E s := by
  induction xs with
  | nil =>
    intro ds vs s σ σ' S i hl u _ _ q
    cases u
    exact assignInOrder_nil (q s (.refl s) S)
  | cons x xs ih =>
    intro ds vs s σ σ' S i hl u hk hp q
    cases i with
    | nil => cases hl
    | cons i is =>
      cases u with
      | cons u us =>
        (refine rwt List.map_cons ?_)
        refine assignInOrder_cons (bindName_ (store_ S i u (fun s₁ r₁ S₁ => ?_) (hk x (.head _)) hp))
        exact ih S₁ is (by simpa using hl) us (fun y hy => hk y (.tail _ hy)) hp fun s₂ r₂ S₂ => q s₂ (r₁.trans r₂) S₂

theorem assignEach_names {env : Env} (xs : List (Str × Pos)) : (assignEach (xs.map fun x => Expr.Name x.1 x.2) env) = xs.map fun x => (false, assign (.Name x.1 x.2) env) := by
  induction xs with
  | nil => rfl
  | cons x xs ih => (refine rwt List.map_cons ?_; refine rwt List.map_cons ?_; refine rws ih ?_); rfl
theorem storeNames {A : Around} {E : Value → Shared → Prop} {R : Led} {Q : Unit → Shared → Prop} (xs : List (Str × Pos)) : ∀ {ds : List D} {vs : List Value} {s : Shared} {σ σ' : Vars}, St g f σ R s.heap → IsAll R vs ds → xs.length = ds.length → Upds ((xs.map (·.1)).zip ds) σ σ' →
    (∀ x ∈ xs, f.env.kindOf x.1 = some .local) → (f.env.scope.kind == .class || (f.env.scope.kind == .module && f.env.locals != f.env.globals)) = false → (∀ s', Rest s s' → St g f σ' R s'.heap → Q () s') →
    wpAny g.M A (assignInOrder (xs.map fun x => assign (.Name x.1 x.2) f.env) vs) Q E s := by
  induction xs with
  | nil =>
    intro ds vs s σ σ' S i hl u _ _ q
    cases u
    exact assignInOrder_nil (q s (.refl s) S)
  | cons x xs ih =>
    intro ds vs s σ σ' S i hl u hk hp q
    cases i with
    | nil => cases hl
    | cons i is =>
      cases u with
      | cons u us =>
        (refine rwt List.map_cons ?_)
        refine assignInOrder_cons (wpAny_assign_Name (store_ S i u (fun s₁ r₁ S₁ => ?_) (hk x (.head _)) hp))
        exact ih S₁ is (by simpa using hl) us (fun y hy => hk y (.tail _ hy)) hp fun s₂ r₂ S₂ => q s₂ (r₁.trans r₂) S₂

/-- the targets of an unpacking, one value -/
theorem unpackTo {A : Around} {E : Value → Shared → Prop} {R : Led} {Q : Unit → Shared → Prop} {s : Shared} {v : Value} {ds : List D} {σ' : Vars} (xs : List (Str × Pos)) {k : Nat} {tp : Pos} {ts : List Expr} (ht : ts = xs.map fun x => Expr.Name x.1 x.2) (hA : AOk n A) (S : St g f σ R s.heap) (i : Is R v (.tup ds))
    (hl : xs.length = ds.length) (u : Upds ((xs.map (·.1)).zip ds) σ σ') (hk : ∀ x ∈ xs, f.env.kindOf x.1 = some .local) (hp : (f.env.scope.kind == .class || (f.env.scope.kind == .module && f.env.locals != f.env.globals)) = false)
    (q : ∀ s', Rest s s' → St g f σ' R s'.heap → Q () s') : wpAny g.M A (assign (.Tuple ts k tp) f.env v) Q E s := by
  subst ht
  cases i with
  | tup hm ha =>
    rename_i a vs m
    have ht : IsTup s.heap a vs.toArray := ⟨_, S.ledIn _ hm, rfl, _, rfl⟩
    have h1 := assignEach_names (env := f.env) xs
    refine assign_Tuple_tuple hA.hd ht (by (refine rwt h1 ?_; refine rwt (List.length_map ..) ?_; refine rwt List.size_toArray ?_; refine rwt ha.length ?_; refine rwt hl ?_; with_reducible rfl)) (by (refine rwt h1 ?_; rewrite [List.findIdx?_eq_none_iff]); intro x hx; obtain ⟨y, _, rfl⟩ := List.mem_map.mp hx; rfl) fun h' he => ?_
    (refine rwt h1 ?_; refine rwt List.map_map ?_)
    refine storeNames xs (s := { s with heap := h' }) (S.grow fun b o e => he b o (Nat.ne_of_lt (Heap.lt_size e)) e) ha hl u hk hp fun s' r' S' => q s' (Rest.heap.trans r') S'

/-- x, y = f(..): the value is a tuple -/
theorem WX.unpack {e : Expr} {k : Nat} {tp pos : Pos} {ts : List Expr} {ds : List D} {σ' : Vars} {Q : Out → Prop} (xs : List (Str × Pos)) (h : EV g f n σ e (.tup ds)) (hl : xs.length = ds.length) (u : Upds ((xs.map (·.1)).zip ds) σ σ') (q : Q (.next σ'))
    (ht : ts = xs.map fun x => Expr.Name x.1 x.2 := by rfl)
    (hs : swapsWithSole [.Tuple ts k tp] e pos.line f.env = pure false := by rfl)
    (hw : swappedStores [.Tuple ts k tp] e f.env = pure Option.none := by rfl)
    (hk : (xs.all fun x => f.env.kindOf x.1 == some .local) = true := by rfl)
    (hp : (f.env.scope.kind == .class || (f.env.scope.kind == .module && f.env.locals != f.env.globals)) = false := by rfl) : WX g f n σ (.Assign [.Tuple ts k tp] e pos) Q :=
  fun A E s R K hA hS kk => Assign_Tuple (h A E s R _ hA hS fun v R₁ s₁ r₁ i₁ => unpackTo xs ht hA (hS.gr r₁) i₁ hl u (fun x hx => by
    have := List.all_eq_true.mp hk x hx
    simpa using this) hp fun s' r' S' => kk _ _ R₁ s' q (r₁.rest.trans r') r₁.sub ⟨rfl, S'⟩) hs hw

/-- x, y = (a, b): the stores go backwards -/
theorem WX.swap {ts es : List Expr} {k k' : Nat} {tp vp pos : Pos} {names : List Str} {ds : List D} {σ' : Vars} {Q : Out → Prop} (h : ES g f n σ vp es ds) (hn : names.length = ds.length) (u : Upds (names.reverse.zip ds.reverse) σ σ') (q : Q (.next σ'))
    (hz : ds.length ≤ 1000 := by decide)
    (hs : swapsWithSole [.Tuple ts k tp] (.Tuple es k' vp) pos.line f.env = pure false := by rfl)
    (hw : swappedStores [.Tuple ts k tp] (.Tuple es k' vp) f.env = pure (some names) := by rfl)
    (hl : (names.all fun x => f.env.kindOf x == some .local) = true := by rfl)
    (hp : (f.env.scope.kind == .class || (f.env.scope.kind == .module && f.env.locals != f.env.globals)) = false := by rfl) : WX g f n σ (.Assign [.Tuple ts k tp] (.Tuple es k' vp) pos) Q :=
  fun A E s R K hA hS kk => Assign_Tuple_swapped (EV.tup h hz A E s R _ hA hS fun v R₁ s₁ r₁ i₁ => by
    cases i₁ with
    | tup hm ha =>
      rename_i a vs m
      have ht : IsTup s₁.heap a vs.toArray := ⟨_, r₁.led _ hm, rfl, _, rfl⟩
      have hlen : names.length = vs.toArray.size := by (refine rwt List.size_toArray ?_; refine rwt ha.length ?_; refine rwt hn ?_; with_reducible rfl)
      (refine rwt hlen ?_)
      refine unpackItems_tuple hA.hd ht fun h' he => ?_
      have r₂ := r₁.trans (.grow (h' := h') (tk := s₁.toks) r₁.led fun b o e => he b o (Nat.ne_of_lt (Heap.lt_size e)) e)
      refine storeAll names.reverse (hS.gr r₂) (by simpa using ha.reverse) (by simpa using hn) u (fun x hx => ?_) hp fun s' r' S' => kk _ _ R₁ s' q (r₂.rest.trans r') r₂.sub ⟨rfl, S'⟩
      have := List.all_eq_true.mp hl x (List.mem_reverse.mp hx)
      simpa using this) hs hw

end
end
section
open PySem PySem.W PySem.Calls PyProof.Rows PySem.Spec

section
variable {g : Gl} {f : Fm} {n : Nat} {σ : Vars}

/-! ## the list under construction -/
def noOwn (σ : Vars) : Bool := σ.all fun p => p.2.plain
/-- one slot replaced, whatever it was -/
inductive Rp (x : Str) (s s' : Sl) : Vars → Vars → Prop
  | here {r : Vars} : Rp x s s' ((x, s) :: r) ((x, s') :: r)
  | tail {p : Str × Sl} {r r' : Vars} : Rp x s s' r r' → Rp x s s' (p :: r) (p :: r')
theorem Rp.keys {x : Str} {s s' : Sl} {σ σ' : Vars} (u : Rp x s s' σ σ') : σ'.map (·.1) = σ.map (·.1) := by
  induction u with
  | here => rfl
  | tail _ ih => (refine rwt List.map_cons ?_; refine rwt List.map_cons ?_; refine rwt ih ?_; with_reducible rfl)
theorem Rp.inKeys {x : Str} {s s' : Sl} {σ σ' : Vars} (u : Rp x s s' σ σ') : x ∈ σ.map (·.1) := by
  induction u with
  | here => exact .head _
  | tail _ ih => exact .tail _ ih
theorem Rp.old {x : Str} {s s' : Sl} {σ σ' : Vars} (u : Rp x s s' σ σ') : (x, s) ∈ σ := by
  induction u with
  | here => exact .head _
  | tail _ ih => exact .tail _ ih
theorem Rp.mem {x : Str} {s s' : Sl} {σ σ' : Vars} (u : Rp x s s' σ σ') (nd : (σ.map (·.1)).Nodup) : ∀ p ∈ σ', (p ∈ σ ∧ p.1 ≠ x) ∨ p = (x, s') := by
  induction u with
  | here =>
    intro p hp
    rw [List.map_cons, List.nodup_cons] at nd
    rcases List.mem_cons.mp hp with rfl | hp
    · exact .inr rfl
    · exact .inl ⟨.tail _ hp, fun e => nd.1 (List.mem_map.mpr ⟨p, hp, e⟩)⟩
  | tail u ih =>
    rename_i q r r'
    intro p hp
    rw [List.map_cons, List.nodup_cons] at nd
    rcases List.mem_cons.mp hp with rfl | hp
    · exact .inl ⟨.head _, fun e => nd.1 (e ▸ u.inKeys)⟩
    · exact (ih nd.2 p hp).imp (fun h => ⟨.tail _ h.1, h.2⟩) id

/-- a fresh list's address stored: the name owns it -/
theorem StM.storeOwn {R : Led} {h h' : Heap} {m : Str → Option Value} {x : Str} {q : Addr} {vs : List Value} {k : Nat} {ds : List D} {σ' : Vars} (S : StM g f σ R h m) (u : Upd x (.own ds) σ σ') (no : noOwn σ = true)
    (hq : h.get? q = some (lstO vs k)) (hq0 : f.h₀.get? q = none) (hqL : q ≠ f.env.locals) (hqR : ∀ p ∈ R, p.1 ≠ q) (i : IsAll R vs ds)
    (hn : h'.Ns f.env.locals (fun y => if y = x then some (.ref q) else m y)) (hs : Heap.SameBut f.env.locals h h') : StM g f σ' R h' (fun y => if y = x then some (.ref q) else m y) where
  fr := S.fr.set hn hs
  gl := S.gl
  led := fun p hp => ⟨(hs.2 _ (S.led p hp).2.1).trans (S.led p hp).1, (S.led p hp).2⟩
  sub := S.sub
  nd := by (refine rwt u.keys ?_); exact S.nd
  vars := fun y d' hy => by
    rcases u.mem S.nd _ hy with ⟨h1, h2⟩ | e
    · refine xe1_2 (S.vars y d' h1) fun v' h3 h4 => ?_
      exact ⟨v', by (refine rwt (if_neg h2) ?_); exact h3, h4⟩
    · cases e
  own := fun y es hy => by
    rcases u.mem S.nd _ hy with ⟨h1, h2⟩ | e
    · have := List.all_eq_true.mp no _ h1
      cases this
    · cases e
      exact ⟨q, vs, k, if_pos rfl, (hs.2 _ hqL).trans hq, hq0, hqL, hqR, i⟩
  one := fun y es z es' hy hz => by
    rcases u.mem S.nd _ hy with ⟨h1, _⟩ | e
    · have := List.all_eq_true.mp no _ h1
      cases this
    · rcases u.mem S.nd _ hz with ⟨h1, _⟩ | e'
      · have := List.all_eq_true.mp no _ h1
        cases this
      · cases e; cases e'; rfl

theorem Upd.noOwn {x : Str} {d : D} {σ σ' : Vars} (u : Upd x (.val d) σ σ') (h : noOwn σ = true) : noOwn σ' = true := by
  induction u with
  | here hs =>
    simp only [Mine.noOwn, List.all_cons, Bool.and_eq_true] at h ⊢
    exact ⟨rfl, h.2⟩
  | tail _ ih =>
    simp only [Mine.noOwn, List.all_cons, Bool.and_eq_true] at h ⊢
    exact ⟨h.1, ih h.2⟩
theorem Upds.noOwn {l : List (Str × D)} {σ σ' : Vars} (u : Upds l σ σ') (h : noOwn σ = true) : noOwn σ' = true := by
  induction u with
  | nil => exact h
  | cons u _ ih => exact ih (u.noOwn h)

theorem St.fresh {R : Led} {h : Heap} (S : St g f σ R h) : f.h₀.get? h.objs.size = none ∧ h.objs.size ≠ f.env.locals ∧ ∀ p ∈ R, p.1 ≠ h.objs.size := by
  have hL := S.ledIn
  obtain ⟨m, S⟩ := S
  refine ⟨?_, ?_, fun p hp => Nat.ne_of_lt (Heap.lt_size (hL p hp))⟩
  · cases q : f.h₀.get? h.objs.size with
    | none => rfl
    | some o => exact absurd (Heap.lt_size (S.fr.keep _ _ q)) (Nat.lt_irrefl _)
  · intro e
    have := S.fr.ns.lt
    rw [← e] at this
    exact Nat.lt_irrefl _ this

theorem storeOwn_ {A : Around} {E : Value → Shared → Prop} {s : Shared} {R : Led} {x : Str} {q : Addr} {vs : List Value} {k : Nat} {ds : List D} {σ' : Vars} {Q : Unit → Shared → Prop} (S : St g f σ R s.heap) (u : Upd x (.own ds) σ σ') (no : noOwn σ = true)
    (hq : s.heap.get? q = some (lstO vs k)) (hq0 : f.h₀.get? q = none) (hqL : q ≠ f.env.locals) (hqR : ∀ p ∈ R, p.1 ≠ q) (i : IsAll R vs ds)
    (h : ∀ s', Rest s s' → St g f σ' R s'.heap → Q () s') (hl : f.env.kindOf x = some .local)
    (hp : (f.env.scope.kind == .class || (f.env.scope.kind == .module && f.env.locals != f.env.globals)) = false) : wpAny g.M A (storeName f.env x (.ref q)) Q E s := by
  refine xe1_1 S fun m S => ?_
  exact wpAny_storeName_local hl S.fr.ns (fun h' hn hs => h _ .mk' ⟨_, S.storeOwn u no hq hq0 hqL hqR i hn hs⟩) hp

/-- x = [] -/
theorem WX.own {x : Str} {p lp pos : Pos} {σ' : Vars} {Q : Out → Prop} (u : Upd x (.own []) σ σ') (no : noOwn σ = true) (q : Q (.next σ'))
    (hs : swapsWith (.List [] lp) (some (.Name x p)) pos.line f.env = pure false := by rfl) (hl : f.env.kindOf x = some .local := by rfl)
    (hp : (f.env.scope.kind == .class || (f.env.scope.kind == .module && f.env.locals != f.env.globals)) = false := by rfl) : WX g f n σ (.Assign [.Name x p] (.List [] lp) pos) Q :=
  fun A E s R K hA hS k => wpAny_Assign_Name (wpAny_List (wpAny_items_nil ⟨by decide, by
    refine xe0_3 hS.fresh fun a b c => ?_
    refine storeOwn_ (s := { s with heap := s.heap.push { cls := .type "list", data := .seq ([] : List Value).toArray } }) (q := s.heap.objs.size) (vs := []) (k := 0) (hS.grow fun b o e => Heap.get?_push_of_some _ e) u no (Heap.get?_push_size _ rfl) a b c .nil (fun s' r S' => k _ _ R s' q (Rest.heap.trans r) (fun _ h => h) ⟨rfl, S'⟩) hl hp⟩)) hs

/-- x, y = ([], e) and the like -/
theorem WX.ownTup {x : Str} {ts es : List Expr} {k k' : Nat} {lp tp vp pos : Pos} {names : List Str} {ds : List D} {σ₁ σ₂ : Vars} {Q : Out → Prop} (h : ES g f n σ vp es ds) (hn : names.length = ds.length) (u : Upds (names.reverse.zip ds.reverse) σ σ₁) (uo : Upd x (.own []) σ₁ σ₂) (no : noOwn σ = true) (q : Q (.next σ₂))
    (hz : ds.length + 1 ≤ 1000 := by decide)
    (hs : swapsWithSole [.Tuple ts k tp] (.Tuple (.List [] lp :: es) k' vp) pos.line f.env = pure false := by rfl)
    (hw : swappedStores [.Tuple ts k tp] (.Tuple (.List [] lp :: es) k' vp) f.env = pure (some (x :: names)) := by rfl)
    (hl : (names.all fun x => f.env.kindOf x == some .local) = true := by rfl) (hlx : f.env.kindOf x = some .local := by rfl)
    (hp : (f.env.scope.kind == .class || (f.env.scope.kind == .module && f.env.locals != f.env.globals)) = false := by rfl) : WX g f n σ (.Assign [.Tuple ts k tp] (.Tuple (.List [] lp :: es) k' vp) pos) Q :=
  fun A E s R K hA hS kk => Assign_Tuple_swapped (wpAny_Tuple (wpAny_items_cons (wpAny_List (wpAny_items_nil ⟨by decide, by
    refine xe0_3 hS.fresh fun a b c => ?_
    have e₁ : Ext s.heap (s.heap.push { cls := .type "list", data := .seq ([] : List Value).toArray }) := fun b o e => Heap.get?_push_of_some _ e
    have S₁ := hS.grow e₁
    refine h A E { s with heap := s.heap.push { cls := .type "list", data := .seq ([] : List Value).toArray } } R _ hA S₁ fun vs R₁ s₁ r₁ i₁ => ⟨by (refine rwt List.length_cons ?_; refine rwt i₁.length ?_; refine rwt sizeLine_eq ?_); exact oq20 hz, ?_⟩
    have hq₁ : s₁.heap.get? s.heap.objs.size = some (lstO [] 0) := r₁.ext _ _ (Heap.get?_push_size _ rfl)
    have hR₁ : ∀ p ∈ R₁, p.1 ≠ s.heap.objs.size := fun p hp e => by
      rcases r₁.new p hp with z | z
      · exact c p z e
      · rw [e] at z
        rw [show ({ s with heap := s.heap.push { cls := .type "list", data := .seq ([] : List Value).toArray } } : Shared).heap.get? s.heap.objs.size = some (lstO [] 0) from Heap.get?_push_size _ rfl] at z
        cases z
    have ht : IsTup (s₁.heap.push { cls := .type "tuple", data := .seq (Value.ref s.heap.objs.size :: vs).toArray }) s₁.heap.objs.size (Value.ref s.heap.objs.size :: vs).toArray := ⟨_, Heap.get?_push_size _ rfl, rfl, _, rfl⟩
    have hlen : (x :: names).length = (Value.ref s.heap.objs.size :: vs).toArray.size := by simp [i₁.length, hn]
    (refine rwt hlen ?_)
    refine unpackItems_tuple (s := { s₁ with heap := s₁.heap.push { cls := .type "tuple", data := .seq (Value.ref s.heap.objs.size :: vs).toArray } }) hA.hd ht fun h' he => ?_
    have e₂ : Ext s₁.heap h' := fun b o e => he b o (Nat.ne_of_lt (Heap.lt_size (Heap.get?_push_of_some _ e))) (Heap.get?_push_of_some _ e)
    have S₂ := (S₁.gr r₁).grow e₂
    show wpAny g.M A (assignInOrder ((x :: names).reverse.map fun n => bindName f.env n) (Value.ref s.heap.objs.size :: vs).reverse) _ E _
    (refine rwt List.reverse_cons ?_; refine rwt List.reverse_cons ?_; refine rwt List.map_append ?_)
    have go : ∀ (xs : List Str) {ds : List D} {vs : List Value} {s₀ : Shared} {σ σ' : Vars}, St g f σ R₁ s₀.heap → IsAll R₁ vs ds → xs.length = ds.length → Upds (xs.zip ds) σ σ' → (∀ y ∈ xs, f.env.kindOf y = some .local) →
        s₀.heap.get? s.heap.objs.size = some (lstO [] 0) → ∀ {Q : Unit → Shared → Prop}, (∀ s', Rest s₀ s' → St g f σ' R₁ s'.heap → s'.heap.get? s.heap.objs.size = some (lstO [] 0) → wpAny g.M A (storeName f.env x (.ref s.heap.objs.size)) (fun _ s'' => Q () s'') E s') →
        wpAny g.M A (assignInOrder (xs.map (fun n => bindName f.env n) ++ [x].map fun n => bindName f.env n) (vs ++ [Value.ref s.heap.objs.size])) Q E s₀ := by
      intro xs
      induction xs with
      | nil =>
        intro ds vs s₀ σ σ' S i hl u _ hq Q k
        cases i with
        | cons => cases hl
        | nil =>
          cases u
          exact assignInOrder_cons (bindName_ (wpAny_mono (k s₀ (.refl _) S hq) (fun _ _ z => assignInOrder_nil z) fun _ _ z => z))
      | cons y xs ih =>
        intro ds vs s₀ σ σ' S i hl u hk hq Q k
        cases i with
        | nil => cases hl
        | cons i is =>
          cases u with
          | cons u us =>
            refine xe1_1 (id S) fun m SM => ?_
            refine assignInOrder_cons (bindName_ (wpAny_storeName_local (hk y (.head _)) SM.fr.ns (fun h' hn hs => ?_) hp))
            refine ih ⟨_, SM.store u i hn hs⟩ is (by simpa using hl) us (fun z hz => hk z (.tail _ hz)) ((hs.2 _ b).trans hq) fun s' r S' hq' => k s' (Rest.mk'.trans r) S' hq'
    refine go names.reverse S₂ (by simpa using i₁.reverse) (by simpa using hn) u (fun y hy => by
      have := List.all_eq_true.mp hl y (List.mem_reverse.mp hy)
      simpa using this) (e₂ _ _ hq₁) fun s' r S' hq' => ?_
    exact storeOwn_ S' uo (u.noOwn no) hq' a b hR₁ .nil (fun s'' r' S'' => kk _ _ R₁ s'' q (((Rest.heap.trans r₁.rest).trans (Rest.heap.trans (Rest.heap.trans r))).trans r') r₁.sub ⟨rfl, S''⟩) hlx hp⟩)))) hs hw

theorem StM.append {R : Led} {h h' : Heap} {m : Str → Option Value} {x : Str} {q : Addr} {vs : List Value} {v : Value} {k : Nat} {ds : List D} {d : D} {σ' : Vars} (S : StM g f σ R h m) (u : Rp x (.own ds) (.own (ds ++ [d])) σ σ')
    (hm : m x = some (.ref q)) (hq0 : f.h₀.get? q = none) (hqL : q ≠ f.env.locals) (hqR : ∀ p ∈ R, p.1 ≠ q) (iv : IsAll R vs ds) (i : Is R v d)
    (ho : h'.get? q = some (lstO (vs ++ [v]) k)) (hs : Heap.SameBut q h h') : StM g f σ' R h' m where
  fr := S.fr.change hs hqL hq0
  gl := S.gl
  led := fun p hp => ⟨(hs.2 _ (hqR p hp)).trans (S.led p hp).1, (S.led p hp).2⟩
  sub := S.sub
  nd := by (refine rwt u.keys ?_); exact S.nd
  vars := fun y d' hy => by
    rcases u.mem S.nd _ hy with ⟨h1, h2⟩ | e
    · exact S.vars y d' h1
    · cases e
  own := fun y es hy => by
    rcases u.mem S.nd _ hy with ⟨h1, h2⟩ | e
    · exact absurd (S.one y es x ds h1 u.old) h2
    · cases e
      exact ⟨q, vs ++ [v], k, hm, ho, hq0, hqL, hqR, iv.append (.cons i .nil)⟩
  one := fun y es z es' hy hz => by
    rcases u.mem S.nd _ hy with ⟨h1, h2⟩ | e
    · exact absurd (S.one y es x ds h1 u.old) h2
    · rcases u.mem S.nd _ hz with ⟨h1, h2⟩ | e'
      · exact absurd (S.one z es' x ds h1 u.old) h2
      · cases e; cases e'; rfl

/-- x.append(e) -/
theorem WX.append {x : Str} {xp ap cp pos : Pos} {e : Expr} {ds : List D} {d : D} {σ' : Vars} {Q : Out → Prop} (u : Rp x (.own ds) (.own (ds ++ [d])) σ σ') (h : EV g f n σ e d) (hz : ds.length ≤ 1000000) (q : Q (.next σ'))
    (hk : f.env.scope.kind = .function := by rfl) (hl : f.env.kindOf x = some .local := by rfl) (hd : (x == ("__debug__" : Str)) = false := by decide)
    (hs : starEach [e] f.env = [(false, eval e f.env)] := by rfl)
    (he : eval (.Call (.Attribute (.Name x xp) "append" ap) [e] [] cp) f.env = (do
      let ov ← eval (.Name x xp) f.env
      standAt ap.atName
      let (f', first) ← holding [ov] (getMethod ov "append" (do return (← importBound (.Name x xp) f.env).getD true))
      callWith cp f' first (backTo cp (starEach [e] f.env)) []) := by rfl)
    (hi : interactive f.env = false := by rfl) (hsw : swapsWith (.Call (.Attribute (.Name x xp) "append" ap) [e] [] cp) none pos.line f.env = pure false := by rfl) : WX g f n σ (.Expr (.Call (.Attribute (.Name x xp) "append" ap) [e] [] cp) pos) Q :=
  fun A E s R K hA hS kk => by
    refine xe1_1 (id hS) fun m S => ?_
    refine xe3_6 (S.own x ds u.old) fun a vs k hm ho h0 hL hR iv => ?_
    refine wpAny_Expr (MethodCall_ (wpAny_Name (wpAny_loadName_local hk hl S.fr.ns hm ?_) hd) he) hi hsw
    refine Calls.getMethod_list_append ho rfl rfl (callWith_method1 ?_ hs)
    refine wpAny_items_cons (h A E s R _ hA hS fun v R₁ s₁ r₁ i₁ => wpAny_items_nil ?_) hs
    refine xe1_1 (hS.gr r₁) fun m₁ S₁ => ?_
    refine xe3_6 (S₁.own x ds u.old) fun a' vs' k' hm' ho' h0' hL' hR' iv' => ?_
    have hpl : s₁.heap.PlainList a vs.toArray := ⟨k, r₁.ext _ _ ho⟩
    have hRa : ∀ p ∈ R₁, p.1 ≠ a := fun p hp e => by
      rcases r₁.new p hp with z | z
      · exact hR p z e
      · rw [e, ho] at z; cases z
    refine xe3_4 S.fr.ns fun oL es ep hoL hdL hkL hfL => ?_
    have Ns₁ : s₁.heap.Ns f.env.locals m := ⟨oL, es, ep, r₁.ext _ _ hoL, hdL, hkL, hfL⟩
    have S₁' : StM g f σ R₁ s₁.heap m := by
      refine ⟨⟨Ns₁, S₁.fr.keep, S₁.fr.above⟩, S₁.gl, S₁.led, S₁.sub, S₁.nd, fun y d' hy => ?_, fun y es hy => ?_, S₁.one⟩
      · refine xe1_2 (S.vars y d' hy) fun v' h1 h2 => ?_
        exact ⟨v', h1, h2.mono r₁.sub⟩
      · refine xe3_6 (S.own y es hy) fun b ws j g1 g2 g3 g4 g5 g6 => ?_
        refine ⟨b, ws, j, g1, r₁.ext _ _ g2, g3, g4, fun p hp e => ?_, g6.mono r₁.sub⟩
        rcases r₁.new p hp with z | z
        · exact g5 p z e
        · rw [e, g2] at z; cases z
    refine wpAny_list_append_plain hpl (fun h' hp' hs' => ?_) (by (refine rwt List.size_toArray ?_; refine rwt iv.length ?_; refine rwt sizeLine_eq ?_); exact oq15 hz)
    refine xe1_1 hp' fun k'' ho'' => ?_
    try clear hp'
    refine kk _ _ R₁ _ q (r₁.rest.trans .heap) r₁.sub ⟨rfl, m, ?_⟩
    exact S₁'.append (k := k'') u hm h0 hL hRa (iv.mono r₁.sub) i₁ (by (refine rwt ho'' ?_); simp [lstO]) hs'

/-- what was under construction is a datum from here on -/
theorem WP.freeze {x : Str} {ds : List D} {σ' : Vars} {ss : List Stmt} {Q : Out → Prop} (u : Rp x (.own ds) (.val (.list ds)) σ σ') (h : WP g f n σ' ss Q) : WP g f n σ ss Q :=
  fun A E s R K hA hS kk => by
    refine xe1_1 (id hS) fun m S => ?_
    refine xe3_6 (S.own x ds u.old) fun a vs k hm ho h0 hL hR iv => ?_
    refine h A E s ((a, lstO vs k) :: R) K hA ⟨m, S.fr, S.gl, fun p hp => ?_, fun p hp => .tail _ (S.sub p hp), by (refine rwt u.keys ?_); exact S.nd, fun y d hy => ?_, fun y es hy => ?_, fun y es z es' hy hz => ?_⟩ fun o fl R' s' q r m' ok => kk o fl R' s' q r (fun p hp => m' p (.tail _ hp)) ok
    · rcases List.mem_cons.mp hp with rfl | hp
      · exact ⟨ho, hL, .inr h0⟩
      · exact S.led p hp
    · rcases u.mem S.nd _ hy with ⟨h1, h2⟩ | e
      · refine xe1_2 (S.vars y d h1) fun v h3 h4 => ?_
        exact ⟨v, h3, h4.mono fun p hp => .tail _ hp⟩
      · cases e
        exact ⟨_, hm, .list (.head _) (iv.mono fun p hp => .tail _ hp)⟩
    · rcases u.mem S.nd _ hy with ⟨h1, h2⟩ | e
      · exact absurd (S.one y es x ds h1 u.old) h2
      · cases e
    · rcases u.mem S.nd _ hy with ⟨h1, h2⟩ | e
      · exact absurd (S.one y es x ds h1 u.old) h2
      · cases e
end
end
section
open PySem PySem.W PySem.Calls PyProof.Rows PySem.Spec

section
variable {g : Gl} {f : Fm} {n : Nat} {σ : Vars}

def noSeq' (o : Obj) : Prop := o.cls ≠ .type "tuple" ∧ o.cls ≠ .type "list"

/-- an iterator moves on: its objects change, the rest stays -/
theorem St.turn {R Nw : Led} {h h' : Heap} {wr : List Addr} (S : St g f σ R h) (hw : ∀ b ∈ wr, ∃ o, (b, o) ∈ R ∧ noSeq' o) (h0 : ∀ b ∈ wr, f.h₀.get? b = none ∧ ∀ p ∈ f.R₀, p.1 ≠ b)
    (hk : ∀ b o, b ∉ wr → h.get? b = some o → h'.get? b = some o) (hN : ∀ p ∈ Nw, h'.get? p.1 = some p.2 ∧ (h.get? p.1 = none ∨ p.1 ∈ wr)) : St g f σ (Nw ++ R.filter fun p => decide (p.1 ∉ wr)) h' := by
  have hled := S.ledIn
  refine xe1_1 S fun m S => ?_
  have hLw : f.env.locals ∉ wr := fun hm => by
    refine xe1_2 (hw _ hm) fun o ho _ => ?_
    exact (S.led _ ho).2.1 rfl
  have mono : ∀ {v : Value} {d : D}, Is R v d → Is (Nw ++ R.filter fun p => decide (p.1 ∉ wr)) v d := fun i => i.mono' fun a o hc ha => by
    refine List.mem_append.mpr (.inr (List.mem_filter.mpr ⟨ha, decide_eq_true fun hm => ?_⟩))
    refine xe1_2 (hw a hm) fun o' ho' hn => ?_
    have e1 := hled _ ha
    have e2 := hled _ ho'
    dsimp only at e1 e2
    rw [e1] at e2
    cases e2
    rcases hc with hc | hc
    · exact hn.1 hc
    · exact hn.2 hc
  have monoA : ∀ {vs : List Value} {ds : List D}, IsAll R vs ds → IsAll (Nw ++ R.filter fun p => decide (p.1 ∉ wr)) vs ds := fun i => i.mono' fun a o hc ha => by
    refine List.mem_append.mpr (.inr (List.mem_filter.mpr ⟨ha, decide_eq_true fun hm => ?_⟩))
    refine xe1_2 (hw a hm) fun o' ho' hn => ?_
    have e1 := hled _ ha
    have e2 := hled _ ho'
    dsimp only at e1 e2
    rw [e1] at e2
    cases e2
    rcases hc with hc | hc
    · exact hn.1 hc
    · exact hn.2 hc
  refine xe3_4 S.fr.ns fun oL es ep hoL hdL hkL hfL => ?_
  refine ⟨m, ⟨⟨oL, es, ep, hk _ _ hLw hoL, hdL, hkL, hfL⟩, fun b o e => hk b o (fun hm => by rw [(h0 b hm).1] at e; cases e) (S.fr.keep b o e), S.fr.above⟩, S.gl, fun p hp => ?_, fun p hp => ?_, S.nd, fun x d hx => ?_, fun x ds hx => ?_, S.one⟩
  · rcases List.mem_append.mp hp with hp | hp
    · refine xe0_2 (hN p hp) fun a b => ?_
      refine ⟨a, ?_, ?_⟩
      · rcases b with b | b
        · intro e; rw [e, hoL] at b; cases b
        · intro e; exact hLw (e ▸ b)
      · right
        rcases b with b | b
        · cases q : f.h₀.get? p.1 with
          | none => rfl
          | some o => rw [S.fr.keep _ _ q] at b; cases b
        · exact (h0 _ b).1
    · refine xe0_2 (List.mem_filter.mp hp) fun a b => ?_
      exact ⟨hk _ _ (of_decide_eq_true b) (hled p a), (S.led p a).2⟩
  · exact List.mem_append.mpr (.inr (List.mem_filter.mpr ⟨S.sub p hp, decide_eq_true fun hm => (h0 _ hm).2 p hp rfl⟩))
  · refine xe1_2 (S.vars x d hx) fun v hv i => ?_
    exact ⟨v, hv, mono i⟩
  · refine xe3_6 (S.own x ds hx) fun q vs k h1 h2 h3 h4 h5 h6 => ?_
    have hqw : q ∉ wr := fun hm => by
      refine xe1_2 (hw _ hm) fun o ho _ => ?_
      exact h5 _ ho rfl
    refine ⟨q, vs, k, h1, hk _ _ hqw h2, h3, h4, fun p hp => ?_, monoA h6⟩
    rcases List.mem_append.mp hp with hp | hp
    · rcases (hN p hp).2 with b | b
      · intro e; rw [e, h2] at b; cases b
      · intro e; exact hqw (e ▸ b)
    · exact h5 p (List.mem_filter.mp hp).1

/-- what a for runs over: an iterator I of its own whose items stand on the ledger -/
def ITER (g : Gl) (f : Fm) (n : Nat) (σ : Vars) (e : Expr) (items : List D) : Prop :=
  ∀ (A : Around) (E : Value → Shared → Prop) (s : Shared) (R : Led) (K : Value → Shared → Prop), AOk n A → St g f σ R s.heap →
    (∀ I fp P J R' s', Gr R s R' s' → Walks g.prog g.w A I fp [I] items.length P J → J 0 s'.heap → (∀ b ∈ fp, b = I ∨ ∃ o, (b, o) ∈ R') → (∀ i h, J i h → ∃ o, h.get? I = some o ∧ noSeq' o) → s.heap.get? I = none →
      (∀ p ∈ R', p.1 ≠ I) → (∀ i v, P i v → ∃ d, items[i]? = some d ∧ Is R' v d) → K (.ref I) s') →
    wpAny g.M A (eval e f.env) (fun x s₁ => wpAny g.M A (pyIter x) K E s₁) E s

/-- for x in e -/
theorem WX.for_ {x : Str} {px pos : Pos} {iter : Expr} {body : List Stmt} {items : List D} {Q : Out → Prop} (hit : ITER g f n σ iter items) (J : Nat → Vars → Prop) (h0 : J 0 σ)
    (turn : ∀ i d σ, items[i]? = some d → J i σ → ∃ σ₁, Upd x (.val d) σ σ₁ ∧ WP g f n σ₁ body (fun o => match o with
      | .next σ' => J (i + 1) σ'
      | .cont σ' => J (i + 1) σ'
      | .brk σ' => Q (.next σ')
      | .ret d => Q (.ret d)))
    (done : ∀ σ, J items.length σ → Q (.next σ))
    (hs : ∀ x, foldedSetIterable iter f.env x = pure x := by intro _; rfl) (hl : f.env.kindOf x = some .local := by rfl)
    (hp : (f.env.scope.kind == .class || (f.env.scope.kind == .module && f.env.locals != f.env.globals)) = false := by rfl) : WX g f n σ (.For (.Name x px) iter body [] pos) Q :=
  fun A E s R K hA hS kk => by
    refine wpAny_For (hit A E s R _ hA hS fun I fp P W R₁ s₁ r₁ hW hW0 hfp hI hIn hIR hP => ?_) hs
    have hI0 : f.h₀.get? I = none := by
      refine xe1_1 hS fun m S => ?_
      try clear hS
      cases q : f.h₀.get? I with
      | none => rfl
      | some o => rw [S.fr.keep _ _ q] at hIn; cases hIn
    have hIR₀ : ∀ p ∈ f.R₀, p.1 ≠ I := fun p hp e => by
      have hSl := hS.ledIn
      refine xe1_1 hS fun m S => ?_
      try clear hS
      have := hSl p (S.sub p hp)
      rw [e, hIn] at this; cases this
    have h0' : ∀ b ∈ [I], f.h₀.get? b = none ∧ ∀ p ∈ f.R₀, p.1 ≠ b := fun b hb => by (refine rwt (List.mem_singleton.mp hb) ?_); exact ⟨hI0, hIR₀⟩
    -- the ledger with the iterator's object
    refine xe1_2 (hI 0 _ hW0) fun oI hoI hnI => ?_
    have S₁ := hS.gr r₁
    have S₂ : St g f σ ((I, oI) :: R₁) s₁.heap := by
      refine xe1_1 S₁ fun m S₁ => ?_
      refine ⟨m, S₁.fr, S₁.gl, fun p hp => ?_, fun p hp => .tail _ (S₁.sub p hp), S₁.nd, fun x d hx => ?_, fun x ds hx => ?_, S₁.one⟩
      · rcases List.mem_cons.mp hp with rfl | hp
        · refine ⟨hoI, fun e => ?_, .inr hI0⟩
          refine xe1_1 hS fun m' S => ?_
          try clear hS
          refine xe3_2 S.fr.ns fun oL _ _ hoL _ => ?_
          dsimp only at e
          rw [← e, hIn] at hoL; cases hoL
        · exact S₁.led p hp
      · refine xe1_2 (S₁.vars x d hx) fun v hv i => ?_
        exact ⟨v, hv, i.mono fun p hp => .tail _ hp⟩
      · refine xe3_6 (S₁.own x ds hx) fun q vs k h1 h2 h3 h4 h5 h6 => ?_
        refine ⟨q, vs, k, h1, h2, h3, h4, fun p hp => ?_, h6.mono fun p hp => .tail _ hp⟩
        rcases List.mem_cons.mp hp with rfl | hp
        · intro e
          refine xe1_1 hS fun m' S => ?_
          try clear hS
          refine xe3_3 (S.own x ds hx) fun q' vs' k' g1 g2 _ => ?_
          refine xe3_4 S.fr.ns fun oL es ep hoL hdL hkL hfL => ?_
          refine xe3_4 S₁.fr.ns fun oL' es' ep' hoL' hdL' hkL' hfL' => ?_
          rw [r₁.ext _ _ hoL] at hoL'
          cases hoL'
          rw [hdL] at hdL'
          cases hdL'
          have : m' x = m x := (hfL x).symm.trans (hfL' x)
          rw [this, h1] at g1
          cases g1
          dsimp only at e
          rw [← e, hIn] at g2; cases g2
        · exact h5 p hp
    refine codeAny_forLoop (fun k s' => ∃ i σ' R' o', k = items.length + 1 - i ∧ i ≤ items.length ∧ J i σ' ∧ Rest s s' ∧ (∀ p ∈ R₁, p ∈ R') ∧ (I, o') ∈ R' ∧ noSeq' o' ∧ W i s'.heap ∧ St g f σ' R' s'.heap) ?_ (items.length + 1)
      ⟨0, σ, (I, oI) :: R₁, oI, rfl, Nat.zero_le _, h0, r₁.rest, fun p hp => .tail _ hp, .head _, hnI, hW0, S₂⟩
    intro k s' hh_
    refine wrapG fun W_ k_ => ?_
    refine xe4_9 hh_ fun i σ' R' o' e_1 hi hJ r' m' hIm hno hWi S' => ?_
    subst e_1
    try clear hh_
    refine k_ ?_
    clear k_ W_
    have hw' : ∀ b ∈ [I], ∃ o, (b, o) ∈ R' ∧ noSeq' o := fun b hb => by (refine rwt (List.mem_singleton.mp hb) ?_); exact ⟨o', hIm, hno⟩
    by_cases hlt : i < items.length
    · refine hW.item i s' _ _ hlt hWi fun v h' tk hPv hW' hk => ?_
      refine xe1_2 (hP i v hPv) fun d hd iv => ?_
      refine xe1_2 (hI _ _ hW') fun o₂ ho₂ hn₂ => ?_
      refine xe1_2 (turn i d σ' hd hJ) fun σ₁ u hbody => ?_
      have S₃ := S'.turn (h' := h') (Nw := [(I, o₂)]) hw' h0' hk (fun p hp => by (refine rwt (List.mem_singleton.mp hp) ?_); exact ⟨ho₂, .inr (.head _)⟩)
      have sub₃ : ∀ p ∈ R₁, p ∈ [(I, o₂)] ++ R'.filter fun p => decide (p.1 ∉ [I]) := fun p hp => List.mem_append.mpr (.inr (List.mem_filter.mpr ⟨m' p hp, decide_eq_true fun hm => hIR p hp (List.mem_singleton.mp hm)⟩))
      refine wpAny_assign_Name (store_ (s := { s' with heap := h', toks := tk }) S₃ (iv.mono sub₃) u (fun s₄ r₄ S₄ => ?_) hl hp)
      refine hbody A _ s₄ _ _ hA S₄ fun o fl R₅ s₅ q r₅ m₅ ok => ?_
      have rest₅ : Rest s s₅ := ((r'.trans .mk').trans r₄).trans r₅
      have sub₅ : ∀ p ∈ R₁, p ∈ R₅ := fun p hp => m₅ p (sub₃ p hp)
      have hIm₅ : (I, o₂) ∈ R₅ := m₅ _ (.head _)
      have W₅ : ∀ {σ}, St g f σ R₅ s₅.heap → W (i + 1) s₅.heap := fun S => hW.frame _ _ _ hW' fun b hb o e => by
        rcases hfp b hb with rfl | ⟨o₆, h₆⟩
        · rw [ho₂] at e; cases e; exact S.ledIn _ hIm₅
        · have e1 := S₃.ledIn _ (sub₃ _ h₆)
          dsimp only at e1
          rw [e1] at e; cases e
          exact S.ledIn _ (sub₅ _ h₆)
      cases o with
      | next σ₂ => obtain ⟨rfl, S₅⟩ := ok; exact ⟨items.length + 1 - (i + 1), by exact oq21 hi, i + 1, σ₂, R₅, o₂, rfl, hlt, q, rest₅, sub₅, hIm₅, hn₂, W₅ S₅, S₅⟩
      | cont σ₂ => obtain ⟨rfl, S₅⟩ := ok; exact ⟨items.length + 1 - (i + 1), by exact oq21 hi, i + 1, σ₂, R₅, o₂, rfl, hlt, q, rest₅, sub₅, hIm₅, hn₂, W₅ S₅, S₅⟩
      | brk σ₂ => obtain ⟨rfl, S₅⟩ := ok; exact kk _ _ R₅ s₅ q rest₅ (fun p hp => sub₅ p (r₁.sub p hp)) ⟨rfl, S₅⟩
      | ret d => obtain ⟨v, rfl, i', S₅⟩ := ok; exact kk _ _ R₅ s₅ q rest₅ (fun p hp => sub₅ p (r₁.sub p hp)) ⟨v, rfl, i', S₅⟩
    · have hin : i = items.length := by exact oq22 hlt hi
      subst hin
      refine hW.done s' _ _ hWi fun h' tk hk => wpAny_execs_nil ?_
      have S₃ := S'.turn (h' := h') (Nw := []) hw' h0' hk (fun p hp => nomatch hp)
      have sub₃ : ∀ p ∈ R₁, p ∈ [] ++ R'.filter fun p => decide (p.1 ∉ [I]) := fun p hp => List.mem_append.mpr (.inr (List.mem_filter.mpr ⟨m' p hp, decide_eq_true fun hm => hIR p hp (List.mem_singleton.mp hm)⟩))
      exact kk _ _ _ { s' with heap := h', toks := tk } (done σ' hJ) (r'.trans .mk') (fun p hp => sub₃ p (r₁.sub p hp)) ⟨rfl, S₃⟩

/-! ## iterators -/
theorem ITER.list {e : Expr} {items : List D} (h : EV g f n σ e (.list items)) : ITER g f n σ e items :=
  fun A E s R K hA hS kk => h A E s R _ hA hS fun v R₁ s₁ r₁ i₁ => by
    cases i₁ with
    | list hm ha =>
      rename_i a vs k
      have hl : s₁.heap.IsList a vs.toArray := ⟨_, r₁.led _ hm, rfl, _, rfl⟩
      have hlt : a < s₁.heap.objs.size := Heap.lt_size (r₁.led _ hm)
      refine wpAny_pyIter_list hl ?_
      have W := Walks.list (prog := g.prog) (w := g.w) (A := A) hA.hd s₁.heap.objs.size a (Nat.ne_of_lt hlt) vs.toArray
      have hlen : vs.toArray.size = items.length := by (refine rwt List.size_toArray ?_; refine rwt ha.length ?_; with_reducible rfl)
      rw [hlen] at W
      have r₂ : Gr R₁ s₁ R₁ { s₁ with heap := s₁.heap.push { cls := .type "list_iterator", data := .fields #[.ref a, .int 0 0] } } := .grow r₁.led fun b o e => Heap.get?_push_of_some _ e
      refine kk _ _ _ _ R₁ _ (r₁.trans r₂) W ⟨⟨_, Heap.get?_push_size _ rfl, rfl, rfl⟩, hl.push _⟩ (fun b hb => ?_) (fun i h hJ => ?_) ?_ (fun p hp => Nat.ne_of_lt (Heap.lt_size (r₁.led p hp))) fun i v hv => ?_
      · rcases List.mem_cons.mp hb with rfl | hb
        · exact .inl rfl
        · (refine rwt (List.mem_singleton.mp hb) ?_); exact .inr ⟨_, hm⟩
      · refine xe0_2 hJ fun g_1 _ => ?_
        obtain ⟨o, ho, hc, _⟩ := g_1
        try clear hJ
        exact ⟨o, ho, by (rewrite [noSeq']; refine rwt hc ?_); decide⟩
      · cases q : s.heap.get? s₁.heap.objs.size with
        | none => rfl
        | some o => exact absurd (Heap.lt_size (r₁.ext _ _ q)) (Nat.lt_irrefl _)
      · exact ha.getV (by simpa using hv)
theorem ITER.tup {e : Expr} {items : List D} (h : EV g f n σ e (.tup items)) : ITER g f n σ e items :=
  fun A E s R K hA hS kk => h A E s R _ hA hS fun v R₁ s₁ r₁ i₁ => by
    cases i₁ with
    | tup hm ha =>
      rename_i a vs k
      have hl : s₁.heap.IsTuple a vs.toArray := ⟨_, r₁.led _ hm, rfl, _, rfl⟩
      have hlt : a < s₁.heap.objs.size := Heap.lt_size (r₁.led _ hm)
      refine wpAny_pyIter_tuple hl ?_
      have W := Walks.tuple (prog := g.prog) (w := g.w) (A := A) hA.hd s₁.heap.objs.size a (Nat.ne_of_lt hlt) vs.toArray
      have hlen : vs.toArray.size = items.length := by (refine rwt List.size_toArray ?_; refine rwt ha.length ?_; with_reducible rfl)
      rw [hlen] at W
      have r₂ : Gr R₁ s₁ R₁ { s₁ with heap := s₁.heap.push { cls := .type "tuple_iterator", data := .fields #[.ref a, .int 0 0] } } := .grow r₁.led fun b o e => Heap.get?_push_of_some _ e
      refine kk _ _ _ _ R₁ _ (r₁.trans r₂) W ⟨⟨_, Heap.get?_push_size _ rfl, rfl, rfl⟩, hl.at fun o e => Heap.get?_push_of_some _ e⟩ (fun b hb => ?_) (fun i h hJ => ?_) ?_ (fun p hp => Nat.ne_of_lt (Heap.lt_size (r₁.led p hp))) fun i v hv => ?_
      · rcases List.mem_cons.mp hb with rfl | hb
        · exact .inl rfl
        · (refine rwt (List.mem_singleton.mp hb) ?_); exact .inr ⟨_, hm⟩
      · refine wrapG fun W_ k_ => ?_
        refine xe0_2 hJ fun g_1 _ => ?_
        obtain ⟨o, ho, hc, _⟩ := g_1
        try clear hJ
        refine k_ ?_
        clear k_ W_
        exact ⟨o, ho, by (rewrite [noSeq']; refine rwt hc ?_); decide⟩
      · cases q : s.heap.get? s₁.heap.objs.size with
        | none => rfl
        | some o => exact absurd (Heap.lt_size (r₁.ext _ _ q)) (Nat.lt_irrefl _)
      · exact ha.getV (by simpa using hv)
end
end
section
open PySem PySem.W PySem.Calls PyProof.Rows PySem.Spec

section
variable {g : Gl} {f : Fm} {n : Nat} {σ : Vars}

/-! ## range, reversed -/
def upI (a : Int) (k : Nat) : List D := (List.range k).map fun i : Nat => .int (a + (i : Int))
def downI (a : Int) (k : Nat) : List D := (List.range k).map fun i : Nat => .int (a - (i : Int))
theorem upI_length (a : Int) (k : Nat) : (upI a k).length = k := by simp [upI]
theorem downI_length (a : Int) (k : Nat) : (downI a k).length = k := by simp [downI]
theorem upI_get {a : Int} {k i : Nat} {d : D} (h : (upI a k)[i]? = some d) : d = .int (a + (i : Int)) ∧ i < k := by
  have hi : i < k := by
    have := (List.getElem?_eq_some_iff.mp h).1
    rwa [upI_length] at this
  rw [upI, List.getElem?_map, List.getElem?_range hi] at h
  cases h
  exact ⟨rfl, hi⟩
theorem downI_get {a : Int} {k i : Nat} {d : D} (h : (downI a k)[i]? = some d) : d = .int (a - (i : Int)) ∧ i < k := by
  have hi : i < k := by
    have := (List.getElem?_eq_some_iff.mp h).1
    rwa [downI_length] at this
  rw [downI, List.getElem?_map, List.getElem?_range hi] at h
  cases h
  exact ⟨rfl, hi⟩

/-- a range object iterated -/
theorem rangeIter {A : Around} {E : Value → Shared → Prop} {s s₁ : Shared} {R R₁ : Led} {K : Value → Shared → Prop} {items : List D} {r : Addr} {a b c : Int} {t u v : Tok} {k : Nat} (hA : AOk n A) (r₁ : Gr R s R₁ s₁) (hr : IsRange s₁.heap r a b c t u v)
    (hsmall : Builtin.Range.small a b c = true) (hk : Builtin.Range.rangeSize a b c = (k : Int)) (hi : items = (List.range k).map fun i : Nat => .int (a + (i : Int) * c))
    (kk : ∀ I fp P J R' s', Gr R s R' s' → Walks g.prog g.w A I fp [I] items.length P J → J 0 s'.heap → (∀ b ∈ fp, b = I ∨ ∃ o, (b, o) ∈ R') → (∀ i h, J i h → ∃ o, h.get? I = some o ∧ noSeq' o) → s.heap.get? I = none →
      (∀ p ∈ R', p.1 ≠ I) → (∀ i v, P i v → ∃ d, items[i]? = some d ∧ Is R' v d) → K (.ref I) s') : wpAny g.M A (pyIter (.ref r)) K E s₁ := by
  refine wpAny_pyIter_range hr hsmall ?_
  (refine rwt hk ?_)
  have W := Walks.range (prog := g.prog) (w := g.w) (A := A) hA.hd s₁.heap.objs.size a c k
  have hlen : items.length = k := by (refine rwt hi ?_); simp
  have r₂ : Gr R₁ s₁ R₁ { s₁ with heap := s₁.heap.push { cls := .type "range_iterator", data := .fields #[rawInt a, rawInt (k : Int), rawInt c] } } := .grow r₁.led fun b o e => Heap.get?_push_of_some _ e
  refine kk _ _ (fun i v => i < k ∧ ∃ t, v = .int (a + (i : Int) * c) t) _ R₁ _ (r₁.trans r₂) (by
    (refine rwt hlen ?_)
    exact ⟨W.sub, W.frame, fun i s Q E hi st hQ => W.item i s Q E hi st fun v h' tk hP => hQ v h' tk ⟨hi, hP⟩, W.done, W.self⟩) ?_ (fun b hb => .inl (List.mem_singleton.mp hb)) (fun i h hJ => ⟨_, hJ, by constructor <;> (show Value.type "range_iterator" ≠ _; decide)⟩) ?_ (fun p hp => Nat.ne_of_lt (Heap.lt_size (r₁.led p hp))) fun i v hv => ?_
  · show IsRangeIter _ _ (a + ((0 : Nat) : Int) * c) ((k : Int) - ((0 : Nat) : Int)) c
    have e1 : a + ((0 : Nat) : Int) * c = a := by simp
    have e2 : (k : Int) - ((0 : Nat) : Int) = k := by simp
    (refine rwt e1 ?_; refine rwt e2 ?_)
    exact Heap.get?_push_size _ rfl
  · cases q : s.heap.get? s₁.heap.objs.size with
    | none => rfl
    | some o => exact absurd (Heap.lt_size (r₁.ext _ _ q)) (Nat.lt_irrefl _)
  · obtain ⟨hlt, t, rfl⟩ := hv
    refine ⟨.int (a + (i : Int) * c), ?_, .int _ _⟩
    (refine rwt hi ?_; refine rwt List.getElem?_map ?_; refine rwt (List.getElem?_range hlt) ?_); rfl

theorem ITER.range1 {e : Expr} {p pos : Pos} {b : Int} (he : EV g f n σ e (.int b)) (hb : b < 2 ^ 62) (hb' : -(2 ^ 62) ≤ b) (hg : nsIn g.K mainGlobals "range" = some none)
    (hs : starEach [e] f.env = [(false, eval e f.env)] := by rfl) (hk : f.env.scope.kind = .function := by rfl) (hx : f.env.kindOf "range" = some .globalImplicit := by rfl)
    (hgl : f.env.globals = mainGlobals := by rfl) (hbu : f.env.builtins = builtinsNs := by rfl) : ITER g f n σ (.Call (.Name "range" p) [e] [] pos) (upI 0 b.toNat) :=
  fun A E s R K hA hS kk => Call_Name1 (name_bi hS hg (show bootBuiltins "range" = some (.type "range") by decide +kernel) (PyProof.Rows.callWith_type rfl (evalArgs_plain (spliced_cons (he A E s R _ hA hS fun v R₁ s₁ r₁ i₁ => spliced_nil (by
    (first | refine Is.eInt i₁ fun _ => ?_ | refine Is.eFn i₁ ?_ | refine Is.eBool i₁ ?_ | refine Is.eStr i₁ fun _ => ?_ | refine Is.eNone i₁ ?_ | cases i₁)
    refine call_range_1 ?_
    have r₂ := r₁.trans (Gr.grow (h' := s₁.heap.push { cls := .type "range", data := .fields #[.int 0 s₁.toks, .int b ‹_›, .int 1 (s₁.toks + 1)] }) (tk := s₁.toks + 1 + 1) r₁.led fun b o e => Heap.get?_push_of_some _ e)
    exact rangeIter (k := b.toNat) hA r₂ (IsRange.new ..) (small_one (by decide) (by decide) hb' hb) (by (refine rwt (rangeSize_one ..) ?_); split <;> (first | exact oq23 (by assumption) | exact oq24 (by assumption))) (by simp [upI]) kk))))) (by decide) hk hx hgl hbu) hs
theorem ITER.range2 {e₁ e₂ : Expr} {p pos : Pos} {a b : Int} (h₁ : EV g f n σ e₁ (.int a)) (h₂ : EV g f n σ e₂ (.int b)) (ha : a < 2 ^ 62) (ha' : -(2 ^ 62) ≤ a) (hb : b < 2 ^ 62) (hb' : -(2 ^ 62) ≤ b) (hg : nsIn g.K mainGlobals "range" = some none)
    (hs : starEach [e₁, e₂] f.env = [(false, eval e₁ f.env), (false, eval e₂ f.env)] := by rfl) (hk : f.env.scope.kind = .function := by rfl) (hx : f.env.kindOf "range" = some .globalImplicit := by rfl)
    (hgl : f.env.globals = mainGlobals := by rfl) (hbu : f.env.builtins = builtinsNs := by rfl) : ITER g f n σ (.Call (.Name "range" p) [e₁, e₂] [] pos) (upI a (b - a).toNat) :=
  fun A E s R K hA hS kk => Call_Name2 (name_bi hS hg (show bootBuiltins "range" = some (.type "range") by decide +kernel) (PyProof.Rows.callWith_type rfl (evalArgs_plain (spliced_cons (h₁ A E s R _ hA hS fun v R₁ s₁ r₁ i₁ => spliced_cons (h₂ A E s₁ R₁ _ hA (hS.gr r₁) fun v₂ R₂ s₂ r₂ i₂ => spliced_nil (by
    (first | refine Is.eInt i₁ fun _ => ?_ | refine Is.eFn i₁ ?_ | refine Is.eBool i₁ ?_ | refine Is.eStr i₁ fun _ => ?_ | refine Is.eNone i₁ ?_ | cases i₁); (first | refine Is.eInt i₂ fun _ => ?_ | refine Is.eFn i₂ ?_ | refine Is.eBool i₂ ?_ | refine Is.eStr i₂ fun _ => ?_ | refine Is.eNone i₂ ?_ | cases i₂)
    rename_i t₁ t₂
    refine call_range_2 ?_
    have r₃ := (r₁.trans r₂).trans (Gr.grow (h' := s₂.heap.push { cls := .type "range", data := .fields #[.int a t₁, .int b t₂, .int 1 s₂.toks] }) (tk := s₂.toks + 1) r₂.led fun b o e => Heap.get?_push_of_some _ e)
    exact rangeIter (k := (b - a).toNat) hA r₃ (IsRange.new ..) (small_one ha' ha hb' hb) (by (refine rwt (rangeSize_one ..) ?_); split <;> (first | exact oq25 (by assumption) | exact oq26 (by assumption))) (by simp [upI]) kk)))))) (by decide) hk hx hgl hbu) hs
theorem ITER.range3 {e₁ e₂ e₃ : Expr} {p pos : Pos} {a b : Int} (h₁ : EV g f n σ e₁ (.int a)) (h₂ : EV g f n σ e₂ (.int b)) (h₃ : EV g f n σ e₃ (.int (-1))) (ha : a < 2 ^ 62) (ha' : -(2 ^ 62) ≤ a) (hb : b < 2 ^ 62) (hb' : -(2 ^ 62) ≤ b) (hg : nsIn g.K mainGlobals "range" = some none)
    (hs : starEach [e₁, e₂, e₃] f.env = [(false, eval e₁ f.env), (false, eval e₂ f.env), (false, eval e₃ f.env)] := by rfl) (hk : f.env.scope.kind = .function := by rfl) (hx : f.env.kindOf "range" = some .globalImplicit := by rfl)
    (hgl : f.env.globals = mainGlobals := by rfl) (hbu : f.env.builtins = builtinsNs := by rfl) : ITER g f n σ (.Call (.Name "range" p) [e₁, e₂, e₃] [] pos) (downI a (a - b).toNat) :=
  fun A E s R K hA hS kk => Call_Name (by (refine rwt hs ?_); rfl) (name_bi hS hg (show bootBuiltins "range" = some (.type "range") by decide +kernel) (PyProof.Rows.callWith_type rfl (evalArgs_plain (spliced_cons (h₁ A E s R _ hA hS fun v R₁ s₁ r₁ i₁ => spliced_cons (h₂ A E s₁ R₁ _ hA (hS.gr r₁) fun v₂ R₂ s₂ r₂ i₂ => spliced_cons (h₃ A E s₂ R₂ _ hA (hS.gr (r₁.trans r₂)) fun v₃ R₃ s₃ r₃ i₃ => spliced_nil (by
    (first | refine Is.eInt i₁ fun _ => ?_ | refine Is.eFn i₁ ?_ | refine Is.eBool i₁ ?_ | refine Is.eStr i₁ fun _ => ?_ | refine Is.eNone i₁ ?_ | cases i₁); (first | refine Is.eInt i₂ fun _ => ?_ | refine Is.eFn i₂ ?_ | refine Is.eBool i₂ ?_ | refine Is.eStr i₂ fun _ => ?_ | refine Is.eNone i₂ ?_ | cases i₂); (first | refine Is.eInt i₃ fun _ => ?_ | refine Is.eFn i₃ ?_ | refine Is.eBool i₃ ?_ | refine Is.eStr i₃ fun _ => ?_ | refine Is.eNone i₃ ?_ | cases i₃)
    rename_i t₁ t₂ t₃
    refine call_range_3 (by decide) ?_
    have r₄ := ((r₁.trans r₂).trans r₃).trans (Gr.grow (h' := s₃.heap.push { cls := .type "range", data := .fields #[.int a t₁, .int b t₂, .int (-1) t₃] }) (tk := s₃.toks) r₃.led fun b o e => Heap.get?_push_of_some _ e)
    refine rangeIter (k := (a - b).toNat) hA r₄ (IsRange.new ..) (small_down ha' ha hb' hb) (rangeSize_downNat _ _) ?_ kk
    unfold downI
    congr 1
    funext i
    congr 1
    lia))))))) (by decide) hk hx hgl hbu)

theorem ITER.rev {e : Expr} {p pos : Pos} {ds : List D} (he : EV g f n σ e (.list ds)) (hg : nsIn g.K mainGlobals "reversed" = some none)
    (hs : starEach [e] f.env = [(false, eval e f.env)] := by rfl) (hk : f.env.scope.kind = .function := by rfl) (hx : f.env.kindOf "reversed" = some .globalImplicit := by rfl)
    (hgl : f.env.globals = mainGlobals := by rfl) (hbu : f.env.builtins = builtinsNs := by rfl) : ITER g f n σ (.Call (.Name "reversed" p) [e] [] pos) ds.reverse :=
  fun A E s R K hA hS kk => Call_Name1 (name_bi hS hg (show bootBuiltins "reversed" = some (.type "reversed") by decide +kernel) (PyProof.Rows.callWith_type rfl (evalArgs_plain (spliced_cons (he A E s R _ hA hS fun v R₁ s₁ r₁ i₁ => spliced_nil (by
    cases i₁ with
    | list hm ha =>
      rename_i a vs k
      have hl : s₁.heap.IsList a vs.toArray := ⟨_, r₁.led _ hm, rfl, _, rfl⟩
      have hlt : a < s₁.heap.objs.size := Heap.lt_size (r₁.led _ hm)
      refine call_reversed_list hl ?_
      have W := Walks.listRev (prog := g.prog) (w := g.w) (A := A) hA.hd s₁.heap.objs.size a (Nat.ne_of_lt hlt) vs.toArray
      have hlen : vs.toArray.size = ds.reverse.length := by (refine rwt List.size_toArray ?_; refine rwt ha.length ?_; refine rwt List.length_reverse ?_; with_reducible rfl)
      have r₂ : Gr R₁ s₁ R₁ { s₁ with heap := s₁.heap.push (revObj a ((vs.toArray.size : Int) - 1)) } := .grow r₁.led fun b o e => Heap.get?_push_of_some _ e
      have hit : (s₁.heap.push (revObj a ((vs.toArray.size : Int) - 1))).IsRevIter s₁.heap.objs.size a ((vs.toArray.size : Int) - 1 - ((0 : Nat) : Int)) := ⟨_, Heap.get?_push_size _ rfl, rfl, by simp [revObj]⟩
      refine wpAny_pyIter_revIter (s := { s₁ with heap := s₁.heap.push (revObj a ((vs.toArray.size : Int) - 1)) }) hit ?_
      have W' : Walks g.prog g.w A s₁.heap.objs.size [s₁.heap.objs.size, a] [s₁.heap.objs.size] ds.reverse.length (fun i v => i < vs.length ∧ vs.toArray[vs.toArray.size - 1 - i]? = some v) (fun i h => i ≤ vs.toArray.size ∧ h.IsRevIter s₁.heap.objs.size a ((vs.toArray.size : Int) - 1 - (i : Int)) ∧ h.IsList a vs.toArray) := by
        (refine rws hlen ?_)
        exact ⟨W.sub, W.frame, fun i s Q E hi st hQ => W.item i s Q E hi st fun v h' tk hP => hQ v h' tk ⟨by simpa using hi, hP⟩, W.done, W.self⟩
      refine kk _ _ _ _ R₁ _ (r₁.trans r₂) W' ⟨Nat.zero_le _, hit, hl.push _⟩ (fun b hb => ?_) (fun i h hJ => ?_) ?_ (fun p hp => Nat.ne_of_lt (Heap.lt_size (r₁.led p hp))) fun i v hv => ?_
      · rcases List.mem_cons.mp hb with rfl | hb
        · exact .inl rfl
        · (refine rwt (List.mem_singleton.mp hb) ?_); exact .inr ⟨_, hm⟩
      · refine xe0_3 hJ fun _ g_1 _ => ?_
        obtain ⟨o, ho, hc, _⟩ := g_1
        try clear hJ
        exact ⟨o, ho, by (rewrite [noSeq']; refine rwt hc ?_); decide⟩
      · cases q : s.heap.get? s₁.heap.objs.size with
        | none => rfl
        | some o => exact absurd (Heap.lt_size (r₁.ext _ _ q)) (Nat.lt_irrefl _)
      · refine xe0_2 hv fun h1 h2 => ?_
        try clear hv
        refine ha.reverse.getV (k := i) ?_
        (refine rwt (List.getElem?_reverse h1) ?_)
        simpa using h2))))) (by decide) hk hx hgl hbu) hs

/-! ## a def's contract from its body -/
def mkVars (names : List Str) (ds : List D) (locals : List Str) : Vars := (names.zip ds).map (fun p => (p.1, Sl.val p.2)) ++ locals.map fun x => (x, Sl.un)

theorem lookup_zip {R : Led} : ∀ {names : List Str} {vs : List Value} {ds : List D} {x : Str} {d : D}, names.Nodup → IsAll R vs ds → (x, d) ∈ names.zip ds → ∃ v, (names.zip vs).lookup x = some v ∧ Is R v d
  | [], _, _, _, _, _, _, h => by simp at h
  | y :: ys, [], _, _, _, _, i, h => by (first | refine Is.eInt i fun _ => ?_ | refine Is.eFn i ?_ | refine Is.eBool i ?_ | refine Is.eStr i fun _ => ?_ | refine Is.eNone i ?_ | cases i); simp at h
  | y :: ys, v :: vs, _, x, d, nd, i, h => by
    cases i with
    | cons i is =>
      rw [List.nodup_cons] at nd
      rcases List.mem_cons.mp h with e | h
      · cases e
        exact ⟨v, by (refine rwt List.zip_cons_cons ?_; refine rwt List.lookup_cons ?_); simp, i⟩
      · refine xe1_2 (lookup_zip nd.2 is h) fun w h1 h2 => ?_
        refine ⟨w, ?_, h2⟩
        have hne : x ≠ y := fun e => nd.1 (e ▸ (List.of_mem_zip h).1)
        (refine rwt List.zip_cons_cons ?_; refine rwt List.lookup_cons ?_)
        simp only [beq_eq_false_iff_ne.mpr hne]
        exact h1
theorem lookup_rev : ∀ {l : List (Str × Value)} {x : Str}, (l.map (·.1)).Nodup → l.reverse.lookup x = l.lookup x
  | [], _, _ => rfl
  | (y, v) :: r, x, nd => by
    rw [List.map_cons, List.nodup_cons] at nd
    (refine rwt List.reverse_cons ?_; refine rwt List.lookup_append ?_; refine rwt (lookup_rev nd.2) ?_; refine rwt List.lookup_cons ?_; refine rwt List.lookup_cons ?_)
    by_cases h : x = y
    · subst h
      have : r.lookup x = none := by
        rw [List.lookup_eq_none_iff]
        intro p hp
        have : x ≠ p.1 := fun e => nd.1 (List.mem_map.mpr ⟨p, hp, e.symm⟩)
        simpa using this
      (refine rwt this ?_); simp
    · have hb : (x == y) = false := beq_eq_false_iff_ne.mpr h
      simp [hb]

theorem FN.of {a : Addr} {ds : List D} {d : D} {name qual : Str} {params : Arguments} {body : List Stmt} {scope : Scope} {dV kV doc pm cdv ct oc : Value} {an od : Option Addr} {osl : Array (Option Value)} (names locals : List Str)
    (ho : g.K.lookup a = some ⟨oc, od, .func (fnOf name qual params body scope dV kV doc pm an cdv ct), osl⟩) (hcd : codeIn g.K cdv qual = true)
    (hb : ∀ vs : List Value, vs.length = ds.length → bindArgs (fnOf name qual params body scope dV kV doc pm an cdv ct) ⟨vs, []⟩ = pure (names.zip vs))
    (hn : names.length = ds.length) (hnd : (names ++ locals).Nodup) (hloc : (names.all fun x => scope.names.lookup x == some .local) = true)
    (h : ∀ (L : Addr) (h₀ : Heap) (R₀ : Led), WP g ⟨envOf qual scope L a cdv, h₀, R₀⟩ n (mkVars names ds locals) body (fun o => o = .ret d))
    (hcell : ∀ x ∈ scope.names, x.2 ≠ .cell := by decide) (hco : scope.isCoroutine = false := by rfl) (hgen : scope.isGenerator = false := by rfl) (hk : scope.kind = .function := by rfl) : FN g (n + 1) a ds d :=
  fun A E s R vs Q hA hG hL hI q => by
    refine wpAny_call (codeAny_call_def (fd := fnOf name qual params body scope dV kV doc pm an cdv ct) (body := body) (binds := names.zip vs) hA.room (hG.k _ _ ho) rfl hG.t.nolimit (codeRec_of hG.k hcd) rfl (BindsTo.of_eq (hb vs hI.length)) hcell (fun x hx => ?_) (fun h₁ hns hk₁ => ?_) hco hgen hk)
    · have := List.all_eq_true.mp hloc x.1 (List.of_mem_zip hx).1
      simpa using this
    · have hnd' : names.Nodup := (List.nodup_append.mp hnd).1
      have hnz : ((names.zip vs).map (·.1)).Nodup := by
        (refine rwt (List.map_fst_zip (by rw [hI.length, hn]; exact Nat.le_refl _)) ?_)
        exact hnd'
      have S : St g ⟨envOf qual scope s.heap.objs.size a cdv, s.heap, R⟩ (mkVars names ds locals) R h₁ := by
        refine ⟨fun x => (names.zip vs).reverse.lookup x, ⟨hns, hk₁, Nat.le_refl _⟩, hG, fun p hp => ⟨hk₁ _ _ (hL p hp), Nat.ne_of_lt (Heap.lt_size (hL p hp)), .inl hp⟩, fun _ h => h, ?_, fun x d hx => ?_, fun x es hx => ?_, fun x es y fs hx _ => ?_⟩
        · have : (mkVars names ds locals).map (·.1) = names ++ locals := by
            unfold mkVars
            (refine rwt List.map_append ?_; refine rwt List.map_map ?_; refine rwt List.map_map ?_)
            congr 1
            · have e : ((fun p => p.1) ∘ fun p : Str × D => (p.1, Sl.val p.2)) = Prod.fst := rfl
              (refine rwt e ?_; refine rwt (List.map_fst_zip (by rw [hn]; exact Nat.le_refl _)) ?_; with_reducible rfl)
            · have e : ((fun p => p.1) ∘ fun x : Str => (x, Sl.un)) = id := rfl
              (refine rwt e ?_; refine rwt (List.map_id ..) ?_; with_reducible rfl)
          (refine rwt this ?_); exact hnd
        · rcases List.mem_append.mp hx with hx | hx
          · refine xe1_2 (List.mem_map.mp hx) fun p hp e => ?_
            cases e
            refine xe1_2 (lookup_zip hnd' hI hp) fun v h1 h2 => ?_
            exact ⟨v, (lookup_rev hnz).trans h1, h2⟩
          · refine xe1_2 (List.mem_map.mp hx) fun p hp e => ?_
            cases e
        · rcases List.mem_append.mp hx with hx | hx
          · obtain ⟨p, hp, e⟩ := List.mem_map.mp hx; cases e
          · obtain ⟨p, hp, e⟩ := List.mem_map.mp hx; cases e
        · rcases List.mem_append.mp hx with hx | hx
          · obtain ⟨p, hp, e⟩ := List.mem_map.mp hx; cases e
          · obtain ⟨p, hp, e⟩ := List.mem_map.mp hx; cases e
      refine wpAny_mono (h s.heap.objs.size s.heap R _ (fun _ _ => False) _ R (fun fl s' => Q (match fl with | .ret v => v | _ => .none) s') (hA.deeper) S fun o fl R' s' ho r m ok => ?_) (fun _ _ x => x) fun _ _ x => x.elim
      subst ho
      refine xe1_3 ok fun v e_1 i r_0 => ?_
      refine xe1_1 r_0 fun m' S' => ?_
      subst e_1
      try clear ok
      refine q v R' s' ⟨Rest.mk'.trans r, S'.fr.keep, m, fun p hp => (S'.led p hp).2.2, fun p hp => (S'.led p hp).1⟩ i

theorem len1 {P : List Value → Prop} (h : ∀ a, P [a]) : ∀ vs : List Value, vs.length = 1 → P vs
  | [a], _ => h a
theorem len2 {P : List Value → Prop} (h : ∀ a b, P [a, b]) : ∀ vs : List Value, vs.length = 2 → P vs
  | [a, b], _ => h a b
theorem len3 {P : List Value → Prop} (h : ∀ a b c, P [a, b, c]) : ∀ vs : List Value, vs.length = 3 → P vs
  | [a, b, c], _ => h a b c
theorem len4 {P : List Value → Prop} (h : ∀ a b c d, P [a, b, c, d]) : ∀ vs : List Value, vs.length = 4 → P vs
  | [a, b, c, d], _ => h a b c d
theorem len5 {P : List Value → Prop} (h : ∀ a b c d e, P [a, b, c, d, e]) : ∀ vs : List Value, vs.length = 5 → P vs
  | [a, b, c, d, e], _ => h a b c d e
theorem len6 {P : List Value → Prop} (h : ∀ a b c d e k, P [a, b, c, d, e, k]) : ∀ vs : List Value, vs.length = 6 → P vs
  | [a, b, c, d, e, k], _ => h a b c d e k
end
end
section
/-! plain arithmetic of limbs: no program in sight -/

/-- the digits of n to the base B, the least first -/
def dg (B n : Nat) : List Nat := if h : n = 0 ∨ B < 2 then [] else (n % B) :: dg B (n / B)
termination_by n
decreasing_by
  have h1 : ¬ n = 0 := fun e => h (.inl e)
  have h2 : ¬ B < 2 := fun e => h (.inr e)
  exact Nat.div_lt_self (by exact oq27 h) (by exact oq28 h)

def num (B : Nat) : List Nat → Nat
  | [] => 0
  | x :: xs => x + B * num B xs

theorem dg_zero (B : Nat) : dg B 0 = [] := by (rewrite [dg]; refine rwt (dif_pos (.inl rfl)) ?_; with_reducible rfl)
theorem dg_pos {B n : Nat} (hB : 2 ≤ B) (hn : 0 < n) : dg B n = (n % B) :: dg B (n / B) := by (rewrite [dg]; refine rwt (dif_neg (by exact oq29 hn hB)) ?_; with_reducible rfl)

def Dig (B : Nat) (xs : List Nat) : Prop := ∀ x ∈ xs, x < B

theorem num_append (B : Nat) : ∀ xs ys : List Nat, num B (xs ++ ys) = num B xs + B ^ xs.length * num B ys
  | [], ys => by simp [num]
  | x :: xs, ys => by
    (refine rwt List.cons_append ?_; rewrite [num, num]; refine rwt (num_append B xs ys) ?_; refine rwt List.length_cons ?_; refine rwt (Nat.pow_succ ..) ?_)
    grind
theorem num_lt {B : Nat} : ∀ {xs : List Nat}, Dig B xs → num B xs < B ^ xs.length
  | [], _ => by simp [num]
  | x :: xs, h => by
    have h1 := h x (.head _)
    have h2 := num_lt (xs := xs) fun y hy => h y (.tail _ hy)
    (rewrite [num]; refine rwt List.length_cons ?_; refine rwt (Nat.pow_succ ..) ?_)
    have h3 : B * (num B xs + 1) ≤ B * B ^ xs.length := Nat.mul_le_mul_left _ h2
    (refine rwt (Nat.mul_comm (B ^ xs.length) B) ?_)
    rw [Nat.mul_add] at h3
    exact oq30 h3 h1

theorem dg_dig {B : Nat} (hB : 2 ≤ B) (n : Nat) : Dig B (dg B n) := by
  induction n using Nat.strongRecOn with
  | ind n ih =>
    by_cases h : n = 0
    · subst h; (refine rwt (dg_zero ..) ?_); exact fun _ h => nomatch h
    · (refine rwt (dg_pos hB (by exact oq31 h)) ?_)
      intro x hx
      rcases List.mem_cons.mp hx with rfl | hx
      · exact Nat.mod_lt _ (by exact oq32 hB)
      · exact ih _ (Nat.div_lt_self (by exact oq31 h) (by exact oq33 hB)) x hx
theorem num_dg {B : Nat} (hB : 2 ≤ B) (n : Nat) : num B (dg B n) = n := by
  induction n using Nat.strongRecOn with
  | ind n ih =>
    by_cases h : n = 0
    · subst h; (refine rwt (dg_zero ..) ?_); rfl
    · (refine rwt (dg_pos hB (by exact oq31 h)) ?_; rewrite [num]; refine rwt (ih _ (Nat.div_lt_self (by exact oq31 h) (by exact oq33 hB))) ?_)
      exact Nat.mod_add_div n B

/-- digits whose number is not too small are THE digits -/
theorem dg_of {B : Nat} (hB : 2 ≤ B) : ∀ {xs : List Nat}, Dig B xs → (xs = [] ∨ B ^ (xs.length - 1) ≤ num B xs) → dg B (num B xs) = xs
  | [], _, _ => by (rewrite [num]; refine rwt (dg_zero ..) ?_; with_reducible rfl)
  | x :: xs, h, hge => by
    have hx := h x (.head _)
    have hxs : Dig B xs := fun y hy => h y (.tail _ hy)
    have hge : B ^ xs.length ≤ x + B * num B xs := by
      rcases hge with e | e
      · cases e
      · simpa [num] using e
    have hpos : 0 < x + B * num B xs := Nat.lt_of_lt_of_le (Nat.pow_pos (by exact oq32 hB)) hge
    (rewrite [num]; refine rwt (dg_pos hB hpos) ?_)
    have e1 : (x + B * num B xs) % B = x := by (refine rwt (Nat.add_mul_mod_self_left ..) ?_); exact Nat.mod_eq_of_lt hx
    have e2 : (x + B * num B xs) / B = num B xs := by (refine rwt (Nat.add_mul_div_left _ _ (by exact oq32 hB)) ?_; refine rwt (Nat.div_eq_of_lt hx) ?_; refine rwt (Nat.zero_add ..) ?_; with_reducible rfl)
    (refine rwt e1 ?_; refine rwt e2 ?_)
    congr 1
    refine dg_of hB hxs ?_
    cases xs with
    | nil => exact .inl rfl
    | cons y ys =>
      right
      rw [List.length_cons, Nat.pow_succ] at hge
      (refine rwt List.length_cons ?_; refine rwt (Nat.add_sub_cancel ..) ?_)
      -- B^k * B ≤ x + B * N, x < B
      have : B ^ ys.length * B < B * (num B (y :: ys) + 1) := by (refine rwt (Nat.mul_add ..) ?_); exact oq34 hx hge
      rw [Nat.mul_comm] at this
      have := Nat.lt_of_mul_lt_mul_left this
      exact oq35 this

theorem dg_len_le {B n k : Nat} (hB : 2 ≤ B) (h : n < B ^ k) : (dg B n).length ≤ k := by
  induction k generalizing n with
  | zero =>
    have : n = 0 := by simpa using h
    subst this; (refine rwt (dg_zero ..) ?_); exact Nat.le_refl _
  | succ k ih =>
    by_cases hn : n = 0
    · subst hn; (refine rwt (dg_zero ..) ?_); exact Nat.zero_le _
    · (refine rwt (dg_pos hB (by exact oq31 hn)) ?_; refine rwt List.length_cons ?_)
      have : n / B < B ^ k := by
        (rewrite [Nat.div_lt_iff_lt_mul (by exact oq32 hB)]; refine rwt (Nat.mul_comm ..) ?_)
        rw [Nat.pow_succ, Nat.mul_comm] at h
        exact h
      have := ih this
      exact oq36 this
theorem dg_lt {B : Nat} (hB : 2 ≤ B) (n : Nat) : n < B ^ (dg B n).length := by
  have := num_lt (dg_dig hB n)
  rwa [num_dg hB] at this
theorem dg_ge {B n : Nat} (hB : 2 ≤ B) (hn : 0 < n) : B ^ ((dg B n).length - 1) ≤ n := by
  refine Nat.le_of_not_lt fun h => ?_
  have h1 := dg_len_le hB h
  rw [dg_pos hB hn, List.length_cons] at h1
  exact oq37 h1
theorem dg_len_pos {B n : Nat} (hB : 2 ≤ B) : 0 < (dg B n).length ↔ 0 < n := by
  by_cases h : n = 0
  · subst h; (refine rwt (dg_zero ..) ?_); simp
  · (refine rwt (dg_pos hB (by exact oq31 h)) ?_); simp; exact oq31 h
theorem dg_len_eq_zero {B n : Nat} (hB : 2 ≤ B) : (dg B n).length = 0 ↔ n = 0 := by
  have := dg_len_pos (B := B) (n := n) hB
  exact oq38 this
/-- bounded numbers have few limbs -/
theorem dg_len_small {w n k : Nat} (hw : 1 ≤ w) (h : n < 2 ^ k) : (dg (2 ^ w) n).length ≤ k := by
  refine dg_len_le (Nat.le_trans (by decide : 2 ≤ 2 ^ 1) (Nat.pow_le_pow_right (by decide) hw)) (Nat.lt_of_lt_of_le h ?_)
  exact Nat.pow_le_pow_left (Nat.le_trans (by decide : 2 ≤ 2 ^ 1) (Nat.pow_le_pow_right (by decide) hw)) k
theorem two_le_base {w : Nat} (hw : 1 ≤ w) : 2 ≤ 2 ^ w := Nat.le_trans (by decide : 2 ≤ 2 ^ 1) (Nat.pow_le_pow_right (by decide) hw)

theorem num_take_succ {B : Nat} {xs : List Nat} {i : Nat} (h : i < xs.length) : num B (xs.take (i + 1)) = num B (xs.take i) + B ^ i * xs.getD i 0 := by
  (refine rwt List.take_add_one ?_; refine rwt List.getD_eq_getElem?_getD ?_; refine rwt (List.getElem?_eq_getElem h) ?_; refine rwt (Option.toList_some ..) ?_; refine rwt Option.getD_some ?_; refine rwt (num_append ..) ?_; refine rwt List.length_take ?_; refine rwt (Nat.min_eq_left (by exact oq39 h)) ?_)
  simp [num]
theorem num_snoc (B : Nat) (xs : List Nat) (x : Nat) : num B (xs ++ [x]) = num B xs + B ^ xs.length * x := by (refine rwt (num_append ..) ?_); simp [num]
theorem Dig.snoc {B : Nat} {xs : List Nat} {x : Nat} (h : Dig B xs) (hx : x < B) : Dig B (xs ++ [x]) := by
  intro y hy
  rcases List.mem_append.mp hy with hy | hy
  · exact h y hy
  · (refine rwt (List.mem_singleton.mp hy) ?_); exact hx
theorem Dig.getD {B : Nat} {xs : List Nat} (h : Dig B xs) {i : Nat} (hi : i < xs.length) : xs.getD i 0 < B := by
  (refine rwt List.getD_eq_getElem?_getD ?_; refine rwt (List.getElem?_eq_getElem hi) ?_)
  exact h _ (List.getElem_mem hi)
theorem num_drop {B : Nat} (xs : List Nat) (i : Nat) (h : i ≤ xs.length) : num B xs = num B (xs.take i) + B ^ i * num B (xs.drop i) := by
  have := num_append B (xs.take i) (xs.drop i)
  rw [List.take_append_drop, List.length_take, Nat.min_eq_left h] at this
  exact this

/-- the sum's loop, one step -/
theorem sum_step {B P S F A b c x y : Nat} (h : F + P * c = A) : F + P * ((c + (x + y)) % B) + P * B * ((c + (x + y)) / B) = A + P * (x + y) := by
  have e := Nat.mod_add_div (c + (x + y)) B
  have e2 : P * ((c + (x + y)) % B) + P * (B * ((c + (x + y)) / B)) = P * (c + (x + y)) := by (refine rws (Nat.mul_add ..) ?_; refine rwt e ?_; with_reducible rfl)
  (refine rwt (Nat.mul_assoc ..) ?_)
  rw [Nat.mul_add P c] at e2
  exact oq40 h e2
end
section
def cmpI (a b : Nat) : Int := if a < b then -1 else if b < a then 1 else 0

theorem drop_getD {xs : List Nat} {i : Nat} (h : i < xs.length) : xs.drop i = xs.getD i 0 :: xs.drop (i + 1) := by
  (refine rwt (List.drop_eq_getElem_cons h) ?_; refine rwt List.getD_eq_getElem?_getD ?_; refine rwt (List.getElem?_eq_getElem h) ?_)
  rfl
theorem num_top {B : Nat} {xs ys : List Nat} {i : Nat} (hx : i < xs.length) (hy : i < ys.length) (hd : xs.drop (i + 1) = ys.drop (i + 1)) (hl : xs.getD i 0 < ys.getD i 0) (dx : Dig B xs) : num B xs < num B ys := by
  (refine rwt (num_drop xs i (by exact oq39 hx)) ?_; refine rwt (num_drop ys i (by exact oq39 hy)) ?_; refine rwt (drop_getD hx) ?_; refine rwt (drop_getD hy) ?_; rewrite [num, num]; refine rwt hd ?_)
  have h1 : num B (xs.take i) < B ^ i := by
    have := num_lt (B := B) (xs := xs.take i) fun x hx => dx x (List.mem_of_mem_take hx)
    rwa [List.length_take, Nat.min_eq_left (by exact oq39 hx)] at this
  have h2 : B ^ i * (xs.getD i 0 + 1) ≤ B ^ i * ys.getD i 0 := Nat.mul_le_mul_left _ hl
  rw [Nat.mul_add] at h2
  (refine rwt (Nat.mul_add ..) ?_; refine rwt (Nat.mul_add ..) ?_)
  exact oq41 h2 h1
theorem num_le_drop {B : Nat} (hB : 1 ≤ B) (xs : List Nat) (i : Nat) (h : i ≤ xs.length) : num B (xs.drop i) ≤ num B xs := by
  (refine rwt (num_drop xs i h) ?_)
  have := Nat.mul_le_mul_right (num B (xs.drop i)) (Nat.pow_pos (n := i) hB : 0 < B ^ i)
  lia
theorem lt_of_len {B a b : Nat} (hB : 2 ≤ B) (h : (dg B a).length < (dg B b).length) : a < b := by
  have h1 := dg_lt hB a
  have hb : 0 < b := by
    have := (dg_len_pos (B := B) (n := b) hB).mp (by exact oq42 h)
    exact this
  have h2 := dg_ge hB hb
  have h3 : B ^ (dg B a).length ≤ B ^ ((dg B b).length - 1) := Nat.pow_le_pow_right (by exact oq32 hB) (by exact oq43 h)
  exact oq44 h1 h3 h2
theorem dg_inj {B a b : Nat} (hB : 2 ≤ B) (h : dg B a = dg B b) : a = b := by
  have := congrArg (num B) h
  rwa [num_dg hB, num_dg hB] at this
theorem cmpI_len_lt {B a b : Nat} (hB : 2 ≤ B) (h : (dg B a).length < (dg B b).length) : cmpI a b = -1 := by (rewrite [cmpI]; refine rwt (if_pos (lt_of_len hB h)) ?_; with_reducible rfl)
theorem cmpI_len_gt {B a b : Nat} (hB : 2 ≤ B) (h : (dg B b).length < (dg B a).length) : cmpI a b = 1 := by
  have := lt_of_len hB h
  (rewrite [cmpI]; refine rwt (if_neg (by exact oq45 this)) ?_; refine rwt (if_pos this) ?_; with_reducible rfl)
theorem sum_step' {B P F A c x : Nat} (h : F + P * c = A) : F + P * ((c + x) % B) + P * B * ((c + x) / B) = A + P * x := by
  have e := Nat.mod_add_div (c + x) B
  have e2 : P * ((c + x) % B) + P * (B * ((c + x) / B)) = P * (c + x) := by (refine rws (Nat.mul_add ..) ?_; refine rwt e ?_; with_reducible rfl)
  (refine rwt (Nat.mul_assoc ..) ?_)
  rw [Nat.mul_add P c] at e2
  exact oq40 h e2
/-- the sum's digits are canonical -/
theorem add_fin {B a b c : Nat} {fs : List Nat} (hB : 2 ≤ B) (hba : b < B ^ (dg B a).length) (hl : fs.length = (dg B a).length) (hd : Dig B fs) (h : num B fs + B ^ (dg B a).length * c = a + b) :
    (0 < c → dg B (a + b) = fs ++ [c]) ∧ (c = 0 → dg B (a + b) = fs) := by
  have ha := dg_lt hB a
  refine ⟨fun hc => ?_, fun hc => ?_⟩
  · have hc2 : c < 2 := by
      refine Nat.lt_of_not_le fun h2 => ?_
      have := Nat.mul_le_mul_left (B ^ (dg B a).length) h2
      exact oq46 this h hba ha
    have e : num B (fs ++ [c]) = a + b := by (refine rwt (num_snoc ..) ?_; refine rwt hl ?_); exact h
    (refine rws e ?_)
    refine dg_of hB (hd.snoc (by exact oq47 hB hc2)) (.inr ?_)
    (refine rwt List.length_append ?_; refine rwt List.length_singleton ?_; refine rwt (Nat.add_sub_cancel ..) ?_; refine rwt e ?_; refine rwt hl ?_)
    have := Nat.mul_le_mul_left (B ^ (dg B a).length) hc
    lia
  · subst hc
    have e : num B fs = a + b := by exact oq48 h
    (refine rws e ?_)
    refine dg_of hB hd ?_
    (refine rwt e ?_; refine rwt hl ?_)
    by_cases h0 : a = 0
    · left
      subst h0
      rw [dg_zero] at hl
      exact List.length_eq_zero_iff.mp hl
    · right
      have := dg_ge hB (Nat.pos_of_ne_zero h0)
      exact oq49 this
theorem add_limb_fin {B a l c : Nat} {fs : List Nat} (hB : 2 ≤ B) (hlB : l < B) (hl : fs.length = (dg B a).length) (hd : Dig B fs) (h : num B fs + B ^ (dg B a).length * c = a + l) :
    (0 < c → dg B (a + l) = fs ++ [c]) ∧ (c = 0 → dg B (a + l) = fs) := by
  by_cases h0 : a = 0
  · subst h0
    rw [dg_zero] at hl h
    have e : fs = [] := List.length_eq_zero_iff.mp hl
    subst e
    simp only [num, List.length_nil, Nat.pow_zero, Nat.one_mul, Nat.zero_add] at h
    subst h
    refine ⟨fun hc => ?_, fun hc => ?_⟩
    · (refine rwt (Nat.zero_add ..) ?_; refine rwt (dg_pos hB hc) ?_; refine rwt (Nat.mod_eq_of_lt hlB) ?_; refine rwt (Nat.div_eq_of_lt hlB) ?_; refine rwt (dg_zero ..) ?_); rfl
    · subst hc; (refine rwt (Nat.zero_add ..) ?_; refine rwt (dg_zero ..) ?_; with_reducible rfl)
  · refine add_fin hB (Nat.lt_of_lt_of_le hlB ?_) hl hd h
    have := (dg_len_pos (B := B) (n := a) hB).mpr (by exact oq31 h0)
    calc B = B ^ 1 := (Nat.pow_one _).symm
      _ ≤ _ := Nat.pow_le_pow_right (by exact oq32 hB) this
end
section
def sgv (b : Bool) (n : Nat) : Int := if b = true then -(n : Int) else n
theorem sgv_neg (b : Bool) (n : Nat) : decide (sgv b n < 0) = (b && decide (0 < n)) := by
  cases b <;> simp [sgv] <;> (first | lia | omega)
theorem sgv_abs (b : Bool) (n : Nat) : (sgv b n).natAbs = n := by
  cases b <;> simp [sgv]
theorem sgv_self (z : Int) : sgv (decide (z < 0)) z.natAbs = z := by
  unfold sgv
  by_cases h : z < 0
  · (refine rwt (if_pos (decide_eq_true h)) ?_); exact oq50 h
  · (refine rwt (if_neg (by simpa using h)) ?_); exact oq51 h
def cmpZ (x y : Int) : Int := if x < y then -1 else if y < x then 1 else 0
theorem sgv_not (z : Int) : sgv (!decide (z < 0)) z.natAbs = -z := by
  unfold sgv
  by_cases h : z < 0
  · (refine rwt (decide_eq_true h) ?_); simp; exact oq52 h
  · (refine rwt (decide_eq_false h) ?_); simp; exact oq51 h
theorem sgv_mul (x y : Int) : sgv (decide (x < 0) != decide (y < 0)) (x.natAbs * y.natAbs) = x * y := by
  unfold sgv
  (refine rwt (Int.natCast_mul ..) ?_)
  by_cases hx : x < 0 <;> by_cases hy : y < 0
  · simp only [hx, hy]; simp; (refine rwt (Int.ofNat_natAbs_of_nonpos (by exact oq53 hx)) ?_; refine rwt (Int.ofNat_natAbs_of_nonpos (by exact oq53 hy)) ?_; refine rwt (Int.neg_mul_neg ..) ?_; with_reducible rfl)
  · simp only [hx, hy]; simp; (refine rwt (Int.ofNat_natAbs_of_nonpos (by exact oq53 hx)) ?_; refine rwt (Int.natAbs_of_nonneg (by exact oq54 hy)) ?_; refine rwt (Int.neg_mul ..) ?_; refine rwt (Int.neg_neg ..) ?_; with_reducible rfl)
  · simp only [hx, hy]; simp; (refine rwt (Int.natAbs_of_nonneg (by exact oq54 hx)) ?_; refine rwt (Int.ofNat_natAbs_of_nonpos (by exact oq53 hy)) ?_; refine rwt (Int.mul_neg ..) ?_; refine rwt (Int.neg_neg ..) ?_; with_reducible rfl)
  · simp only [hx, hy]; simp; (refine rwt (Int.natAbs_of_nonneg (by exact oq54 hx)) ?_; refine rwt (Int.natAbs_of_nonneg (by exact oq54 hy)) ?_; with_reducible rfl)
theorem sgv_tdiv (x y : Int) : sgv (decide (x < 0) != decide (y < 0)) (x.natAbs / y.natAbs) = x.tdiv y := by
  unfold sgv
  (refine rwt (Int.natCast_ediv ..) ?_)
  by_cases hx : x < 0 <;> by_cases hy : y < 0
  · simp only [hx, hy]; simp; (refine rwt (Int.ofNat_natAbs_of_nonpos (by exact oq53 hx)) ?_; refine rwt (Int.ofNat_natAbs_of_nonpos (by exact oq53 hy)) ?_; refine rws (Int.tdiv_eq_ediv_of_nonneg (by exact oq55 hx)) ?_; refine rwt (Int.neg_tdiv_neg ..) ?_; with_reducible rfl)
  · simp only [hx, hy]; simp; (refine rwt (Int.ofNat_natAbs_of_nonpos (by exact oq53 hx)) ?_; refine rwt (Int.natAbs_of_nonneg (by exact oq54 hy)) ?_; refine rws (Int.tdiv_eq_ediv_of_nonneg (by exact oq55 hx)) ?_; refine rwt (Int.neg_tdiv ..) ?_; refine rwt (Int.neg_neg ..) ?_; with_reducible rfl)
  · simp only [hx, hy]; simp; (refine rwt (Int.natAbs_of_nonneg (by exact oq54 hx)) ?_; refine rwt (Int.ofNat_natAbs_of_nonpos (by exact oq53 hy)) ?_; refine rws (Int.tdiv_eq_ediv_of_nonneg (by exact oq54 hx)) ?_; refine rwt (Int.tdiv_neg ..) ?_; refine rwt (Int.neg_neg ..) ?_; with_reducible rfl)
  · simp only [hx, hy]; simp; (refine rwt (Int.natAbs_of_nonneg (by exact oq54 hx)) ?_; refine rwt (Int.natAbs_of_nonneg (by exact oq54 hy)) ?_; refine rws (Int.tdiv_eq_ediv_of_nonneg (by exact oq54 hx)) ?_; with_reducible rfl)
theorem sgv_tmod (x y : Int) : sgv (decide (x < 0)) (x.natAbs % y.natAbs) = x.tmod y := by
  unfold sgv
  (refine rws (Int.natAbs_tmod ..) ?_)
  have h1 : 0 ≤ x → 0 ≤ x.tmod y := fun h => Int.tmod_nonneg y h
  have h2 : x ≤ 0 → x.tmod y ≤ 0 := fun h => by
    have := Int.tmod_nonneg (a := -x) y (by exact oq56 h)
    rw [Int.neg_tmod] at this
    exact oq57 this
  by_cases hx : x < 0
  · (refine rwt (if_pos (decide_eq_true hx)) ?_); have := h2 (by exact oq53 hx); exact oq58 this
  · (refine rwt (if_neg (by simpa using hx)) ?_); have := h1 (by exact oq54 hx); exact oq59 this
theorem mul_lt_40 {a b : Nat} (ha : a < 2 ^ 20) (hb : b < 2 ^ 20) : a * b < 2 ^ 40 := by
  calc a * b ≤ a * 2 ^ 20 := Nat.mul_le_mul_left _ (by exact oq60 hb)
    _ < 2 ^ 20 * 2 ^ 20 := Nat.mul_lt_mul_of_pos_right ha (by decide)
    _ = 2 ^ 40 := by decide
theorem mul_lt_60 {a b : Nat} (ha : a < 2 ^ 30) (hb : b < 2 ^ 30) : a * b < 2 ^ 60 := by
  calc a * b ≤ a * 2 ^ 30 := Nat.mul_le_mul_left _ (by exact oq61 hb)
    _ < 2 ^ 30 * 2 ^ 30 := Nat.mul_lt_mul_of_pos_right ha (by decide)
    _ = 2 ^ 60 := by decide
theorem fdiv_pos {x y q r : Int} (hy : 0 < y) (h : y * q + r = x) (h0 : 0 ≤ r) (h1 : r < y) : x.fdiv y = q ∧ x.fmod y = r := by
  (refine rwt (Int.fdiv_eq_ediv_of_nonneg _ (by exact oq62 hy)) ?_; refine rwt (Int.fmod_eq_emod_of_nonneg _ (by exact oq62 hy)) ?_)
  exact (Int.ediv_emod_unique hy).mpr ⟨by exact oq63 h, h0, h1⟩
theorem fdiv_unique {x y q r : Int} (h : y * q + r = x) (hr : (0 < y ∧ 0 ≤ r ∧ r < y) ∨ (y < 0 ∧ r ≤ 0 ∧ y < r)) : x.fdiv y = q ∧ x.fmod y = r := by
  rcases hr with ⟨a, b, c⟩ | ⟨a, b, c⟩
  · exact fdiv_pos a h b c
  · have := fdiv_pos (x := -x) (y := -y) (q := q) (r := -r) (by exact oq64 a) (by (refine rwt (Int.neg_mul ..) ?_); exact oq65 h) (by exact oq56 b) (by exact oq66 c)
    rw [Int.neg_fdiv_neg] at this
    refine ⟨this.1, ?_⟩
    have e := Int.mul_fdiv_add_fmod x y
    rw [this.1] at e
    exact oq67 h e
theorem tmod_rng (x : Int) {y : Int} (hy : y ≠ 0) : (0 ≤ x → 0 ≤ x.tmod y) ∧ (x ≤ 0 → x.tmod y ≤ 0) ∧ (x.tmod y).natAbs < y.natAbs := by
  refine ⟨fun h => Int.tmod_nonneg y h, fun h => ?_, ?_⟩
  · have := Int.tmod_nonneg (a := -x) y (by exact oq56 h)
    rw [Int.neg_tmod] at this
    exact oq57 this
  · (refine rwt (Int.natAbs_tmod ..) ?_); exact Nat.mod_lt _ (by exact oq68 hy)
/-- from the truncated to the floored quotient -/
theorem fdiv_of_tdiv {x y : Int} (hy : y ≠ 0) : (x.tmod y ≠ 0 ∧ (decide (x < 0) != decide (y < 0)) = true → x.fdiv y = x.tdiv y - 1 ∧ x.fmod y = x.tmod y + y) ∧ (¬ (x.tmod y ≠ 0 ∧ (decide (x < 0) != decide (y < 0)) = true) → x.fdiv y = x.tdiv y ∧ x.fmod y = x.tmod y) := by
  have e2 := Int.mul_tdiv_add_tmod x y
  refine xe0_3 (tmod_rng x hy) fun r1 r2 r3 => ?_
  refine ⟨fun h => fdiv_unique (by (refine rwt (Int.mul_sub ..) ?_; refine rwt (Int.mul_one ..) ?_); exact oq69 e2) ?_, fun h => fdiv_unique e2 ?_⟩
  · refine xe0_2 h fun h1 h2 => ?_
    try clear h
    by_cases hx : x < 0 <;> by_cases hy' : y < 0 <;> simp [hx, hy'] at h2
    · have := r2 (by exact oq53 hx); left; exact oq70 r3 r2 hy' h1 hx
    · have := r1 (by exact oq54 hx); right; exact oq71 this r3 hy' h1
  · by_cases h1 : x.tmod y = 0
    · (refine rwt h1 ?_); rcases Int.lt_or_gt_of_ne hy with h | h
      · right; exact oq72 h
      · left; exact oq73 h
    · have h2 : ¬ (decide (x < 0) != decide (y < 0)) = true := fun h' => h ⟨h1, h'⟩
      by_cases hx : x < 0 <;> by_cases hy' : y < 0 <;> simp [hx, hy'] at h2
      · have := r2 (by exact oq53 hx); right; exact oq74 r3 hy' this
      · have := r1 (by exact oq54 hx); left; exact oq75 this r3 hy'
end
section
/-- a fraction in lowest terms -/
structure Low (P : Int) (Q : Nat) : Prop where
  pos : 0 < Q
  cop : Nat.Coprime P.natAbs Q
theorem Low.uniq {P P' : Int} {Q Q' : Nat} (h : Low P Q) (h' : Low P' Q') (e : P * Q' = P' * Q) : P = P' ∧ Q = Q' := by
  have e1 : P.natAbs * Q' = P'.natAbs * Q := by
    have := congrArg Int.natAbs e
    rwa [Int.natAbs_mul, Int.natAbs_mul, Int.natAbs_natCast, Int.natAbs_natCast] at this
  have d1 : Q ∣ Q' := h.cop.symm.dvd_of_dvd_mul_left (e1 ▸ Nat.dvd_mul_left ..)
  have d2 : Q' ∣ Q := h'.cop.symm.dvd_of_dvd_mul_left (e1 ▸ Nat.dvd_mul_left ..)
  have q : Q = Q' := Nat.dvd_antisymm d1 d2
  subst q
  exact ⟨Int.eq_of_mul_eq_mul_right (by have := h.pos; exact oq76 this) e, rfl⟩
/-- two lowest forms of m / n -/
theorem Low.same {P P' m n : Int} {Q Q' : Nat} (h : Low P Q) (h' : Low P' Q') (hn : n ≠ 0) (e : P * n = m * Q) (e' : P' * n = m * Q') : P = P' ∧ Q = Q' := by
  refine h.uniq h' (Int.eq_of_mul_eq_mul_right hn ?_)
  calc P * Q' * n = P * n * Q' := by grind
    _ = m * Q * Q' := by (refine rwt e ?_; with_reducible rfl)
    _ = P' * n * Q := by (refine rwt e' ?_); grind
    _ = _ := by grind
theorem low_zero : Low 0 1 := ⟨by decide, by decide⟩
theorem Low.zero {Q : Nat} (h : Low 0 Q) : Q = 1 := by
  have := h.cop
  rw [Int.natAbs_zero, Nat.Coprime, Nat.gcd_zero_left] at this
  exact this
theorem Low.isZero {P m n : Int} {Q : Nat} (h : Low P Q) (hn : n ≠ 0) (e : P * n = m * Q) (hm : m = 0) : P = 0 ∧ Q = 1 := by
  rw [hm, Int.zero_mul] at e
  have hP : P = 0 := by
    rcases Int.mul_eq_zero.mp e with h | h
    · exact h
    · exact absurd h hn
  subst hP
  exact ⟨rfl, h.zero⟩
theorem low_make {a b : Int} (hb : b ≠ 0) : Low (sgv (decide (a < 0) != decide (b < 0)) (a.natAbs / Nat.gcd a.natAbs b.natAbs)) (b.natAbs / Nat.gcd a.natAbs b.natAbs) ∧
    sgv (decide (a < 0) != decide (b < 0)) (a.natAbs / Nat.gcd a.natAbs b.natAbs) * b = a * ((b.natAbs / Nat.gcd a.natAbs b.natAbs : Nat) : Int) := by
  have hg : 0 < Nat.gcd a.natAbs b.natAbs := Nat.gcd_pos_of_pos_right _ (by exact oq68 hb)
  have d1 := Nat.gcd_dvd_left a.natAbs b.natAbs
  have d2 := Nat.gcd_dvd_right a.natAbs b.natAbs
  have hc := Nat.coprime_div_gcd_div_gcd hg
  have e1 := Nat.mul_div_cancel' d1
  have e2 := Nat.mul_div_cancel' d2
  generalize Nat.gcd a.natAbs b.natAbs = g at *
  generalize hA : a.natAbs / g = A at *
  generalize hB : b.natAbs / g = B at *
  refine ⟨⟨?_, by (refine rwt (sgv_abs ..) ?_); exact hc⟩, ?_⟩
  · rcases Nat.eq_zero_or_pos B with h | h
    · rw [h, Nat.mul_zero] at e2; exact (oq77 e2 hb).elim
    · exact h
  · have c1 : ((g : Int) * A) = a.natAbs := by (refine rws (Int.natCast_mul ..) ?_; refine rwt e1 ?_; with_reducible rfl)
    have c2 : ((g : Int) * B) = b.natAbs := by (refine rws (Int.natCast_mul ..) ?_; refine rwt e2 ?_; with_reducible rfl)
    by_cases ha : a < 0 <;> by_cases hb' : b < 0
    · simp only [sgv, ha, hb']; simp
      (refine rwt (show b = -(g * B : Int) by exact oq78 hb' c2) ?_; refine rwt (show a = -(g * A : Int) by exact oq78 ha c1) ?_); grind
    · simp only [sgv, ha, hb']; simp
      (refine rwt (show b = (g * B : Int) by exact oq79 hb' c2) ?_; refine rwt (show a = -(g * A : Int) by exact oq78 ha c1) ?_); grind
    · simp only [sgv, ha, hb']; simp
      (refine rwt (show b = -(g * B : Int) by exact oq78 hb' c2) ?_; refine rwt (show a = (g * A : Int) by exact oq79 ha c1) ?_); grind
    · simp only [sgv, ha, hb']; simp
      (refine rwt (show b = (g * B : Int) by exact oq79 hb' c2) ?_; refine rwt (show a = (g * A : Int) by exact oq79 ha c1) ?_); grind
theorem cop_natAbs_add {x y : Int} {m : Nat} (hx : Nat.Coprime x.natAbs m) (hy : (m : Int) ∣ y) : Nat.Coprime (x + y).natAbs m := by
  obtain ⟨k, rfl⟩ := hy
  have := Int.gcd_add_mul_right_left (m : Int) x k
  rw [Int.mul_comm k] at this
  unfold Nat.Coprime
  have e : ∀ z : Int, Int.gcd z (m : Int) = Nat.gcd z.natAbs m := fun z => by rw [Int.gcd, Int.natAbs_natCast]
  (refine rws (e ..) ?_; refine rwt this ?_; refine rwt (e ..) ?_)
  exact hx
theorem low_add {a c z : Int} {b d : Nat} (h : Low a b) (h' : Low c d) (hz : z * (Nat.gcd (a * ((d / Nat.gcd b d : Nat) : Int) + c * ((b / Nat.gcd b d : Nat) : Int)).natAbs (Nat.gcd b d) : Nat) = a * ((d / Nat.gcd b d : Nat) : Int) + c * ((b / Nat.gcd b d : Nat) : Int)) :
    Low z (b / Nat.gcd b d * (d / Nat.gcd (a * ((d / Nat.gcd b d : Nat) : Int) + c * ((b / Nat.gcd b d : Nat) : Int)).natAbs (Nat.gcd b d))) ∧
    z * (b * d : Int) = (a * d + c * b) * ((b / Nat.gcd b d * (d / Nat.gcd (a * ((d / Nat.gcd b d : Nat) : Int) + c * ((b / Nat.gcd b d : Nat) : Int)).natAbs (Nat.gcd b d)) : Nat) : Int) := by
  have hg : 0 < Nat.gcd b d := Nat.gcd_pos_of_pos_left _ h.pos
  have e1 := Nat.mul_div_cancel' (Nat.gcd_dvd_left b d)
  have e2 := Nat.mul_div_cancel' (Nat.gcd_dvd_right b d)
  have hc := Nat.coprime_div_gcd_div_gcd hg
  generalize Nat.gcd b d = g at *
  generalize b / g = b' at *
  generalize hd' : d / g = d' at *
  have hb0 := h.pos
  have hd0 := h'.pos
  subst e1
  subst e2
  have cab : Nat.Coprime a.natAbs b' := (h.cop.symm.coprime_mul_left).symm
  have ccd : Nat.Coprime c.natAbs d' := (h'.cop.symm.coprime_mul_left).symm
  have t1 : Nat.Coprime (a * d' + c * b').natAbs b' := cop_natAbs_add (by (refine rwt (Int.natAbs_mul ..) ?_; rewrite [Int.natAbs_natCast]); exact cab.mul_left hc.symm) (Int.dvd_mul_left ..)
  have t2 : Nat.Coprime (a * d' + c * b').natAbs d' := by (refine rwt (Int.add_comm ..) ?_); exact cop_natAbs_add (by (refine rwt (Int.natAbs_mul ..) ?_; rewrite [Int.natAbs_natCast]); exact ccd.mul_left hc) (Int.dvd_mul_left ..)
  have ho : 0 < Nat.gcd (a * d' + c * b').natAbs g := Nat.gcd_pos_of_pos_right _ hg
  have o1 := Nat.mul_div_cancel' (Nat.gcd_dvd_right (a * d' + c * b').natAbs g)
  have o2 := Nat.coprime_div_gcd_div_gcd ho
  have hza : (a * d' + c * b').natAbs / Nat.gcd (a * d' + c * b').natAbs g = z.natAbs := by
    conv => lhs; lhs; rw [← hz, Int.natAbs_mul, Int.natAbs_natCast]
    exact Nat.mul_div_cancel _ ho
  have hzd : z.natAbs ∣ (a * d' + c * b').natAbs := Int.natAbs_dvd_natAbs.mpr ⟨_, hz.symm⟩
  rw [hza] at o2
  generalize ho' : Nat.gcd (a * d' + c * b').natAbs g = o at *
  have q : g * d' / o = g / o * d' := by
    conv => lhs; rw [← o1]
    rw [Nat.mul_assoc, Nat.mul_div_cancel_left _ ho]
  rw [q]
  refine ⟨⟨?_, ?_⟩, ?_⟩
  · have p1 : 0 < b' := Nat.pos_of_mul_pos_left hb0
    have p2 : 0 < d' := Nat.pos_of_mul_pos_left hd0
    have p3 : 0 < g / o := by
      rcases Nat.eq_zero_or_pos (g / o) with h | h
      · rw [h, Nat.mul_zero] at o1; exact (oq80 hg o1).elim
      · exact h
    exact Nat.mul_pos p1 (Nat.mul_pos p3 p2)
  · exact (t1.coprime_dvd_left hzd).mul_right (o2.mul_right (t2.coprime_dvd_left hzd))
  · have k : ((g : Int)) = o * ((g / o : Nat) : Int) := by rw [← Int.natCast_mul, o1]
    simp only [Int.natCast_mul]
    generalize ((g / o : Nat) : Int) = r at *
    calc z * (↑g * ↑b' * (↑g * ↑d')) = z * (o * r) * b' * (g * d') := by rw [← k]; grind
      _ = (z * o) * (r * b' * g * d') := by grind
      _ = _ := by rw [hz]; grind
theorem low_mul {a c x y : Int} {b d : Nat} (h : Low a b) (h' : Low c d) (hx : x * (Nat.gcd a.natAbs d : Nat) = a) (hy : y * (Nat.gcd c.natAbs b : Nat) = c) :
    Low (x * y) (b / Nat.gcd c.natAbs b * (d / Nat.gcd a.natAbs d)) ∧ x * y * (b * d : Int) = a * c * ((b / Nat.gcd c.natAbs b * (d / Nat.gcd a.natAbs d) : Nat) : Int) := by
  have ho : 0 < Nat.gcd a.natAbs d := Nat.gcd_pos_of_pos_right _ h'.pos
  have hp : 0 < Nat.gcd c.natAbs b := Nat.gcd_pos_of_pos_right _ h.pos
  have o1 := Nat.mul_div_cancel' (Nat.gcd_dvd_right a.natAbs d)
  have p1 := Nat.mul_div_cancel' (Nat.gcd_dvd_right c.natAbs b)
  have o2 := Nat.coprime_div_gcd_div_gcd ho
  have p2 := Nat.coprime_div_gcd_div_gcd hp
  have hxa : a.natAbs / Nat.gcd a.natAbs d = x.natAbs := by
    conv => lhs; lhs; rw [← hx, Int.natAbs_mul, Int.natAbs_natCast]
    exact Nat.mul_div_cancel _ ho
  have hya : c.natAbs / Nat.gcd c.natAbs b = y.natAbs := by
    conv => lhs; lhs; rw [← hy, Int.natAbs_mul, Int.natAbs_natCast]
    exact Nat.mul_div_cancel _ hp
  rw [hxa] at o2
  rw [hya] at p2
  have hxd : x.natAbs ∣ a.natAbs := Int.natAbs_dvd_natAbs.mpr ⟨_, hx.symm⟩
  have hyd : y.natAbs ∣ c.natAbs := Int.natAbs_dvd_natAbs.mpr ⟨_, hy.symm⟩
  have c1 := h.cop
  have c2 := h'.cop
  have b0 := h.pos
  have d0 := h'.pos
  generalize Nat.gcd a.natAbs d = o at *
  generalize Nat.gcd c.natAbs b = q at *
  generalize d / o = d1 at *
  generalize b / q = b1 at *
  subst o1
  subst p1
  have h1 : 0 < b1 := Nat.pos_of_mul_pos_left b0
  have h2 : 0 < d1 := Nat.pos_of_mul_pos_left d0
  refine ⟨⟨Nat.mul_pos h1 h2, ?_⟩, ?_⟩
  · rw [Int.natAbs_mul]
    exact ((((c1.coprime_dvd_left hxd).symm.coprime_mul_left).symm).mul_right o2).mul_left (p2.mul_right (((c2.coprime_dvd_left hyd).symm.coprime_mul_left).symm))
  · simp only [Int.natCast_mul]
    rw [← hx, ← hy]
    grind
theorem low_ex (a : Int) {b : Int} (hb : b ≠ 0) : ∃ P Q, Low P Q ∧ P * b = a * (Q : Int) := ⟨_, _, low_make hb⟩
theorem Low.inv {a : Int} {b : Nat} (h : Low a b) (ha : a ≠ 0) : Low (sgv (decide (a < 0)) b) a.natAbs := ⟨by exact oq68 ha, by (refine rwt (sgv_abs ..) ?_); exact h.cop.symm⟩
theorem Low.neg {a : Int} {b : Nat} (h : Low a b) : Low (-a) b := ⟨h.pos, by (refine rwt (Int.natAbs_neg ..) ?_); exact h.cop⟩
theorem Low.abs {a : Int} {b : Nat} (h : Low a b) : Low a.natAbs b := ⟨h.pos, by (refine rwt (Int.natAbs_natCast ..) ?_); exact h.cop⟩
/-- an exact quotient -/
theorem exact_of {x : Int} {d : Nat} (hd : d ∣ x.natAbs) (h0 : 0 < d) : ∃ z, z * (d : Int) = x ∧ z.natAbs = x.natAbs / d ∧ (decide (z < 0) = decide (x < 0)) := by
  obtain ⟨z, hz⟩ := Int.natAbs_dvd_natAbs.mp (show ((d : Int)).natAbs ∣ x.natAbs by (refine rwt (Int.natAbs_natCast ..) ?_); exact hd)
  refine ⟨z, by (refine rwt hz ?_; refine rwt (Int.mul_comm ..) ?_; with_reducible rfl), ?_, ?_⟩
  · (refine rwt hz ?_; refine rwt (Int.natAbs_mul ..) ?_; rewrite [Int.natAbs_natCast]; refine rwt (Nat.mul_div_cancel_left _ h0) ?_; with_reducible rfl)
  · apply decide_eq_decide.mpr
    (refine rwt hz ?_)
    constructor
    · intro h; exact Int.mul_neg_of_pos_of_neg (by exact oq81 h0) h
    · intro h
      refine Int.lt_of_not_ge fun h' => ?_
      have := Int.mul_nonneg (Int.natCast_nonneg d) h'
      exact oq82 this h
end
section
theorem fmod_nonneg' (t : Int) {b : Nat} (hb : 0 < b) : 0 ≤ t.fmod b := by
  (refine rwt (Int.fmod_eq_emod_of_nonneg _ (by exact oq83)) ?_); exact Int.emod_nonneg _ (by exact oq76 hb)
theorem fmod_lt' (t : Int) {b : Nat} (hb : 0 < b) : t.fmod b < b := by
  (refine rwt (Int.fmod_eq_emod_of_nonneg _ (by exact oq83)) ?_); exact Int.emod_lt_of_pos _ (by exact oq81 hb)
theorem fmod_toNat_lt (t : Int) {b : Nat} (hb : 0 < b) : (t.fmod b).toNat < b := by
  have := fmod_nonneg' t hb
  have := fmod_lt' t hb
  exact oq84 hb this
theorem fmod_toNat (t : Int) {b : Nat} (hb : 0 < b) : ((t.fmod b).toNat : Int) = t.fmod b := by
  have := fmod_nonneg' t hb
  exact oq85 this
/-- the terms of the continued fraction -/
def cf (t : Int) (b : Nat) : List Int := if h : b = 0 then [] else t.fdiv b :: cf b (t.fmod b).toNat
termination_by b
decreasing_by exact fmod_toNat_lt t (Nat.pos_of_ne_zero h)
theorem cf_zero (t : Int) : cf t 0 = [] := by rw [cf]; simp
theorem cf_pos (t : Int) {b : Nat} (hb : 0 < b) : cf t b = t.fdiv b :: cf b (t.fmod b).toNat := by
  (rewrite [cf]; refine rwt (dif_neg (by exact oq86 hb)) ?_; with_reducible rfl)
theorem fdiv_abs_le (t : Int) {b : Nat} (hb : 0 < b) : (t.fdiv b).natAbs ≤ t.natAbs := by
  have e := Int.mul_fdiv_add_fmod t b
  have h0 := fmod_nonneg' t hb
  have h1 := fmod_lt' t hb
  generalize t.fdiv b = Q at *
  generalize t.fmod b = r at *
  obtain ⟨c, hc⟩ : ∃ c : Int, (b : Int) = c + 1 ∧ 0 ≤ c := ⟨b - 1, by exact oq87, by exact oq88 hb⟩
  rw [hc.1, Int.add_mul] at e
  rcases (show Q < 0 ∨ 0 ≤ Q by exact oq89) with h | h
  · have : c * (-Q - 1) ≥ 0 := Int.mul_nonneg hc.2 (by exact oq90 h)
    have q : c * (-Q - 1) = - (c * Q) - c := by grind
    exact oq91 hc e this h1 h q
  · have : c * Q ≥ 0 := Int.mul_nonneg hc.2 h
    exact oq92 e h0 this h
structure Inv (p : Int) (q : Nat) (h0 k0 h1 k1 T : Int) (B : Nat) : Prop where
  q0 : 0 < q
  p_eq : p = T * h1 + B * h0
  q_eq : (q : Int) = T * k1 + B * k0
  det : h1 * k0 - h0 * k1 = 1 ∨ h1 * k0 - h0 * k1 = -1
  st : (h0 = 0 ∧ k0 = 1 ∧ h1 = 1 ∧ k1 = 0 ∧ T = p ∧ B = q) ∨ (1 ≤ k1 ∧ 0 ≤ k0 ∧ (B : Int) < T ∧ k0 ≤ k1)
  up : k0 = 0 → h0 = 1
theorem Inv.start (p : Int) {q : Nat} (hq : 0 < q) : Inv p q 0 1 1 0 p q :=
  ⟨hq, by simp, by simp, .inl (by simp), .inl ⟨rfl, rfl, rfl, rfl, rfl, rfl⟩, by intro h; cases h⟩
theorem Inv.step {p : Int} {q : Nat} {h0 k0 h1 k1 T : Int} {B : Nat} (i : Inv p q h0 k0 h1 k1 T B) (hB : 0 < B) :
    Inv p q h1 k1 (T.fdiv B * h1 + h0) (T.fdiv B * k1 + k0) B (T.fmod B).toNat ∧ 1 ≤ T.fdiv B * k1 + k0 := by
  have e := Int.mul_fdiv_add_fmod T B
  have r0 := fmod_nonneg' T hB
  have r1 := fmod_lt' T hB
  have r2 := fmod_toNat T hB
  generalize hR : (T.fmod B).toNat = R at *
  rw [← r2] at e r0 r1
  generalize T.fdiv B = a at *
  have hk : (h0 = 0 ∧ k0 = 1 ∧ h1 = 1 ∧ k1 = 0) ∨ (1 ≤ k1 ∧ 0 ≤ k0 ∧ 1 ≤ a ∧ k1 ≤ a * k1) := by
    rcases i.st with ⟨x1, x2, x3, x4, _, _⟩ | ⟨x1, x2, x3, x4⟩
    · exact .inl ⟨x1, x2, x3, x4⟩
    · have ha : 1 ≤ a := by
        refine Int.not_lt.mp fun h => ?_
        have : (B : Int) * (-a) ≥ 0 := Int.mul_nonneg (by exact oq83) (by exact oq93 h)
        rw [Int.mul_neg] at this
        exact oq94 x3 r1 this e
      refine .inr ⟨x1, x2, ha, ?_⟩
      have := Int.mul_le_mul_of_nonneg_right ha (show 0 ≤ k1 by exact oq95 x1)
      exact oq96 this
  have hk2 : 1 ≤ a * k1 + k0 := by
    rcases hk with ⟨x1, x2, x3, x4⟩ | ⟨x1, x2, x3, x4⟩
    · (refine rwt x4 ?_; refine rwt x2 ?_); simp
    · exact oq97 x2 x1 x4
  refine ⟨⟨i.q0, ?_, ?_, ?_, .inr ⟨hk2, ?_, r1, ?_⟩, ?_⟩, hk2⟩
  · (refine rwt i.p_eq ?_; refine rws e ?_); grind
  · (refine rwt i.q_eq ?_; refine rws e ?_); grind
  · have : (a * h1 + h0) * k1 - h1 * (a * k1 + k0) = -(h1 * k0 - h0 * k1) := by grind
    have := i.det
    exact oq98 this (by assumption)
  · rcases hk with ⟨x1, x2, x3, x4⟩ | ⟨x1, x2, x3, x4⟩ <;> (first | exact oq99 x4 | exact oq95 x1)
  · rcases hk with ⟨x1, x2, x3, x4⟩ | ⟨x1, x2, x3, x4⟩ <;> (first | exact oq100 hk2 x4 | exact oq101 x2 x4)
  · rcases hk with ⟨x1, x2, x3, x4⟩ | ⟨x1, x2, x3, x4⟩ <;> (first | exact oq102 x3 | exact oq103 x1)
theorem Inv.last {p : Int} {q : Nat} {h0 k0 h1 k1 T : Int} (i : Inv p q h0 k0 h1 k1 T 0) (hl : Low p q) : h1 = p ∧ k1 = q := by
  rcases i.st with ⟨_, _, _, _, _, x⟩ | ⟨x1, x2, x3, x4⟩
  · exact absurd i.q0 (by exact oq104 x)
  · have e1 := i.p_eq
    have e2 := i.q_eq
    simp only [Int.natCast_zero, Int.zero_mul, Int.add_zero] at e1 e2
    have d1 : T.natAbs ∣ p.natAbs := Int.natAbs_dvd_natAbs.mpr ⟨_, e1⟩
    have d2 : T.natAbs ∣ q := by have := Int.natAbs_dvd_natAbs.mpr (show T ∣ (q : Int) from ⟨_, e2⟩); rwa [Int.natAbs_natCast] at this
    have d3 := Nat.dvd_gcd d1 d2
    rw [hl.cop] at d3
    have d4 := Nat.le_of_dvd (by decide) d3
    have : T = 1 := by simp at x3; exact oq105 x3 d4
    rw [this, Int.one_mul] at e1 e2
    exact ⟨e1.symm, e2.symm⟩
theorem Inv.low {p : Int} {q : Nat} {h0 k0 h1 k1 T : Int} {B : Nat} (i : Inv p q h0 k0 h1 k1 T B) (hk : 1 ≤ k1) : Low h1 k1.natAbs := by
  refine ⟨by exact oq106 hk, ?_⟩
  have d1 : ((Nat.gcd h1.natAbs k1.natAbs : Nat) : Int) ∣ h1 := Int.ofNat_dvd_left.mpr (Nat.gcd_dvd_left ..)
  have d2 : ((Nat.gcd h1.natAbs k1.natAbs : Nat) : Int) ∣ k1 := Int.ofNat_dvd_left.mpr (Nat.gcd_dvd_right ..)
  have d3 : ((Nat.gcd h1.natAbs k1.natAbs : Nat) : Int) ∣ (h1 * k0 - h0 * k1) := Int.dvd_sub (Int.dvd_mul_of_dvd_left d1) (Int.dvd_mul_of_dvd_right d2)
  have d4 : ((Nat.gcd h1.natAbs k1.natAbs : Nat) : Int) ∣ 1 := by
    rcases i.det with h | h
    · rwa [h] at d3
    · rw [h] at d3; simpa using (Int.dvd_neg.mpr d3)
  exact Nat.dvd_one.mp (Int.natCast_dvd_natCast.mp d4)
/-- p k1 - q h1 = -+ B -/
theorem Inv.cross {p : Int} {q : Nat} {h0 k0 h1 k1 T : Int} {B : Nat} (i : Inv p q h0 k0 h1 k1 T B) :
    p * k1 - q * h1 = -(B * (h1 * k0 - h0 * k1)) ∧ p * k0 - q * h0 = T * (h1 * k0 - h0 * k1) := by
  (refine rwt i.p_eq ?_; refine rwt i.q_eq ?_)
  constructor <;> grind
theorem Inv.small {p : Int} {q : Nat} {h0 k0 h1 k1 T : Int} {B : Nat} (i : Inv p q h0 k0 h1 k1 T B) (hp : p.natAbs + 1 < 2 ^ 20) (hq : q < 2 ^ 20) :
    h0.natAbs < 2 ^ 20 ∧ k0.natAbs < 2 ^ 20 ∧ h1.natAbs < 2 ^ 20 ∧ k1.natAbs < 2 ^ 20 ∧ T.natAbs < 2 ^ 20 ∧ B < 2 ^ 20 := by
  refine xe0_2 i.cross fun c1 c2 => ?_
  rcases i.st with ⟨x1, x2, x3, x4, x5, x6⟩ | ⟨x1, x2, x3, x4⟩
  · subst x1 x2 x3 x4 x5 x6
    exact ⟨by decide, by decide, by decide, by decide, by exact oq107 hp, by exact oq108 hq⟩
  · have e2 := i.q_eq
    have q0 := i.q0
    have hT : T ≤ T * k1 := by have := Int.mul_le_mul_of_nonneg_left x1 (show 0 ≤ T by exact oq109 x3); exact oq110 this
    have hK : k1 ≤ T * k1 := by have := Int.mul_le_mul_of_nonneg_right (show 1 ≤ T by exact oq111 x3) (show 0 ≤ k1 by exact oq95 x1); exact oq96 this
    have hB : (B : Int) * k0 ≥ 0 := Int.mul_nonneg (by exact oq83) x2
    have hTq : T ≤ q := by exact oq112 e2 hB hT
    have hkq : k1 ≤ q := by exact oq112 e2 hB hK
    -- |q h| ≤ |p| q + q
    have key : ∀ h k s : Int, 0 ≤ k → k ≤ q → s.natAbs ≤ q → q * h = p * k + s → h.natAbs ≤ p.natAbs + 1 := by
      intro h k s k0' kq sq e
      have e' : q * h.natAbs = (p * k + s).natAbs := by (refine rws e ?_; refine rwt (Int.natAbs_mul ..) ?_; rewrite [Int.natAbs_natCast]; with_reducible rfl)
      have l1 : (p * k + s).natAbs ≤ p.natAbs * k.natAbs + s.natAbs := by
        (refine rws (Int.natAbs_mul ..) ?_); exact Int.natAbs_add_le ..
      have l2 : p.natAbs * k.natAbs ≤ p.natAbs * q := Nat.mul_le_mul_left _ (by exact oq113 k0' kq)
      have l3 : q * h.natAbs ≤ q * (p.natAbs + 1) := by (refine rwt (Nat.mul_add ..) ?_; refine rwt (Nat.mul_comm q p.natAbs) ?_); exact oq114 l1 sq e' l2
      exact Nat.le_of_mul_le_mul_left l3 q0
    have dB : (B * (h1 * k0 - h0 * k1) : Int).natAbs ≤ q := by
      rcases i.det with h | h <;> (refine rwt h ?_) <;> (first | exact oq115 x3 hTq | lia)
    have dT : (T * (h1 * k0 - h0 * k1) : Int).natAbs ≤ q := by
      rcases i.det with h | h <;> (refine rwt h ?_) <;> (first | exact oq116 x3 e2 hB hT | lia)
    have k1' := key h1 k1 (B * (h1 * k0 - h0 * k1)) (by exact oq95 x1) hkq dB (by exact oq117 c1)
    have k0' := key h0 k0 (-(T * (h1 * k0 - h0 * k1))) x2 (by exact oq118 e2 hB hK x4) (by (refine rwt (Int.natAbs_neg ..) ?_); exact dT) (by exact oq119 c2)
    refine ⟨by exact oq120 hp k0', by exact oq121 e2 hB x2 hq hK x4, by exact oq120 hp k1', by exact oq122 x1 hq hkq, by exact oq123 x3 hTq hq, by exact oq124 x3 hTq hq⟩
/-- convergent rows -/
def cv (h0 k0 h1 k1 : Int) : List Int → List (Int × Int)
  | [] => []
  | a :: t => (a * h1 + h0, a * k1 + k0) :: cv h1 k1 (a * h1 + h0) (a * k1 + k0) t
end
section
/-- the error of u/v at p/q, times q v -/
def er (p q u v : Int) : Int := ((p * v - q * u).natAbs : Int)
/-- P/Q is the nearest to p/q among the fractions of a denominator up to N; of two as near the one of the lesser denominator, then of the lesser numerator -/
def Beats (p q P Q u v : Int) : Prop := er p q P Q * v < er p q u v * Q ∨ (er p q P Q * v = er p q u v * Q ∧ (Q < v ∨ (Q = v ∧ P ≤ u)))
structure Best (p q N P Q : Int) : Prop where
  one : 1 ≤ Q
  le : Q ≤ N
  all : ∀ u v : Int, 1 ≤ v → v ≤ N → Beats p q P Q u v
theorem Best.uniq {p q N P Q P' Q' : Int} (h : Best p q N P Q) (h' : Best p q N P' Q') : P = P' ∧ Q = Q' := by
  have a := h.all P' Q' h'.one h'.le
  have b := h'.all P Q h.one h.le
  unfold Beats at a b
  generalize er p q P Q = x at *
  generalize er p q P' Q' = y at *
  rcases a with a | ⟨a, a'⟩
  · exact (oq125 b a).elim
  · exact oq126 b a' a
theorem Best.low {p q N P Q : Int} (h : Best p q N P Q) : Low P Q.toNat := by
  have h1 := h.one
  refine ⟨by exact oq127 h1, ?_⟩
  have g0 : 0 < Nat.gcd P.natAbs Q.toNat := Nat.gcd_pos_of_pos_right _ (by exact oq127 h1)
  refine xe1_1 (Int.ofNat_dvd_left.mpr (Nat.gcd_dvd_left P.natAbs Q.toNat)) fun x hx => ?_
  refine xe1_1 (Nat.gcd_dvd_right P.natAbs Q.toNat) fun y hy => ?_
  unfold Nat.Coprime
  generalize Nat.gcd P.natAbs Q.toNat = g at *
  refine Classical.byContradiction fun hg => ?_
  have g2 : 2 ≤ g := by exact oq128 g0 hg
  have hy0 : 0 < y := by
    rcases Nat.eq_zero_or_pos y with h | h
    · rw [h, Nat.mul_zero] at hy; exact (oq129 h1 hy).elim
    · exact h
  have hQ : Q = g * (y : Int) := by (refine rws (Int.natCast_mul ..) ?_; refine rws hy ?_); exact oq130 h1
  have hlt : (y : Int) < Q := by
    (refine rwt hQ ?_)
    have := Int.mul_le_mul_of_nonneg_right (show (2 : Int) ≤ g by exact oq131 g2) (show (0 : Int) ≤ y by exact oq83)
    exact oq132 this hy0
  have hb := h.all x y (by exact oq133 hy0) (by have := h.le; exact oq134 hlt this)
  unfold Beats at hb
  have e : er p q P Q = g * er p q x y := by
    unfold er
    have : p * Q - q * P = g * (p * y - q * x) := by (refine rwt hQ ?_); conv => lhs; rw [hx]
                                                     grind
    rw [this, Int.natAbs_mul, Int.natAbs_natCast, Int.natCast_mul]
  have e' : er p q P Q * y = er p q x y * Q := by rw [e, hQ]; grind
  exact oq135 hlt hb e'
theorem best_two {p q N h k H K E F s d : Int} (hs : s = 1 ∨ s = -1) (hd : d = 1 ∨ d = -1) (e1 : p * k - q * h = -(s * E)) (e2 : p * K - q * H = s * F) (e3 : h * K - H * k = d)
    (k1 : 1 ≤ k) (K1 : 1 ≤ K) (kN : k ≤ N) (sum : N < k + K) (E0 : 0 < E) (F0 : 0 < F) (win : E * K < F * k ∨ (E * K = F * k ∧ (k < K ∨ (k = K ∧ h ≤ H)))) : Best p q N h k := by
  refine ⟨k1, kN, fun u v hv hvN => ?_⟩
  obtain ⟨α, β, hu, hw⟩ : ∃ α β : Int, u = α * h + β * H ∧ v = α * k + β * K := by
    refine ⟨d * (u * K - H * v), d * (h * v - k * u), ?_, ?_⟩
    · rcases hd with rfl | rfl <;> grind
    · rcases hd with rfl | rfl <;> grind
  have he : p * v - q * u = s * (β * F - α * E) := by
    calc p * v - q * u = α * (p * k - q * h) + β * (p * K - q * H) := by (refine rwt hu ?_; refine rwt hw ?_); grind
      _ = _ := by (refine rwt e1 ?_; refine rwt e2 ?_); grind
  have n1 : er p q h k = E := by
    unfold er; (refine rwt e1 ?_); rcases hs with rfl | rfl <;> (first | exact oq136 E0 | lia)
  have n2 : er p q u v = ((β * F - α * E).natAbs : Int) := by
    unfold er; (refine rwt he ?_); rcases hs with rfl | rfl <;> (first | exact oq137 | lia)
  unfold Beats
  (refine rwt n1 ?_; refine rwt n2 ?_)
  clear n1 n2 he e1 e2 e3
  have hpos : ∀ x y : Int, 0 < x → 0 < y → 0 < x * y := fun x y a b => Int.mul_pos a b
  rcases (show α = 0 ∨ β = 0 ∨ (0 < α ∧ 0 < β) ∨ (α < 0 ∧ β < 0) ∨ (0 < α ∧ β < 0) ∨ (α < 0 ∧ 0 < β) by exact oq138) with a | b | ⟨a, b⟩ | ⟨a, b⟩ | ⟨a, b⟩ | ⟨a, b⟩
  · subst a
    simp only [Int.zero_mul, Int.zero_add, Int.sub_zero] at hu hw ⊢
    have hb : 0 < β := by
      refine Int.not_le.mp fun hb => ?_
      have : 0 ≤ (-β) * K := Int.mul_nonneg (by exact oq56 hb) (by exact oq95 K1)
      rw [Int.neg_mul] at this; exact oq139 this hv hw
    have hF := hpos _ _ hb F0
    have nn : ((β * F).natAbs : Int) = β * F := by exact oq140 hF
    (refine rwt nn ?_; refine rwt hw ?_; refine rwt hu ?_)
    have hKv : K ≤ β * K := by have := Int.mul_le_mul_of_nonneg_right (show 1 ≤ β by exact oq141 hb) (show 0 ≤ K by exact oq95 K1); exact oq96 this
    rcases win with w | ⟨w, w'⟩
    · left
      have := Int.mul_lt_mul_of_pos_left w hb
      have q1 : E * (β * K) = β * (E * K) := by grind
      have q2 : β * F * k = β * (F * k) := by grind
      exact oq142 this q1 q2
    · right
      refine ⟨?_, ?_⟩
      · have q1 : E * (β * K) = β * (E * K) := by grind
        have q2 : β * F * k = β * (F * k) := by grind
        (refine rwt q1 ?_; refine rwt q2 ?_; refine rwt w ?_; with_reducible rfl)
      · rcases w' with w' | ⟨w', w''⟩
        · left; exact oq143 w' hKv
        · by_cases hb1 : β = 1
          · subst hb1; right; exact oq144 w'' w'
          · left
            have := Int.mul_le_mul_of_nonneg_right (show 2 ≤ β by exact oq145 hb hb1) (show 0 ≤ K by exact oq95 K1)
            exact oq146 this k1 w'
  · subst b
    simp only [Int.zero_mul, Int.add_zero, Int.zero_sub] at hu hw ⊢
    have hb : 0 < α := by
      refine Int.not_le.mp fun hb => ?_
      have : 0 ≤ (-α) * k := Int.mul_nonneg (by exact oq56 hb) (by exact oq95 k1)
      rw [Int.neg_mul] at this; exact oq139 this hv hw
    have hF := hpos _ _ hb E0
    have nn : ((-(α * E)).natAbs : Int) = α * E := by exact oq147 hF
    (refine rwt nn ?_; refine rwt hw ?_; refine rwt hu ?_)
    right
    refine ⟨by grind, ?_⟩
    by_cases hb1 : α = 1
    · subst hb1; right; exact oq148
    · left
      have := Int.mul_le_mul_of_nonneg_right (show 2 ≤ α by exact oq145 hb hb1) (show 0 ≤ k by exact oq95 k1)
      exact oq149 this hv hw
  · have q1 := Int.mul_le_mul_of_nonneg_right (show 1 ≤ α by exact oq141 a) (show 0 ≤ k by exact oq95 k1)
    have q2 := Int.mul_le_mul_of_nonneg_right (show 1 ≤ β by exact oq141 b) (show 0 ≤ K by exact oq95 K1)
    exact (oq150 q1 q2 hw hvN sum).elim
  · have q1 := Int.mul_nonneg (show 0 ≤ -α by exact oq55 a) (show 0 ≤ k by exact oq95 k1)
    have q2 := Int.mul_nonneg (show 0 ≤ -β by exact oq55 b) (show 0 ≤ K by exact oq95 K1)
    rw [Int.neg_mul] at q1 q2
    exact (oq151 q1 q2 hv hw).elim
  · left
    have r1 := hpos _ _ a E0
    have r2 := hpos (-β) F (by exact oq64 b) F0
    rw [Int.neg_mul] at r2
    have nn : ((β * F - α * E).natAbs : Int) = α * E - β * F := by exact oq152 r2 r1
    (refine rwt nn ?_; refine rwt hw ?_)
    have r3 := hpos (-β) (E * K) (by exact oq64 b) (hpos _ _ E0 (by exact oq153 K1))
    have r4 := hpos (-β) (F * k) (by exact oq64 b) (hpos _ _ F0 (by exact oq153 k1))
    rw [Int.neg_mul] at r3 r4
    have q1 : E * (α * k + β * K) = α * E * k + β * (E * K) := by grind
    have q2 : (α * E - β * F) * k = α * E * k - β * (F * k) := by grind
    exact oq154 r3 r4 q1 q2
  · left
    have r1 := hpos _ _ b F0
    have r2 := hpos (-α) E (by exact oq64 a) E0
    rw [Int.neg_mul] at r2
    have nn : ((β * F - α * E).natAbs : Int) = β * F - α * E := by exact oq155 r2 r1
    (refine rwt nn ?_; refine rwt hw ?_)
    have r3 := hpos (-α) (E * k) (by exact oq64 a) (hpos _ _ E0 (by exact oq153 k1))
    rw [Int.neg_mul] at r3
    have r4 : β * (E * K) ≤ β * (F * k) := Int.mul_le_mul_of_nonneg_left (by exact oq156 win) (by exact oq62 b)
    have q1 : E * (α * k + β * K) = α * (E * k) + β * (E * K) := by grind
    have q2 : (β * F - α * E) * k = β * (F * k) - α * (E * k) := by grind
    exact oq157 r3 r4 q1 q2
/-- x itself -/
theorem best_self {p : Int} {q : Nat} {N : Int} (hl : Low p q) (hq : (q : Int) ≤ N) : Best p q N p q := by
  have h0 := hl.pos
  refine ⟨by exact oq133 h0, hq, fun u v hv hvN => ?_⟩
  have e0 : er p q p q = 0 := by unfold er; (refine rwt (Int.mul_comm ..) ?_; refine rwt (Int.sub_self ..) ?_); rfl
  unfold Beats
  (refine rwt e0 ?_; refine rwt (Int.zero_mul ..) ?_)
  by_cases h : p * v - q * u = 0
  · right
    have e1 : er p q u v = 0 := by unfold er; (refine rwt h ?_); rfl
    (refine rwt e1 ?_; refine rwt (Int.zero_mul ..) ?_)
    refine ⟨rfl, ?_⟩
    have d : (q : Int) ∣ p * v := ⟨u, by exact oq158 h⟩
    have d' : q ∣ p.natAbs * v.natAbs := by
      have := Int.natAbs_dvd_natAbs.mpr d
      rwa [Int.natAbs_mul, Int.natAbs_natCast] at this
    have d2 := hl.cop.symm.dvd_of_dvd_mul_left d'
    have l2 := Nat.le_of_dvd (by exact oq106 hv) d2
    rcases Nat.lt_or_eq_of_le l2 with x | x
    · left; exact oq159 hv x
    · right
      have hv' : v = q := by exact oq160 hv x
      refine ⟨hv'.symm, ?_⟩
      rw [hv'] at h
      have : (q : Int) * p = q * u := by (refine rwt (Int.mul_comm ..) ?_); exact oq158 h
      have := Int.eq_of_mul_eq_mul_left (by exact oq76 h0) this
      exact oq161 this
  · left
    unfold er
    exact Int.mul_pos (by exact oq162 h) (by exact oq81 h0)
theorem h_small {p h k : Int} {q : Nat} (q0 : 0 < q) (k0 : 0 ≤ k) (kq : k ≤ q) (e : er p q h k ≤ q) : h.natAbs ≤ p.natAbs + 1 := by
  unfold er at e
  have e' : q * h.natAbs = ((q : Int) * h).natAbs := by (refine rwt (Int.natAbs_mul ..) ?_; rewrite [Int.natAbs_natCast]; with_reducible rfl)
  have l1 : ((q : Int) * h).natAbs ≤ (p * k).natAbs + (p * k - q * h).natAbs := by exact oq163
  rw [Int.natAbs_mul p k] at l1
  have l2 : p.natAbs * k.natAbs ≤ p.natAbs * q := Nat.mul_le_mul_left _ (by exact oq113 k0 kq)
  have l3 : q * h.natAbs ≤ q * (p.natAbs + 1) := by (refine rwt (Nat.mul_add ..) ?_; refine rwt (Nat.mul_comm q p.natAbs) ?_); exact oq164 e l1 e' l2
  exact Nat.le_of_mul_le_mul_left l3 q0
/-- the choice of nearer -/
def pick (E k F K : Int) : Bool := decide (E * K < F * k) || (decide (E * K = F * k) && decide (k ≤ K))
/-- at the break of nearest's loop -/
theorem Inv.nearest {p : Int} {q : Nat} {h0 k0 h1 k1 T N : Int} {B : Nat} (i : Inv p q h0 k0 h1 k1 T B) (hB : 0 < B) (hk1 : 1 ≤ k1) (hN : k1 ≤ N) (hb : N < T.fdiv B * k1 + k0) :
    let m := (N - k0).fdiv k1
    let H := m * h1 + h0
    let K := m * k1 + k0
    0 ≤ m ∧ m ≤ N ∧ 1 ≤ K ∧ K ≤ N ∧ Low H K.natAbs ∧ er p q h1 k1 ≤ q ∧ er p q H K ≤ q ∧ (pick (er p q h1 k1) k1 (er p q H K) K = true → Best p q N h1 k1) ∧ (pick (er p q h1 k1) k1 (er p q H K) K = false → Best p q N H K) := by
  intro m H K
  have hst : 0 ≤ k0 ∧ (B : Int) < T ∧ k0 ≤ k1 := by
    rcases i.st with ⟨x1, x2, x3, x4, _, x⟩ | ⟨x1, x2, x3, x4⟩
    · exact (oq165 hk1 x4).elim
    · exact oq166 x3 x2 x4
  refine xe0_3 hst fun hk0 hBT hk01 => ?_
  try clear hst
  have em : k1 * m + (N - k0).fmod k1 = N - k0 := Int.mul_fdiv_add_fmod (N - k0) k1
  have em0 : 0 ≤ (N - k0).fmod k1 := by (refine rwt (Int.fmod_eq_emod_of_nonneg _ (by exact oq95 hk1)) ?_); exact Int.emod_nonneg _ (by exact oq167 hk1)
  have em1 : (N - k0).fmod k1 < k1 := by (refine rwt (Int.fmod_eq_emod_of_nonneg _ (by exact oq95 hk1)) ?_); exact Int.emod_lt_of_pos _ (by exact oq153 hk1)
  have ea : (B : Int) * T.fdiv B + T.fmod B = T := Int.mul_fdiv_add_fmod T B
  have ea0 := fmod_nonneg' T hB
  generalize (N - k0).fmod k1 = r at *
  generalize T.fdiv B = a at *
  generalize T.fmod B = r' at *
  have hK : K = N - r := by show m * k1 + k0 = _; (refine rwt (Int.mul_comm ..) ?_); exact oq168 em
  have hm0 : 0 ≤ m := by
    refine Int.not_lt.mp fun h => ?_
    have : k1 * (m + 1) ≤ 0 := by
      have := Int.mul_nonneg (show 0 ≤ k1 by exact oq95 hk1) (show 0 ≤ -(m + 1) by exact oq169 h)
      rw [Int.mul_neg] at this; exact oq57 this
    rw [Int.mul_add] at this
    exact oq170 this em hN hk01 em1
  have hma : m + 1 ≤ a := by
    refine Int.not_lt.mp fun h => ?_
    have h : a ≤ m := by exact oq171 h
    have := Int.mul_le_mul_of_nonneg_right h (show 0 ≤ k1 by exact oq95 hk1)
    rw [Int.mul_comm m] at this
    exact oq172 em0 em hb this
  have hmN : m ≤ N := by
    have := Int.mul_le_mul_of_nonneg_right hk1 hm0
    exact oq173 this hk0 em0 em
  have hK1 : 1 ≤ K := by exact oq174 hK hN em1
  have hKN : K ≤ N := by exact oq175 em0 hK
  have hF : (B : Int) ≤ T - m * B := by
    have := Int.mul_le_mul_of_nonneg_left hma (show (0 : Int) ≤ B by exact oq83)
    rw [Int.mul_add, Int.mul_comm (B : Int) m] at this
    exact oq176 ea0 this ea
  refine xe0_2 i.cross fun c1 c2 => ?_
  have hdet := i.det
  have hup := i.up
  generalize hD : h1 * k0 - h0 * k1 = D at *
  have x1 : p * k1 - q * h1 = -(D * (B : Int)) := by (refine rwt c1 ?_; refine rwt (Int.mul_comm ..) ?_; with_reducible rfl)
  have x2 : p * K - q * H = D * (T - m * B) := by
    have : p * K - q * H = m * (p * k1 - q * h1) + (p * k0 - q * h0) := by show p * (m * k1 + k0) - q * (m * h1 + h0) = _; grind
    (refine rwt this ?_; refine rwt c1 ?_; refine rwt c2 ?_); grind
  have x3 : h1 * K - H * k1 = D := by
    show h1 * (m * k1 + k0) - (m * h1 + h0) * k1 = D
    (refine rws hD ?_); grind
  have y1 : p * K - q * H = -(-D * (T - m * B)) := by (refine rwt x2 ?_); grind
  have y2 : p * k1 - q * h1 = -D * (B : Int) := by (refine rwt x1 ?_); grind
  have y3 : H * k1 - h1 * K = -D := by exact oq177 x3
  have n1 : er p q h1 k1 = B := by unfold er; (refine rwt x1 ?_); rcases hdet with e | e <;> (refine rwt e ?_) <;> (first | exact oq178 | lia)
  have n2 : er p q H K = T - m * B := by unfold er; (refine rwt x2 ?_); rcases hdet with e | e <;> (refine rwt e ?_) <;> (first | exact oq179 hF | lia)
  have hlow : Low H K.natAbs := by
    refine ⟨by exact oq180 hK hN em1, ?_⟩
    have d1 : ((Nat.gcd H.natAbs K.natAbs : Nat) : Int) ∣ H := Int.ofNat_dvd_left.mpr (Nat.gcd_dvd_left ..)
    have d2 : ((Nat.gcd H.natAbs K.natAbs : Nat) : Int) ∣ K := Int.ofNat_dvd_left.mpr (Nat.gcd_dvd_right ..)
    have d3 : ((Nat.gcd H.natAbs K.natAbs : Nat) : Int) ∣ (h1 * K - H * k1) := Int.dvd_sub (Int.dvd_mul_of_dvd_right d2) (Int.dvd_mul_of_dvd_left d1)
    have d4 : ((Nat.gcd H.natAbs K.natAbs : Nat) : Int) ∣ 1 := by
      rw [x3] at d3
      rcases hdet with h | h
      · rwa [h] at d3
      · rw [h] at d3; simpa using (Int.dvd_neg.mpr d3)
    exact Nat.dvd_one.mp (Int.natCast_dvd_natCast.mp d4)
  have hTq : T ≤ q := by
    have e2 := i.q_eq
    have := Int.mul_le_mul_of_nonneg_left hk1 (show 0 ≤ T by exact oq109 hBT)
    have := Int.mul_nonneg (show (0 : Int) ≤ B by exact oq83) hk0
    exact oq181 e2 this (by assumption)
  have hmB : 0 ≤ m * (B : Int) := Int.mul_nonneg hm0 (by exact oq83)
  refine ⟨hm0, hmN, hK1, hKN, hlow, by (refine rwt n1 ?_); exact oq182 hF hmB hTq, by (refine rwt n2 ?_); exact oq183 hmB hTq, fun hp => ?_, fun hp => ?_⟩
  · rw [n1, n2] at hp
    refine best_two hdet hdet x1 x2 x3 hk1 hK1 hN (by exact oq184 hK em1) (by exact oq81 hB) (by exact oq185 hF hB) ?_
    unfold pick at hp
    rcases Bool.or_eq_true_iff.mp hp with h | h
    · exact .inl (of_decide_eq_true h)
    · refine xe0_2 (Bool.and_eq_true_iff.mp h) fun h1' h2' => ?_
      have h1' := of_decide_eq_true h1'
      have h2' := of_decide_eq_true h2'
      refine .inr ⟨h1', ?_⟩
      rcases Int.lt_or_eq_of_le h2' with z | z
      · exact .inl z
      · refine .inr ⟨z, ?_⟩
        have k1one : k1 = 1 := by
          have : k1 ∣ D := ⟨h1 - H, by (refine rws x3 ?_; refine rws z ?_); grind⟩
          have : k1 ∣ 1 := by rcases hdet with e | e <;> rw [e] at this
                              · exact this
                              · simpa using (Int.dvd_neg.mpr this)
          have := Int.le_of_dvd (by decide) this
          exact oq186 hk1 this
        have hmk : m + k0 = 1 := by
          have : K = m * k1 + k0 := rfl
          rw [← z, k1one, Int.mul_one] at this; exact oq187 this
        have hBF : (B : Int) = T - m * B := by rw [← z, k1one] at h1'; exact oq188 h1'
        have hm1 : m = 1 := by
          rcases (show m = 0 ∨ m = 1 by exact oq189 hk0 hmk k1one hk01) with e | e
          · rw [e, Int.zero_mul] at hBF; exact (oq190 hBT hBF).elim
          · exact e
        have : h0 = 1 := hup (by exact oq191 hmk hm1)
        show h1 ≤ m * h1 + h0
        (refine rwt hm1 ?_; refine rwt this ?_); exact oq192
  · rw [n1, n2] at hp
    refine best_two (s := -D) (d := -D) (by exact oq193 hdet) (by exact oq193 hdet) y1 y2 y3 hK1 hk1 hKN (by exact oq194 hK em1) (by exact oq185 hF hB) (by exact oq81 hB) ?_
    unfold pick at hp
    rw [Bool.or_eq_false_iff] at hp
    refine xe0_2 hp fun h1' h2' => ?_
    try clear hp
    have h1' := of_decide_eq_false h1'
    rcases (show (T - m * B) * k1 < B * K ∨ (T - m * B) * k1 = B * K by exact oq195 h1') with z | z
    · exact .inl z
    · refine .inr ⟨z, .inl ?_⟩
      rw [decide_eq_true z.symm, Bool.true_and] at h2'
      have := of_decide_eq_false h2'
      exact oq196 this
end
section
set_option maxRecDepth 100000
open PySem PySem.W PySem.Calls PyProof.Rows PySem.Spec

noncomputable abbrev GG (w : World) (p : Program) (loose : List Str) (mg mb : Str → Option Value) : Gl := ⟨PySem.Challenge.pw_nn0031_01, w, Mine.hd.heap_39 w.params, p, loose, mg, mb⟩

def N' (xs : List Nat) : List D := xs.map fun n : Nat => D.int (n : Int)
abbrev NI (xs : List Nat) : D := .list (N' xs)
/-- the limbs of n -/
abbrev LM (w n : Nat) : D := NI (dg (2 ^ w) n)
abbrev V (x : String) (d : D) : Str × Sl := (PySem.Str.ofString x, .val d)
abbrev U (x : String) : Str × Sl := (PySem.Str.ofString x, .un)
abbrev O (x : String) (ds : List D) : Str × Sl := (PySem.Str.ofString x, .own ds)
theorem lkH {α : Type} {a : α} {l : List α} : a ∈ a :: l := .head _
theorem lkT {α : Type} {a b : α} {l : List α} (h : a ∈ l) : a ∈ b :: l := .tail _ h
theorem N'_length (xs : List Nat) : (N' xs).length = xs.length := List.length_map _
theorem N'_get {xs : List Nat} {k : Nat} {i : Nat} (h : xs[k]? = some i) : (N' xs)[k]? = some (.int i) := by (rewrite [N']; refine rwt List.getElem?_map ?_; refine rwt h ?_); rfl
theorem N'_snoc (xs : List Nat) (x : Nat) : N' xs ++ [D.int (x : Int)] = N' (xs ++ [x]) := by simp [N']
theorem N'_nil : N' [] = [] := rfl

section
variable {g : Gl} {f : Fm} {n : Nat} {σ : Vars}
theorem Then.next {rest : List Stmt} {Q : Out → Prop} {σ' : Vars} (h : WP g f n σ' rest Q) : Then g f n rest Q (.next σ') := h
theorem Then.ret {rest : List Stmt} {Q : Out → Prop} {d : D} (h : Q (.ret d)) : Then g f n rest Q (.ret d) := h
theorem Then.brk {rest : List Stmt} {Q : Out → Prop} {σ' : Vars} (h : Q (.brk σ')) : Then g f n rest Q (.brk σ') := h
/-- the value of a datum by an equation -/
theorem EV.eq {e : Expr} {d d' : D} (h : EV g f n σ e d) (q : d = d') : EV g f n σ e d' := q ▸ h
theorem TR.eq {e : Expr} {b b' : Bool} (h : TR g f n σ e b) (q : b = b') : TR g f n σ e b' := q ▸ h
theorem WP.vars {ss : List Stmt} {Q : Out → Prop} {σ' : Vars} (h : WP g f n σ' ss Q) (q : σ' = σ) : WP g f n σ ss Q := q ▸ h
theorem EV.lenN {e : Expr} {p pos : Pos} {xs : List Nat} (he : EV g f n σ e (NI xs)) (hz : xs.length ≤ 1000000) (hg : nsIn g.K mainGlobals "len" = some none)
    (hs : starEach [e] f.env = [(false, eval e f.env)] := by rfl) (hk : f.env.scope.kind = .function := by rfl) (hx : f.env.kindOf "len" = some .globalImplicit := by rfl)
    (hgl : f.env.globals = mainGlobals := by rfl) (hb : f.env.builtins = builtinsNs := by rfl) : EV g f n σ (.Call (.Name "len" p) [e] [] pos) (.int xs.length) := by
  have := EV.len (p := p) (pos := pos) he (by (refine rwt (N'_length ..) ?_); exact hz) hg hs hk hx hgl hb
  rw [N'_length] at this
  exact this
theorem EV.itemN {v i : Expr} {pos : Pos} {xs : List Nat} {k : Int} (hv : EV g f n σ v (NI xs)) (hi : EV g f n σ i (.int k)) (h0 : 0 ≤ k) (hk : k < xs.length) (hz : xs.length ≤ 1000000)
    (hs : ∀ o j, subscripted i false o j = operate [o, j] (getItem o j) := by intro _ _; rfl) : EV g f n σ (.Subscript v i pos) (.int (xs.getD k.toNat 0 : Nat)) := by
  refine EV.itemL hv hi h0 (by exact oq197 hk hz) (N'_get ?_) hs
  (refine rwt List.getD_eq_getElem?_getD ?_; refine rwt (List.getElem?_eq_getElem (by exact oq198 h0 hk)) ?_)
  rfl
theorem EV.sliceTo {v : Expr} {hi : Expr} {p pos : Pos} {xs : List Nat} {b : Int} (hv : EV g f n σ v (NI xs)) (hu : EV g f n σ hi (.int b)) (h0 : 0 ≤ b) (hz : xs.length ≤ 1000000)
    (ht : ∀ o r, letTemporaryGo v o r = pure () := by intro _ _; rfl) : EV g f n σ (.Subscript v (.Slice none (some hi) none p) pos) (NI (xs.take b.toNat)) := by
  refine EV.sliceL hv .none (.some hu) (by (refine rwt (N'_length ..) ?_); exact hz) (fun vs hl R i => ?_) ht
  obtain ⟨m, rfl⟩ : ∃ m : Nat, b = m := ⟨b.toNat, by exact oq199 h0⟩
  (refine rwt (slicePick_upto' ..) ?_)
  have := i.take m
  rw [N', ← List.map_take] at this
  simpa [N'] using this

theorem OP.addN {a b : Nat} : OP g .Add (.int (a : Int)) (.int (b : Int)) (.int ((a + b : Nat) : Int)) := by (refine rwt (Int.natCast_add ..) ?_); exact OP.add
theorem IOP.addN {a b : Nat} : IOP g .Add (.int (a : Int)) (.int (b : Int)) (.int ((a + b : Nat) : Int)) := by (refine rwt (Int.natCast_add ..) ?_); exact IOP.add
theorem OP.mulN {a b : Nat} (h : a < 2 ^ 64) : OP g .Mult (.int (a : Int)) (.int (b : Int)) (.int ((a * b : Nat) : Int)) := by (refine rwt (Int.natCast_mul ..) ?_); exact OP.mul (by simpa using h)
theorem OP.shl1 {w : Nat} (h : w ≤ 1000) : OP g .LShift (.int 1) (.int (w : Int)) (.int ((2 ^ w : Nat) : Int)) := by
  have e : ((2 ^ w : Nat) : Int) = 1 * 2 ^ (w : Int).toNat := by simp
  (refine rwt e ?_)
  exact OP.shl (by exact oq83) (by exact oq200 h) (by decide)
theorem OP.mask {w : Nat} : OP g .Sub (.int ((2 ^ w : Nat) : Int)) (.int 1) (.int ((2 ^ w - 1 : Nat) : Int)) := by
  have e : ((2 ^ w - 1 : Nat) : Int) = ((2 ^ w : Nat) : Int) - 1 := by
    have : 0 < 2 ^ w := Nat.pow_pos (by decide)
    exact oq201 this
  (refine rwt e ?_)
  exact OP.sub
theorem OP.shlN {a w : Nat} (h : w ≤ 1000) (ha : a < 2 ^ 64) : OP g .LShift (.int (a : Int)) (.int (w : Int)) (.int ((a * 2 ^ w : Nat) : Int)) := by
  have e : ((a * 2 ^ w : Nat) : Int) = (a : Int) * 2 ^ (w : Int).toNat := by simp
  (refine rwt e ?_)
  exact OP.shl (by exact oq83) (by exact oq200 h) (by simpa using ha)
theorem shrE (c w : Nat) : ((c : Int).fdiv (2 ^ (w : Int).toNat)) = ((c / 2 ^ w : Nat) : Int) := by
  (refine rwt (Int.toNat_natCast ..) ?_; refine rwt (Int.fdiv_eq_ediv_of_nonneg _ (by exact Int.le_of_lt (Int.pow_pos (by decide)))) ?_)
  simp
theorem OP.shrN {c w : Nat} : OP g .RShift (.int (c : Int)) (.int (w : Int)) (.int ((c / 2 ^ w : Nat) : Int)) := by (refine rws (shrE ..) ?_); exact OP.shr (by exact oq83)
theorem IOP.shrN {c w : Nat} : IOP g .RShift (.int (c : Int)) (.int (w : Int)) (.int ((c / 2 ^ w : Nat) : Int)) := by (refine rws (shrE ..) ?_); exact IOP.shr (by exact oq83)
theorem bitAndE (c w : Nat) : Builtin.bitAnd (c : Int) ((2 ^ w - 1 : Nat) : Int) = ((c % 2 ^ w : Nat) : Int) := by
  unfold Builtin.bitAnd
  (rewrite [decide_eq_true (by exact oq83)]; refine rwt (decide_eq_true (by exact oq202)) ?_)
  simp only [Int.toNat_natCast]
  (refine rwt (Nat.and_two_pow_sub_one_eq_mod ..) ?_; with_reducible rfl)
theorem OP.andN {c w : Nat} : OP g .BitAnd (.int (c : Int)) (.int ((2 ^ w - 1 : Nat) : Int)) (.int ((c % 2 ^ w : Nat) : Int)) := by (refine rws (bitAndE ..) ?_); exact OP.and
theorem OP.modN {c b : Nat} (h : 0 < b) : OP g .Mod (.int (c : Int)) (.int (b : Int)) (.int ((c % b : Nat) : Int)) := by
  have e : ((c % b : Nat) : Int) = (c : Int).fmod b := by (refine rwt (Int.fmod_eq_emod_of_nonneg _ (by exact oq83)) ?_); simp
  (refine rwt e ?_)
  exact OP.mod (by exact oq76 h)
theorem OP.divN {c b : Nat} (h : 0 < b) (hz : b < 2 ^ 64) : OP g .FloorDiv (.int (c : Int)) (.int (b : Int)) (.int ((c / b : Nat) : Int)) := fun A E s R v₁ v₂ Q hA hL i₁ i₂ q => by
  have e : ((c / b : Nat) : Int) = (c : Int).fdiv b := by (refine rwt (Int.fdiv_eq_ediv_of_nonneg _ (by exact oq83)) ?_); simp
  rw [e] at q
  (first | refine Is.eInt i₁ fun _ => ?_ | refine Is.eFn i₁ ?_ | refine Is.eBool i₁ ?_ | refine Is.eStr i₁ fun _ => ?_ | refine Is.eNone i₁ ?_ | cases i₁); (first | refine Is.eInt i₂ fun _ => ?_ | refine Is.eFn i₂ ?_ | refine Is.eBool i₂ ?_ | refine Is.eStr i₂ fun _ => ?_ | refine Is.eNone i₂ ?_ | cases i₂); exact floordiv_int (by exact oq76 h) (q _ _ (.int _ _)) (.inl (PyProof.noPylong_of_log2 (by
    have : ((b : Int)).natAbs = b := by simp
    (refine rwt this ?_)
    have := (Nat.log2_lt (n := b) (k := 64) (by exact oq203 h)).mpr hz
    exact oq204 this)))

/-- a call's value -/
theorem EV.callN {func : Expr} {args : List Expr} {pos : Pos} {a : Addr} {ds : List D} {d : D} {k : Nat} (hf : EV g f n σ func (.fn a)) (ha : ES g f n σ pos args ds) (hF : FN g k a ds d)
    (hkn : k ≤ n) (hkeep : keepIn g.K (.ref a) = true) (hne : ∀ o n p, func ≠ .Attribute o n p := by intro _ _ _ h; cases h) (hne' : args ≠ [] := by intro h; cases h)
    (he : ∀ e es, args = e :: es → starEach args f.env = (false, eval e f.env) :: starEach es f.env ∧ (backTo pos (starEach es f.env)).any (·.1) = false := by (intro _ _ h; cases h; exact ⟨rfl, rfl⟩)) : EV g f n σ (.Call func args [] pos) d :=
  EV.call hf ha hF hkeep hkn hne hne' he
theorem EV.callM {x : Str} {p' : Pos} {e : Expr} {es : List Expr} {pos : Pos} {a : Addr} {ds : List D} {d : D} {k : Nat} (hf : EV g f n σ (.Name x p') (.fn a)) (ha : ES g f n σ pos (e :: es) ds) (hF : FN g k a ds d)
    (hkn : k ≤ n) (hkeep : keepIn g.K (.ref a) = true)
    (h1 : starEach (e :: es) f.env = (false, eval e f.env) :: starEach es f.env) (h2 : (backTo pos (starEach es f.env)).any (·.1) = false) : EV g f n σ (.Call (.Name x p') (e :: es) [] pos) d :=
  EV.callN hf ha hF hkn hkeep (by intro _ _ _ h; cases h) (by intro h; cases h) (by intro _ _ h; cases h; exact ⟨h1, h2⟩)
end
end
section
open PySem PySem.W PySem.Calls PyProof.Rows PySem.Spec
section
variable {g : Gl} {f : Fm} {n : Nat} {σ : Vars}
/-- x, y = e -/
theorem WX.unpack2 {e : Expr} {k : Nat} {tp pos p₁ p₂ : Pos} {x y : Str} {d₁ d₂ : D} {σ' : Vars} {Q : Out → Prop} (h : EV g f n σ e (.tup [d₁, d₂])) (u : Upds [(x, d₁), (y, d₂)] σ σ') (q : Q (.next σ'))
    (hs : swapsWithSole [.Tuple [.Name x p₁, .Name y p₂] k tp] e pos.line f.env = pure false)
    (hw : swappedStores [.Tuple [.Name x p₁, .Name y p₂] k tp] e f.env = pure Option.none)
    (hk : (f.env.kindOf x == some .local) = true) (hk' : (f.env.kindOf y == some .local) = true)
    (hp : (f.env.scope.kind == .class || (f.env.scope.kind == .module && f.env.locals != f.env.globals)) = false) : WX g f n σ (.Assign [.Tuple [.Name x p₁, .Name y p₂] k tp] e pos) Q :=
  WX.unpack [(x, p₁), (y, p₂)] h rfl u q rfl hs hw (by simp only [List.all_cons, List.all_nil, hk, hk', Bool.and_true]) hp
theorem WX.swap2 {e₁ e₂ : Expr} {k k' : Nat} {tp vp pos p₁ p₂ : Pos} {x y : Str} {d₁ d₂ : D} {σ' : Vars} {Q : Out → Prop} (h : ES g f n σ vp [e₁, e₂] [d₁, d₂]) (u : Upds [(y, d₂), (x, d₁)] σ σ') (q : Q (.next σ'))
    (hs : swapsWithSole [.Tuple [.Name x p₁, .Name y p₂] k tp] (.Tuple [e₁, e₂] k' vp) pos.line f.env = pure false)
    (hw : swappedStores [.Tuple [.Name x p₁, .Name y p₂] k tp] (.Tuple [e₁, e₂] k' vp) f.env = pure (some [x, y]))
    (hl : ([x, y].all fun x => f.env.kindOf x == some .local) = true)
    (hp : (f.env.scope.kind == .class || (f.env.scope.kind == .module && f.env.locals != f.env.globals)) = false) : WX g f n σ (.Assign [.Tuple [.Name x p₁, .Name y p₂] k tp] (.Tuple [e₁, e₂] k' vp) pos) Q :=
  WX.swap h (names := [x, y]) rfl u q (by simp) hs hw hl hp
theorem WX.swap3 {e₁ e₂ e₃ : Expr} {k k' : Nat} {tp vp pos p₁ p₂ p₃ : Pos} {x y z : Str} {d₁ d₂ d₃ : D} {σ' : Vars} {Q : Out → Prop} (h : ES g f n σ vp [e₁, e₂, e₃] [d₁, d₂, d₃]) (u : Upds [(z, d₃), (y, d₂), (x, d₁)] σ σ') (q : Q (.next σ'))
    (hs : swapsWithSole [.Tuple [.Name x p₁, .Name y p₂, .Name z p₃] k tp] (.Tuple [e₁, e₂, e₃] k' vp) pos.line f.env = pure false)
    (hw : swappedStores [.Tuple [.Name x p₁, .Name y p₂, .Name z p₃] k tp] (.Tuple [e₁, e₂, e₃] k' vp) f.env = pure (some [x, y, z]))
    (hl : ([x, y, z].all fun x => f.env.kindOf x == some .local) = true)
    (hp : (f.env.scope.kind == .class || (f.env.scope.kind == .module && f.env.locals != f.env.globals)) = false) : WX g f n σ (.Assign [.Tuple [.Name x p₁, .Name y p₂, .Name z p₃] k tp] (.Tuple [e₁, e₂, e₃] k' vp) pos) Q :=
  WX.swap h (names := [x, y, z]) rfl u q (by simp) hs hw hl hp
theorem WX.own1 {e₁ : Expr} {k k' : Nat} {lp tp vp pos p₁ p₂ : Pos} {x y : Str} {d₁ : D} {σ₁ σ₂ : Vars} {Q : Out → Prop} (h : ES g f n σ vp [e₁] [d₁]) (u : Upds [(y, d₁)] σ σ₁) (uo : Upd x (.own []) σ₁ σ₂) (no : noOwn σ = true) (q : Q (.next σ₂))
    (hs : swapsWithSole [.Tuple [.Name x p₁, .Name y p₂] k tp] (.Tuple [.List [] lp, e₁] k' vp) pos.line f.env = pure false)
    (hw : swappedStores [.Tuple [.Name x p₁, .Name y p₂] k tp] (.Tuple [.List [] lp, e₁] k' vp) f.env = pure (some [x, y]))
    (hl : ([y].all fun x => f.env.kindOf x == some .local) = true) (hlx : f.env.kindOf x = some .local)
    (hp : (f.env.scope.kind == .class || (f.env.scope.kind == .module && f.env.locals != f.env.globals)) = false) : WX g f n σ (.Assign [.Tuple [.Name x p₁, .Name y p₂] k tp] (.Tuple [.List [] lp, e₁] k' vp) pos) Q :=
  WX.ownTup h (names := [y]) rfl u uo no q (by simp) hs hw hl hlx hp
theorem WX.own2 {e₁ e₂ : Expr} {k k' : Nat} {lp tp vp pos p₁ p₂ p₃ : Pos} {x y z : Str} {d₁ d₂ : D} {σ₁ σ₂ : Vars} {Q : Out → Prop} (h : ES g f n σ vp [e₁, e₂] [d₁, d₂]) (u : Upds [(z, d₂), (y, d₁)] σ σ₁) (uo : Upd x (.own []) σ₁ σ₂) (no : noOwn σ = true) (q : Q (.next σ₂))
    (hs : swapsWithSole [.Tuple [.Name x p₁, .Name y p₂, .Name z p₃] k tp] (.Tuple [.List [] lp, e₁, e₂] k' vp) pos.line f.env = pure false)
    (hw : swappedStores [.Tuple [.Name x p₁, .Name y p₂, .Name z p₃] k tp] (.Tuple [.List [] lp, e₁, e₂] k' vp) f.env = pure (some [x, y, z]))
    (hl : ([y, z].all fun x => f.env.kindOf x == some .local) = true) (hlx : f.env.kindOf x = some .local)
    (hp : (f.env.scope.kind == .class || (f.env.scope.kind == .module && f.env.locals != f.env.globals)) = false) : WX g f n σ (.Assign [.Tuple [.Name x p₁, .Name y p₂, .Name z p₃] k tp] (.Tuple [.List [] lp, e₁, e₂] k' vp) pos) Q :=
  WX.ownTup h (names := [y, z]) rfl u uo no q (by simp) hs hw hl hlx hp
end
end
section
open PySem PySem.W PySem.Calls PyProof.Rows PySem.Spec
section
variable {g : Gl} {f : Fm} {n : Nat} {σ : Vars}
/-- a[::-1] -/
theorem EV.sliceRev {v st : Expr} {p pos : Pos} {ds : List D} (hv : EV g f n σ v (.list ds)) (hst : EV g f n σ st (.int (-1))) (hz : ds.length ≤ 1000000)
    (ht : ∀ o r, letTemporaryGo v o r = pure () := by intro _ _; rfl) : EV g f n σ (.Subscript v (.Slice none none (some st) p) pos) (.list ds.reverse) :=
  fun A E s R Q hA hS q => wpAny_Subscript_Slice_step (T := "list") list_getitem_lookup (hv A E s R _ hA hS fun v₁ R₁ s₁ r₁ i₁ => wpAny_Slice (by
    (refine rwt (evalPart_none ..) ?_)
    refine wpAny_pure (wpAny_pure ?_)
    refine hst A E s₁ R₁ _ hA (hS.gr r₁) fun v₂ R₂ s₂ r₂ i₂ => ?_
    cases i₁ with
    | list hm ha =>
      rename_i a vs k
      (first | refine Is.eInt i₂ fun _ => ?_ | refine Is.eFn i₂ ?_ | refine Is.eBool i₂ ?_ | refine Is.eStr i₂ fun _ => ?_ | refine Is.eNone i₂ ?_ | cases i₂)
      rename_i t
      have hm₂ := r₂.sub _ hm
      have hl : s₂.heap.IsList a vs.toArray := ⟨_, r₂.led _ hm₂, rfl, _, rfl⟩
      have r₅ : Gr R₂ s₂ R₂ { s₂ with heap := s₂.heap.push { cls := .type "slice", data := .fields #[.none, .none, .int (-1) t] } } := .grow r₂.led fun b o e => Heap.get?_push_of_some _ e
      have r₆ := (r₁.trans r₂).trans r₅
      have r₇ := r₆.trans (.push r₆.led (o := { cls := .type "list", data := .seq (slicePick vs.toArray none none (some (-1))) }))
      rw [krv_pick] at r₇
      refine ⟨(hl.push _).typeIs, wpAny_getItem_list_slice (hl.push _) (Heap.IsSliceOf.new ..) .none .none (.int _ _) (by decide) ?_ (by (refine rwt List.size_toArray ?_; refine rwt ha.length ?_; refine rwt sizeLine_eq ?_); exact oq15 hz)⟩
      (refine rwt (krv_pick ..) ?_)
      refine q _ _ _ r₇ (.list (vs := vs.reverse) (n := 0) ?_ ?_)
      · show (_, lstO vs.reverse 0) ∈ _
        exact .head _
      · exact ((ha.mono fun p hp => r₂.sub _ hp).reverse).mono fun p hp => .tail _ hp)) ht
theorem N'_reverse (xs : List Nat) : (N' xs).reverse = N' xs.reverse := by (rewrite [N', N']; refine rwt List.map_reverse ?_; with_reducible rfl)
theorem EV.revN {v st : Expr} {p pos : Pos} {xs : List Nat} (hv : EV g f n σ v (NI xs)) (hst : EV g f n σ st (.int (-1))) (hz : xs.length ≤ 1000000)
    (ht : ∀ o r, letTemporaryGo v o r = pure () := by intro _ _; rfl) : EV g f n σ (.Subscript v (.Slice none none (some st) p) pos) (NI xs.reverse) := by
  have := EV.sliceRev (p := p) (pos := pos) hv hst (by (refine rwt (N'_length ..) ?_); exact hz) ht
  rw [N'_reverse] at this
  exact this
theorem N'_getD {xs : List Nat} {i : Nat} {d : D} (h : (N' xs)[i]? = some d) : i < xs.length ∧ d = .int ((xs.getD i 0 : Nat) : Int) := by
  have hi : i < xs.length := by have := (List.getElem?_eq_some_iff.mp h).1; rwa [N'_length] at this
  refine ⟨hi, ?_⟩
  rw [N', List.getElem?_map, List.getElem?_eq_getElem hi] at h
  cases h
  (refine rwt List.getD_eq_getElem?_getD ?_; refine rwt (List.getElem?_eq_getElem hi) ?_)
  rfl
theorem EV.iteI {t x y : Expr} {pos : Pos} {b : Bool} {i j : Int} (h : TR g f n σ t b) (hx : b = true → EV g f n σ x (.int i)) (hy : b = false → EV g f n σ y (.int j)) : EV g f n σ (.IfExp t x y pos) (.int (if b = true then i else j)) := by
  have := EV.ite (pos := pos) h hx hy
  cases b <;> exact this
end
end
section
open PySem PySem.W PySem.Calls PyProof.Rows PySem.Spec

/-! ## a datum as the kit's data -/
mutual
def pd : D → PyData
  | .none => .none
  | .bool b => .bool b
  | .int i => .int i
  | .str x => .str x
  | .tup ds => .tuple (pdAll ds)
  | .list ds => .list (pdAll ds)
  | .fn _ => .none
def pdAll : List D → List PyData
  | [] => []
  | d :: ds => pd d :: pdAll ds
end
mutual
def nofn : D → Bool
  | .none | .bool _ | .int _ => true
  | .str x => PyData.strOk x
  | .tup ds | .list ds => nofnAll ds
  | .fn _ => false
def nofnAll : List D → Bool
  | [] => true
  | d :: ds => nofn d && nofnAll ds
end
mutual
def dep : D → Nat
  | .tup ds | .list ds => depAll ds + 1
  | .none | .bool _ | .int _ | .str _ | .fn _ => 0
def depAll : List D → Nat
  | [] => 0
  | d :: ds => max (dep d) (depAll ds)
end
mutual
theorem canLay_pd : ∀ d : D, nofn d = true → (pd d).canLay0 = true
  | .none, _ => by rw [pd, PyData.canLay0]
  | .bool b, _ => by rw [pd, PyData.canLay0]
  | .int i, _ => by rw [pd, PyData.canLay0]
  | .str x, h => by rw [nofn] at h; rw [pd, PyData.canLay0]; exact h
  | .tup ds, h => by rw [nofn] at h; rw [pd, PyData.canLay0]; exact canLay_pdAll ds h
  | .list ds, h => by rw [nofn] at h; rw [pd, PyData.canLay0]; exact canLay_pdAll ds h
  | .fn _, h => by rw [nofn] at h; cases h
theorem canLay_pdAll : ∀ ds : List D, nofnAll ds = true → PyData.canLayAll0 (pdAll ds) = true
  | [], _ => by rw [pdAll, PyData.canLayAll0]
  | d :: ds, h => by
    rw [nofnAll, Bool.and_eq_true] at h
    (rewrite [pdAll, PyData.canLayAll0]; refine rwt (canLay_pd d h.1) ?_; refine rwt (canLay_pdAll ds h.2) ?_); rfl
end
mutual
theorem depth_pd : ∀ d : D, (pd d).depth = dep d
  | .none => by rw [pd, PyData.depth, dep]
  | .bool b => by rw [pd, PyData.depth, dep]
  | .int i => by rw [pd, PyData.depth, dep]
  | .str x => by rw [pd, PyData.depth, dep]
  | .tup ds => by (rewrite [pd, PyData.depth, dep]; refine rwt (depth_pdAll ..) ?_; with_reducible rfl)
  | .list ds => by (rewrite [pd, PyData.depth, dep]; refine rwt (depth_pdAll ..) ?_; with_reducible rfl)
  | .fn _ => by rw [pd, PyData.depth, dep]
theorem depth_pdAll : ∀ ds : List D, PyData.depthAll (pdAll ds) = depAll ds
  | [] => by rw [pdAll, PyData.depthAll, depAll]
  | d :: ds => by (rewrite [pdAll, PyData.depthAll, depAll]; refine rwt (depth_pd ..) ?_; refine rwt (depth_pdAll ..) ?_; with_reducible rfl)
end
mutual
theorem Is.reads {R : Led} {h : Heap} (hl : ∀ p ∈ R, h.get? p.1 = some p.2) : ∀ {v : Value} {d : D}, Is R v d → nofn d = true → ∃ as, Reads h v (pd d) as
  | _, _, .none, _ => ⟨_, by rw [pd]; exact .none⟩
  | _, _, .bool b, _ => ⟨_, by rw [pd]; exact .bool b⟩
  | _, _, .int i t, _ => ⟨_, by rw [pd]; exact .int i t⟩
  | _, _, .str x t, _ => ⟨_, by rw [pd]; exact .str x t⟩
  | _, _, .tup hm ha, h => by
    rw [nofn] at h
    obtain ⟨as, r⟩ := IsAll.reads hl ha h
    exact ⟨_, by rw [pd]; exact .tuple (hl _ hm) rfl rfl (by simpa using r)⟩
  | _, _, .list hm ha, h => by
    rw [nofn] at h
    obtain ⟨as, r⟩ := IsAll.reads hl ha h
    exact ⟨_, by rw [pd]; exact .list (hl _ hm) rfl rfl (by simpa using r)⟩
  | _, _, .fn _, h => by rw [nofn] at h; cases h
theorem IsAll.reads {R : Led} {h : Heap} (hl : ∀ p ∈ R, h.get? p.1 = some p.2) : ∀ {vs : List Value} {ds : List D}, IsAll R vs ds → nofnAll ds = true → ∃ as, ReadsAll h vs (pdAll ds) as
  | _, _, .nil, _ => ⟨_, by rw [pdAll]; exact .nil⟩
  | _, _, .cons i r, h => by
    rw [nofnAll, Bool.and_eq_true] at h
    refine xe1_1 (Is.reads hl i h.1) fun as x => ?_
    refine xe1_1 (IsAll.reads hl r h.2) fun bs y => ?_
    exact ⟨_, by rw [pdAll]; exact .cons x y⟩
end
/-- a datum that can be compared -/
def okD (d : D) : Bool := nofn d && decide (dep d ≤ 64)
theorem okD_shaped {d : D} (h : okD d = true) : PySem.SeqAt.shaped (pd d) = true := by
  refine xe0_2 (Bool.and_eq_true_iff.mp h) fun h1 h2 => ?_
  unfold PySem.SeqAt.shaped
  (refine rwt (canLay_pd d h1) ?_; refine rwt (depth_pd ..) ?_; refine rwt h2 ?_); rfl
theorem AOk.u64 {n : Nat} {A : Around} (h : AOk n A) : A.units + 64 < cLine := h.units
theorem CMP.eqD {g : Gl} {a b : D} (ha : okD a = true) (hb : okD b = true) : CMP g .Eq a b (PyData.eqv (pd a) (pd b)) := fun A E s R v₁ v₂ Q hA hL i₁ i₂ q => by
  refine xe1_1 (i₁.reads hL (Bool.and_eq_true_iff.mp ha).1) fun as ra => ?_
  refine xe1_1 (i₂.reads hL (Bool.and_eq_true_iff.mp hb).1) fun bs rb => ?_
  exact eq_dataH ra rb (okD_shaped ha) (okD_shaped hb) hA.units (q s.toks)
theorem CMP.neD {g : Gl} {a b : D} (ha : okD a = true) (hb : okD b = true) : CMP g .NotEq a b (!PyData.eqv (pd a) (pd b)) := fun A E s R v₁ v₂ Q hA hL i₁ i₂ q => by
  refine xe1_1 (i₁.reads hL (Bool.and_eq_true_iff.mp ha).1) fun as ra => ?_
  refine xe1_1 (i₂.reads hL (Bool.and_eq_true_iff.mp hb).1) fun bs rb => ?_
  exact ne_dataH ra rb (okD_shaped ha) (okD_shaped hb) hA.units (q s.toks)
theorem okD_refl {d : D} (h : okD d = true) : PyData.eqv (pd d) (pd d) = true := PySem.SeqAt.eqv_refl _ (canLay_pd d (Bool.and_eq_true_iff.mp h).1)
theorem CMP.eqR {g : Gl} {a : D} (ha : okD a = true) : CMP g .Eq a a true := by have := CMP.eqD (g := g) ha ha; rwa [okD_refl ha] at this
theorem CMP.neR {g : Gl} {a : D} (ha : okD a = true) : CMP g .NotEq a a false := by have := CMP.neD (g := g) ha ha; rwa [okD_refl ha] at this
theorem ok_ints : ∀ zs : List Int, nofnAll (zs.map .int) = true ∧ depAll (zs.map .int) = 0
  | [] => ⟨by (refine rwt List.map_nil ?_; rewrite [nofnAll]; with_reducible rfl), by (refine rwt List.map_nil ?_; rewrite [depAll]; with_reducible rfl)⟩
  | z :: zs => by
    refine xe0_2 (ok_ints zs) fun h1 h2 => ?_
    exact ⟨by (refine rwt List.map_cons ?_; rewrite [nofnAll]; refine rwt h1 ?_; rewrite [nofn]); rfl, by (refine rwt List.map_cons ?_; rewrite [depAll]; refine rwt h2 ?_; rewrite [dep]); rfl⟩
theorem okD_ints (zs : List Int) : okD (.list (zs.map .int)) = true := by
  refine xe0_2 (ok_ints zs) fun h1 h2 => ?_
  unfold okD
  (rewrite [nofn, dep]; refine rwt h1 ?_; refine rwt h2 ?_); rfl

/-! ## cells -/
section
variable {g : Gl} {f : Fm} {n : Nat} {σ : Vars}
/-- a captured name that is not stored any more: its cell's object is in the base ledger -/
theorem EV.cell {x : Str} {pos : Pos} {c : Addr} {o : Obj} {v : Value} {d : D} (hm : (c, o) ∈ f.R₀) (ho : o.data = .cell (some v)) (i : Is f.R₀ v d) (hc : f.env.cells.lookup x = some c)
    (hk : f.env.scope.kind = .function := by rfl) (hl : f.env.kindOf x = some .cell := by rfl) (hd : (x == ("__debug__" : Str)) = false := by decide) : EV g f n σ (.Name x pos) d := fun A E s R Q hA hS q => by
  have hL := hS.ledIn
  refine xe1_1 (id hS) fun m S => ?_
  exact wpAny_Name (wpAny_loadName_cell hk hl hc ⟨o, hL _ (S.sub _ hm), ho⟩ (q v R s (.refl hL) (i.mono S.sub))) hd
theorem EV.free {x : Str} {pos : Pos} {c : Addr} {o : Obj} {v : Value} {d : D} (hm : (c, o) ∈ f.R₀) (ho : o.data = .cell (some v)) (i : Is f.R₀ v d) (hc : f.env.cells.lookup x = some c)
    (hk : f.env.scope.kind = .function := by rfl) (hl : f.env.kindOf x = some .free := by rfl) (hd : (x == ("__debug__" : Str)) = false := by decide) (hn : (x == ("__classdict__" : Str)) = false := by decide) : EV g f n σ (.Name x pos) d := fun A E s R Q hA hS q => by
  have hL := hS.ledIn
  obtain ⟨m, S⟩ := id hS
  exact wpAny_Name (wpAny_loadName_free hk hl hc ⟨o, hL _ (S.sub _ hm), ho⟩ (q v R s (.refl hL) (i.mono S.sub)) hn) hd

/-! ## a comprehension over data, its element an int -/
theorem EV.compI {elt iter : Expr} {x : Str} {px pos : Pos} {scope : Scope} {cl : List (Str × Addr)} {enc : Int → D} {zs : List Int} {F : Int → Int} (hit : ITER g f n σ iter (zs.map enc)) (hinj : ∀ a b, pd (enc a) = pd (enc b) → a = b) (hok : ∀ a, nofn (enc a) = true)
    (helt : ∀ C h₀' R₀' z, z ∈ zs → (∀ p ∈ f.R₀, p ∈ R₀') → EV g ⟨compEnvC scope cl C f.env, h₀', R₀'⟩ n [(x, .val (enc z))] elt (.int (F z)))
    (hz : zs.length ≤ 1000000)
    (hclos : closureFor scope f.env = pure cl) (hcell : ∀ y ∈ scope.names, y.2 ≠ .cell := by decide) (hkind : scope.kind = .function := by rfl)
    (hnames : ∀ y ∈ scope.names, y.2 = .local → scope.names.lookup y.1 = some .local := by decide) (hx : scope.names.lookup x = some .local := by rfl)
    (hs : ∀ x, foldedSetIterable iter f.env x = pure x := by intro _; rfl) : EV g f n σ (.ListComp elt [⟨.Name x px, iter, [], 0⟩] scope pos) (.list (zs.map fun z => .int (F z))) :=
  fun A E s R Q hA hS Q_ => by
    have hLs := hS.ledIn
    (refine rwt (eval_ListComp ..) ?_)
    refine wpAny_comprehension_free (use := none) rfl hs hclos hkind hnames (hit A E s R _ hA hS fun I fp P J R' s' r hW hJ hfp hI hIn hIR hP => ?_)
    have S' := hS.gr r
    have hIlt : I < s'.heap.objs.size := by obtain ⟨o, ho, _⟩ := hI 0 _ hJ; exact Heap.lt_size ho
    have key : ∀ i v, P i v → ∃ z, zs[i]? = some z ∧ Is R' v (enc z) := fun i v hPv => by
      refine xe1_2 (hP i v hPv) fun d hd iv => ?_
      rw [List.getElem?_map] at hd
      refine xe1_2 (Option.map_eq_some_iff.mp hd) fun z hz1 e_1 => ?_
      subst e_1
      exact ⟨z, hz1, iv⟩
    refine comp_block_walkC (RR := fun acc C => compPost (model g.prog g.w) A E none Q acc C) hW (by (refine rwt (List.length_map ..) ?_; refine rwt sizeLine_eq ?_); exact oq15 hz) (fun _ => true) (fun v y => ∃ z t, y = .int (F z) t ∧ Is R' v (enc z)) hcell hkind hx hJ
      (fun b hb => ?_) ⟨fun C i v s₃ m₃ E' hC hPv hns hm hk htk => ?_, fun C i v s₃ m₃ E' hC hPv _ hns hm hk htk => ?_⟩ ?_
    · rcases hfp b hb with rfl | ⟨o, ho⟩
      · exact hIlt
      · exact Heap.lt_size (r.led _ ho)
    · (refine rwt List.forIn_nil ?_)
      exact wpAny_pure ⟨rfl, s₃.heap, s₃.toks, rfl, fun _ _ e => e⟩
    · refine xe1_2 (key i v hPv) fun z hz1 iv => ?_
      have hzm : z ∈ zs := List.mem_of_getElem? hz1
      refine xe1_1 (id S') fun m S => ?_
      have keep₃ : ∀ b o, b ≠ I → s'.heap.get? b = some o → s₃.heap.get? b = some o := fun b o hb e => hk b o (by simpa using hb) e
      have hIh : f.h₀.get? I = none := by
        refine xe1_1 hS fun m' S₀ => ?_
        try clear hS
        cases q : f.h₀.get? I with
        | none => rfl
        | some o => rw [S₀.fr.keep _ _ q] at hIn; cases hIn
      have St' : St g ⟨compEnvC scope cl C f.env, f.h₀, R'⟩ [(x, .val (enc z))] R' s₃.heap := by
        refine ⟨m₃, ⟨hns, fun b o e => keep₃ b o (fun q => by rw [q, hIh] at e; cases e) (S.fr.keep b o e), ?_⟩, S.gl, fun p hp => ⟨keep₃ _ _ (hIR p hp) (r.led p hp), ?_, .inl hp⟩, fun _ h => h, ?_, fun y d hy => ?_, fun y es hy => ?_, fun y es y' es' hy => ?_⟩
        · exact Nat.le_trans (Nat.le_trans S.fr.above (Nat.le_of_lt S.fr.ns.lt)) hC
        · exact Nat.ne_of_lt (Nat.lt_of_lt_of_le (Heap.lt_size (r.led p hp)) hC)
        · simp
        · rw [List.mem_singleton] at hy
          cases hy
          exact ⟨v, hm, iv⟩
        · rw [List.mem_singleton] at hy; cases hy
        · rw [List.mem_singleton] at hy; cases hy
      refine helt C f.h₀ R' z hzm S.sub A E' s₃ R' _ hA St' fun y R'' s₄ r₄ i₄ => ?_
      refine xe2_1 r₄.rest fun h₄ tk₄ e₄ => ?_
      (first | refine Is.eInt i₄ fun _ => ?_ | refine Is.eFn i₄ ?_ | refine Is.eBool i₄ ?_ | refine Is.eStr i₄ fun _ => ?_ | refine Is.eNone i₄ ?_ | cases i₄)
      exact ⟨⟨z, _, rfl, iv⟩, h₄, tk₄, e₄, by have := r₄.ext; rw [e₄] at this; exact this⟩
    · intro D C h' tk m' ys vs hD hC hDC hn hl hpl hlen hPs hF hk
      have hys : IsAll R' ys.toList (zs.map fun z => .int (F z)) := by
        have e1 : vs.filter (fun _ => true) = vs := by simp
        rw [e1] at hF
        have hj : ∀ j v, vs[j]? = some v → ∃ z, zs[j]? = some z ∧ Is R' v (enc z) := fun j v e => key j v (hPs j v e)
        rw [List.length_map] at hlen
        clear e1 hPs hl hpl
        generalize ys.toList = yl at hF
        clear hit hP hW hJ hI hfp key helt hz Q_
        induction hF generalizing zs with
        | nil =>
          cases zs with
          | nil => exact .nil
          | cons z zs => cases hlen
        | cons h1 h2 ih =>
          cases zs with
          | nil => cases hlen
          | cons z zs =>
            refine xe1_2 (hj 0 _ rfl) fun z' hz' iv => ?_
            cases hz'
            refine xe2_2 h1 fun z'' t e_1 iv' => ?_
            subst e_1
            try clear h1
            refine xe1_1 (iv.reads r.led (hok _)) fun as r1 => ?_
            refine xe1_1 (iv'.reads r.led (hok _)) fun as' r2 => ?_
            have := hinj _ _ (PySem.SeqAt.Reads.unique _ _ _ _ _ (canLay_pd _ (hok _)) r1 r2)
            subst this
            exact .cons (.int _ _) (ih (by simpa using hlen) fun j v e => hj (j + 1) v e)
      refine ⟨m', hn, fun h'' hs'' => ?_⟩
      have keep₂ : ∀ b o, b ≠ I → s'.heap.get? b = some o → h''.get? b = some o := fun b o hb e => hs''.extBut b o (by rintro rfl; rw [hC] at e; cases e) (hk b o (by simpa using hb) e)
      refine xe1_1 hpl fun k hDo => ?_
      try clear hpl
      have hDh : h''.get? D = some (lstO ys.toList k) := (hs''.2 D hDC).trans hDo
      have hDs : s.heap.get? D = none := by
        cases q : s.heap.get? D with
        | none => rfl
        | some o => rw [r.ext _ _ q] at hD; cases hD
      refine Q_ (.ref D) ((D, lstO ys.toList k) :: R') _ ⟨r.rest.trans .mk', fun b o e => keep₂ b o (fun q => by rw [q, hIn] at e; cases e) (r.ext b o e), fun p hp => .tail _ (r.sub p hp), fun p hp => ?_, fun p hp => ?_⟩ (.list (.head _) (hys.mono fun p hp => .tail _ hp))
      · rcases List.mem_cons.mp hp with rfl | hp
        · exact .inr hDs
        · exact r.new p hp
      · rcases List.mem_cons.mp hp with rfl | hp
        · exact hDh
        · exact keep₂ _ _ (hIR p hp) (r.led p hp)
end
end
section
set_option maxHeartbeats 1000000
open PySem PySem.W PySem.Calls PyProof.Rows PySem.Spec

/-! ## statements that change the frame alone (and may raise) -/
structure LRes (f : Fm) (R : Led) (s : Shared) (R' : Led) (s' : Shared) : Prop where
  rest : Rest s s'
  sub : ∀ p ∈ R, p ∈ R'
  new : ∀ p ∈ R', p ∈ R ∨ s.heap.get? p.1 = none
  but : Heap.ExtBut f.env.locals s.heap s'.heap
  loc : ∃ o, s'.heap.get? f.env.locals = some o
theorem LRes.trans {f : Fm} {R R₁ R₂ : Led} {s s₁ s₂ : Shared} (x : LRes f R s R₁ s₁) (y : LRes f R₁ s₁ R₂ s₂) : LRes f R s R₂ s₂ where
  rest := x.rest.trans y.rest
  sub := fun p hp => y.sub p (x.sub p hp)
  new := fun p hp => by
    rcases y.new p hp with h | h
    · exact x.new p h
    · right
      cases q : s.heap.get? p.1 with
      | none => rfl
      | some o =>
        by_cases e : p.1 = f.env.locals
        · refine xe1_1 x.loc fun o' ho' => ?_
          rw [e, ho'] at h; cases h
        · rw [x.but _ _ e q] at h; cases h
  but := fun b o hb e => y.but b o hb (x.but b o hb e)
  loc := y.loc
section
variable {g : Gl} {f : Fm} {n : Nat} {σ : Vars}
theorem St.loc {R : Led} {h : Heap} (S : St g f σ R h) : ∃ o, h.get? f.env.locals = some o := by
  refine xe1_1 S fun m S => ?_
  refine xe3_2 S.fr.ns fun o _ _ ho _ => ?_
  exact ⟨o, ho⟩
theorem Gr.lres {R R' : Led} {s s' : Shared} (x : Gr R s R' s') (S : St g f σ R s.heap) : LRes f R s R' s' :=
  ⟨x.rest, x.sub, x.new, fun b o _ e => x.ext b o e, by obtain ⟨o, ho⟩ := S.loc; exact ⟨o, x.ext _ _ ho⟩⟩
theorem LRes.refl {R : Led} {s : Shared} (S : St g f σ R s.heap) : LRes f R s R s := (Gr.refl S.ledIn).lres S

def LX (g : Gl) (f : Fm) (n : Nat) (σ : Vars) (st : Stmt) (Q : Out → Prop) (X : Shared → Value → Shared → Prop) : Prop :=
  ∀ (A : Around) (E : Value → Shared → Prop) (s : Shared) (R : Led) (K : Flow → Shared → Prop), AOk n A → St g f σ R s.heap →
    (∀ o fl R' s', Q o → LRes f R s R' s' → OutOk g f R' s'.heap o fl → K fl s') → (∀ e R₁ s₁ s₂, LRes f R s R₁ s₁ → (∃ σ₁, St g f σ₁ R₁ s₁.heap) → X s₁ e s₂ → E e s₂) → wpAny g.M A (exec st f.env) K E s
def LP (g : Gl) (f : Fm) (n : Nat) (σ : Vars) (ss : List Stmt) (Q : Out → Prop) (X : Shared → Value → Shared → Prop) : Prop :=
  ∀ (A : Around) (E : Value → Shared → Prop) (s : Shared) (R : Led) (K : Flow → Shared → Prop), AOk n A → St g f σ R s.heap →
    (∀ o fl R' s', Q o → LRes f R s R' s' → OutOk g f R' s'.heap o fl → K fl s') → (∀ e R₁ s₁ s₂, LRes f R s R₁ s₁ → (∃ σ₁, St g f σ₁ R₁ s₁.heap) → X s₁ e s₂ → E e s₂) → wpAny g.M A (execs ss f.env) K E s
def ThenL (g : Gl) (f : Fm) (n : Nat) (rest : List Stmt) (Q : Out → Prop) (X : Shared → Value → Shared → Prop) : Out → Prop
  | .next σ => LP g f n σ rest Q X
  | o => Q o
theorem ThenL.next {rest : List Stmt} {Q : Out → Prop} {X} {σ' : Vars} (h : LP g f n σ' rest Q X) : ThenL g f n rest Q X (.next σ') := h
theorem ThenL.ret {rest : List Stmt} {Q : Out → Prop} {X} {d : D} (h : Q (.ret d)) : ThenL g f n rest Q X (.ret d) := h
theorem LP.nil {Q : Out → Prop} {X} (h : Q (.next σ)) : LP g f n σ [] Q X := fun A E s R K hA hS k kx => wpAny_execs_nil (k _ _ R s h (LRes.refl hS) ⟨rfl, hS⟩)
theorem LP.cons {st : Stmt} {rest : List Stmt} {Q : Out → Prop} {X} (h : LX g f n σ st (ThenL g f n rest Q X) X) : LP g f n σ (st :: rest) Q X :=
  fun A E s R K hA hS k kx => wpAny_execs_cons (h A E s R _ hA hS (fun o fl R₁ s₁ q r₁ ok => by
    cases o with
    | next σ₁ =>
      obtain ⟨rfl, S₁⟩ := ok
      exact q A E s₁ R₁ K hA S₁ (fun o fl R₂ s₂ q₂ r₂ ok₂ => k o fl R₂ s₂ q₂ (r₁.trans r₂) ok₂) fun e R₂ s₂ s₃ r₂ S x => kx e R₂ s₂ s₃ (r₁.trans r₂) S x
    | brk σ₁ => obtain ⟨rfl, S₁⟩ := ok; exact k _ _ R₁ s₁ q r₁ ⟨rfl, S₁⟩
    | cont σ₁ => obtain ⟨rfl, S₁⟩ := ok; exact k _ _ R₁ s₁ q r₁ ⟨rfl, S₁⟩
    | ret d => obtain ⟨v, rfl, i, S₁⟩ := ok; exact k _ _ R₁ s₁ q r₁ ⟨v, rfl, i, S₁⟩) kx)
/-- storing a local name: nothing but the frame changes -/
theorem storeL_ {A : Around} {E : Value → Shared → Prop} {s : Shared} {R : Led} {x : Str} {v : Value} {d : D} {σ' : Vars} {Q : Unit → Shared → Prop} (S : St g f σ R s.heap) (i : Is R v d) (u : Upd x (.val d) σ σ')
    (h : ∀ s', LRes f R s R s' → St g f σ' R s'.heap → Q () s') (hl : f.env.kindOf x = some .local)
    (hp : (f.env.scope.kind == .class || (f.env.scope.kind == .module && f.env.locals != f.env.globals)) = false) : wpAny g.M A (storeName f.env x v) Q E s := by
  refine xe1_1 S fun m S => ?_
  refine wpAny_storeName_local hl S.fr.ns (fun h' hn hs => ?_) hp
  have S' := S.store u i hn hs
  refine xe3_2 hn fun o _ _ ho _ => ?_
  try clear hn
  exact h _ ⟨.mk', fun _ h => h, fun _ h => .inl h, hs.extBut, ⟨o, ho⟩⟩ ⟨_, S'⟩
theorem LX.ret {e : Expr} {pos : Pos} {d : D} {Q : Out → Prop} {X} (h : EV g f n σ e d) (q : Q (.ret d)) : LX g f n σ (.Return (some e) pos) Q X :=
  fun A E s R K hA hS kk kx => wpAny_Return_some (h A E s R _ hA hS fun v R₁ s₁ r₁ i₁ => kk (.ret d) _ R₁ s₁ q (r₁.lres hS) ⟨v, rfl, i₁, (hS.gr r₁).nil⟩)
theorem LX.assign {x : Str} {p pos : Pos} {e : Expr} {d : D} {σ' : Vars} {Q : Out → Prop} {X} (h : EV g f n σ e d) (u : Upd x (.val d) σ σ') (q : Q (.next σ'))
    (hs : swapsWith e (some (.Name x p)) pos.line f.env = pure false := by rfl) (hl : f.env.kindOf x = some .local := by rfl)
    (hp : (f.env.scope.kind == .class || (f.env.scope.kind == .module && f.env.locals != f.env.globals)) = false := by rfl) : LX g f n σ (.Assign [.Name x p] e pos) Q X :=
  fun A E s R K hA hS kk kx => wpAny_Assign_Name (h A E s R _ hA hS fun v R₁ s₁ r₁ i₁ => storeL_ (hS.gr r₁) i₁ u (fun s₂ r₂ S₂ => kk _ _ R₁ s₂ q ((r₁.lres hS).trans r₂) ⟨rfl, S₂⟩) hl hp) hs
theorem LX.if_ {t : Expr} {body orelse : List Stmt} {pos : Pos} {b : Bool} {Q : Out → Prop} {X} (h : TR g f n σ t b) (ht : b = true → LP g f n σ body Q X) (he : b = false → LP g f n σ orelse Q X) : LX g f n σ (.If t body orelse pos) Q X :=
  fun A E s R K hA hS k kx => wpAny_If (h A E s R _ hA hS fun R₁ s₁ r₁ => by
    have r₁' := r₁.lres hS
    cases b with
    | true => exact ht rfl A E s₁ R₁ K hA (hS.gr r₁) (fun o fl R₂ s₂ q r₂ ok => k o fl R₂ s₂ q (r₁'.trans r₂) ok) fun e R₂ s₂ s₃ r₂ S x => kx e R₂ s₂ s₃ (r₁'.trans r₂) S x
    | false => exact he rfl A E s₁ R₁ K hA (hS.gr r₁) (fun o fl R₂ s₂ q r₂ ok => k o fl R₂ s₂ q (r₁'.trans r₂) ok) fun e R₂ s₂ s₃ r₂ S x => kx e R₂ s₂ s₃ (r₁'.trans r₂) S x)

/-! ## loops over pairs -/
/-- objects of an iterator changed -/
theorem St.but {R : Led} {h h' : Heap} {wr : List Addr} (S : St g f σ R h) (no : noOwn σ = true) (hk : ∀ b o, b ∉ wr → h.get? b = some o → h'.get? b = some o) (hR : ∀ p ∈ R, p.1 ∉ wr) (h0 : ∀ b ∈ wr, f.h₀.get? b = none) (hL : f.env.locals ∉ wr) : St g f σ R h' := by
  refine xe1_1 S fun m S => ?_
  refine xe3_2 S.fr.ns fun o es ep ho hr => ?_
  refine ⟨m, ⟨⟨o, es, ep, hk _ _ hL ho, hr⟩, fun b o e => hk b o (fun hb => by rw [h0 b hb] at e; cases e) (S.fr.keep b o e), S.fr.above⟩, S.gl, fun p hp => ⟨hk _ _ (hR p hp) (S.led p hp).1, (S.led p hp).2⟩, S.sub, S.nd, S.vars, fun x ds hx => ?_, S.one⟩
  have := List.all_eq_true.mp no _ hx
  cases this

def ITERP (g : Gl) (f : Fm) (n : Nat) (σ : Vars) (e : Expr) (items : List (D × D)) : Prop :=
  ∀ (A : Around) (E : Value → Shared → Prop) (s : Shared) (R : Led) (K : Value → Shared → Prop), AOk n A → St g f σ R s.heap →
    (∀ I fp wr Pt J Mid R' s', Gr R s R' s' → WalksU g.prog g.w A I fp wr items.length Pt J Mid → J 0 s'.heap → (∀ b ∈ wr, s.heap.get? b = none ∧ ∀ p ∈ R', p.1 ≠ b) → (∀ b ∈ fp, s.heap.get? b = none ∨ ∃ o, (b, o) ∈ R') → (∀ i h, J i h → ∀ b ∈ wr, ∃ o, h.get? b = some o) →
      (∀ i vals, Pt i vals → ∃ d₁ d₂, items[i]? = some (d₁, d₂) ∧ IsAll R' vals.toList [d₁, d₂]) → K (.ref I) s') →
    wpAny g.M A (eval e f.env) (fun x s₁ => wpAny g.M A (pyIter x) K E s₁) E s

theorem forP {A : Around} {E : Value → Shared → Prop} {s : Shared} {R : Led} {K : Flow → Shared → Prop} {x y : Str} {k : Nat} {p₁ p₂ tp pos : Pos} {iter : Expr} {body : List Stmt} {items : List (D × D)} {Q : Out → Prop} {X : Shared → Value → Shared → Prop}
    (hit : ITERP g f n σ iter items) (J : Nat → Vars → Prop) (h0 : J 0 σ) (hno : ∀ i σ, J i σ → noOwn σ = true)
    (turn : ∀ i d₁ d₂ σ, items[i]? = some (d₁, d₂) → J i σ → ∃ σ₁, Upds [(x, d₁), (y, d₂)] σ σ₁ ∧ LP g f n σ₁ body (fun o => match o with
      | .next σ' => J (i + 1) σ'
      | .cont σ' => J (i + 1) σ'
      | .brk σ' => Q (.next σ')
      | .ret d => Q (.ret d)) X)
    (done : ∀ σ, J items.length σ → Q (.next σ))
    (hA : AOk n A) (hS : St g f σ R s.heap)
    (kk : ∀ o fl R' s', Q o → Rest s s' → (∀ p ∈ R, p ∈ R') → OutOk g f R' s'.heap o fl → K fl s')
    (hX : ∀ e R₁ s₁ s₂, Rest s s₁ → (∀ p ∈ R, p ∈ R₁) → (∃ σ₁, St g f σ₁ R₁ s₁.heap) → Heap.ExtBut f.env.locals s.heap s₁.heap → X s₁ e s₂ → notedBy g.M A f.env (cameBackBy g.M A f.env E) e s₂)
    (hs : ∀ x, foldedSetIterable iter f.env x = pure x := by intro _; rfl) (hl₁ : f.env.kindOf x = some .local := by rfl) (hl₂ : f.env.kindOf y = some .local := by rfl)
    (hp : (f.env.scope.kind == .class || (f.env.scope.kind == .module && f.env.locals != f.env.globals)) = false := by rfl) :
    wpAny g.M A (exec (.For (.Tuple [.Name x p₁, .Name y p₂] k tp) iter body [] pos) f.env) K E s := by
  refine wpAny_For (hit A E s R _ hA hS fun I fp wr Pt W Mid R₁ s₁ r₁ hW hW0 hwr hfp hex hP => ?_) hs
  have hL0 : ∃ o, s.heap.get? f.env.locals = some o := hS.loc
  have hLwr : f.env.locals ∉ wr := fun h => by
    refine xe1_1 hL0 fun o ho => ?_
    try clear hL0
    rw [(hwr _ h).1] at ho; cases ho
  have h0wr : ∀ b ∈ wr, f.h₀.get? b = none := fun b hb => by
    refine xe1_1 hS fun m S => ?_
    try clear hS
    cases q : f.h₀.get? b with
    | none => rfl
    | some o => have := S.fr.keep _ _ q; rw [(hwr b hb).1] at this; cases this
  refine codeAny_forLoop_any (fun k s' => ∃ i σ' R', k = items.length + 1 - i ∧ i ≤ items.length ∧ J i σ' ∧ Rest s s' ∧ (∀ p ∈ R₁, p ∈ R') ∧ (∀ p ∈ R', p.1 ∉ wr) ∧ W i s'.heap ∧ St g f σ' R' s'.heap ∧ Heap.ExtBut f.env.locals s.heap s'.heap ∧ (∀ b ∈ fp, b ≠ f.env.locals)) ?_ (items.length + 1)
    ⟨0, σ, R₁, rfl, Nat.zero_le _, h0, r₁.rest, fun _ h => h, fun p hp hm => (hwr _ hm).2 p hp rfl, hW0, hS.gr r₁, fun b o _ e => r₁.ext b o e, fun b hb e => ?_⟩
  · intro k s' hh_
    refine wrapG fun W_ k_ => ?_
    refine xe3_10 hh_ fun i σ' R' e_1 hi hJ r' m' hRw hWi S' hEx hfL => ?_
    subst e_1
    try clear hh_
    refine k_ ?_
    clear k_ W_
    by_cases hlt : i < items.length
    · refine hW.item i s' _ _ hlt hWi fun T vals h' tk hPt hT hM hk => ?_
      have S₂ : St g f σ' R' h' := S'.but (hno _ _ hJ) hk hRw h0wr hLwr
      have hTwr := hW.apart _ _ _ hM
      refine hW.go _ _ _ i T { s' with heap := h', toks := tk } _ _ hM fun h₃ hW₃ hk₃ => ?_
      have S₃ : St g f σ' R' h₃ := S₂.but (hno _ _ hJ) hk₃ hRw h0wr hLwr
      refine xe2_2 (hP i vals hPt) fun d₁ d₂ hd iv => ?_
      refine xe1_2 (turn i d₁ d₂ σ' hd hJ) fun σ₁ u hbody => ?_
      refine xe1_3 hT fun oT hoT hcT r_0 => ?_
      refine xe1_1 r_0 fun nT hdT => ?_
      try clear hT
      have hT₃ : IsTup h₃ T vals := ⟨oT, hk₃ _ _ hTwr hoT, hcT, nT, hdT⟩
      have hsz : vals.size = 2 := by have := iv.length; simpa using this
      refine assign_Tuple_tuple (s := { s' with heap := h₃, toks := tk }) hA.hd hT₃ (by (refine rwt hsz ?_); rfl) rfl fun h₄ he₄ => ?_
      have ex₄ : ∀ b o, h₃.get? b = some o → h₄.get? b = some o := fun b o e => he₄ b o (Nat.ne_of_lt (Heap.lt_size e)) e
      have S₄ := S₃.grow ex₄
      refine u.eTwo fun σ₀ u₁ u₂ => ?_
      generalize hvl : vals.toList = vl at iv
      refine IsAll.eTwo iv fun v₁ v₂ i₁ i₂ => ?_
      refine assignInOrder_cons (wpAny_assign_Name (storeL_ (s := { s' with heap := h₄, toks := tk }) S₄ (i₁.mono m') u₁ (fun s₅ r₅ S₅ => ?_) hl₁ hp))
      refine assignInOrder_cons (wpAny_assign_Name (storeL_ S₅ (i₂.mono m') u₂ (fun s₆ r₆ S₆ => ?_) hl₂ hp))
      refine assignInOrder_nil ?_
      have r₅₆ := r₅.trans r₆
      have W₆ : ∀ {R₇ : Led} {s₇ : Shared}, LRes f R' s₆ R₇ s₇ → W (i + 1) s₇.heap := fun r₇ => hW.frame _ _ _ hW₃ fun b hb o e => r₇.but b o (hfL b hb) (r₅₆.but b o (hfL b hb) (ex₄ b o e))
      have ex₆ : Heap.ExtBut f.env.locals s.heap s₆.heap := fun b o hb e => r₅₆.but b o hb (ex₄ b o (hk₃ b o (fun hm => by rw [(hwr b hm).1] at e; cases e) (hk b o (fun hm => by rw [(hwr b hm).1] at e; cases e) (hEx b o hb e))))
      have rest₆ : Rest s s₆ := (r'.trans .mk').trans r₅₆.rest
      have new₆ : ∀ {R₇ : Led} {s₇ : Shared}, LRes f R' s₆ R₇ s₇ → ∀ p ∈ R₇, p.1 ∉ wr := fun r₇ p hp hm => by
        rcases r₇.new p hp with h | h
        · exact hRw p h hm
        · refine xe1_1 (hex _ _ hW₃ p.1 hm) fun o ho => ?_
          rw [r₅₆.but _ _ (fun e => hLwr (e ▸ hm)) (ex₄ _ _ ho)] at h; cases h
      refine hbody A _ s₆ R' _ hA S₆ (fun o fl R₇ s₇ q r₇ ok => ?_) fun e R₇ s₇ s₈ r₇ S₇ hx => ?_
      · cases o with
        | next σ₂ => obtain ⟨rfl, S₇⟩ := ok; exact ⟨items.length + 1 - (i + 1), by exact oq21 hi, i + 1, σ₂, R₇, rfl, hlt, q, rest₆.trans r₇.rest, fun p hp => r₇.sub p (m' p hp), new₆ r₇, W₆ r₇, S₇, fun b o hb e => r₇.but b o hb (ex₆ b o hb e), hfL⟩
        | cont σ₂ => obtain ⟨rfl, S₇⟩ := ok; exact ⟨items.length + 1 - (i + 1), by exact oq21 hi, i + 1, σ₂, R₇, rfl, hlt, q, rest₆.trans r₇.rest, fun p hp => r₇.sub p (m' p hp), new₆ r₇, W₆ r₇, S₇, fun b o hb e => r₇.but b o hb (ex₆ b o hb e), hfL⟩
        | brk σ₂ => obtain ⟨rfl, S₇⟩ := ok; exact kk _ _ R₇ s₇ q (rest₆.trans r₇.rest) (fun p hp => r₇.sub p (m' p (r₁.sub p hp))) ⟨rfl, S₇⟩
        | ret d => obtain ⟨v, rfl, i', S₇⟩ := ok; exact kk _ _ R₇ s₇ q (rest₆.trans r₇.rest) (fun p hp => r₇.sub p (m' p (r₁.sub p hp))) ⟨v, rfl, i', S₇⟩
      · exact hX e R₇ s₇ s₈ (rest₆.trans r₇.rest) (fun p hp => r₇.sub p (m' p (r₁.sub p hp))) S₇ (fun b o hb e => r₇.but b o hb (ex₆ b o hb e)) hx
    · have hin : i = items.length := by exact oq22 hlt hi
      subst hin
      refine hW.done s' _ _ hWi fun h' tk hk => wpAny_execs_nil ?_
      have S₃ := S'.but (hno _ _ hJ) hk hRw h0wr hLwr
      exact kk _ _ _ { s' with heap := h', toks := tk } (done σ' hJ) (r'.trans .mk') (fun p hp => m' p (r₁.sub p hp)) ⟨rfl, S₃⟩
  · refine xe1_1 hL0 fun o ho => ?_
    try clear hL0
    rcases hfp b hb with h | ⟨o', h⟩
    · rw [e, ho] at h; cases h
    · exact (let ⟨m, S⟩ := hS.gr r₁; (S.led _ h).2.1) e
theorem WX.forP_ {x y : Str} {k : Nat} {p₁ p₂ tp pos : Pos} {iter : Expr} {body : List Stmt} {items : List (D × D)} {Q : Out → Prop}
    (hit : ITERP g f n σ iter items) (J : Nat → Vars → Prop) (h0 : J 0 σ) (hno : ∀ i σ, J i σ → noOwn σ = true)
    (turn : ∀ i d₁ d₂ σ, items[i]? = some (d₁, d₂) → J i σ → ∃ σ₁, Upds [(x, d₁), (y, d₂)] σ σ₁ ∧ LP g f n σ₁ body (fun o => match o with
      | .next σ' => J (i + 1) σ'
      | .cont σ' => J (i + 1) σ'
      | .brk σ' => Q (.next σ')
      | .ret d => Q (.ret d)) (fun _ _ _ => False))
    (done : ∀ σ, J items.length σ → Q (.next σ))
    (hs : ∀ x, foldedSetIterable iter f.env x = pure x := by intro _; rfl) (hl₁ : f.env.kindOf x = some .local := by rfl) (hl₂ : f.env.kindOf y = some .local := by rfl)
    (hp : (f.env.scope.kind == .class || (f.env.scope.kind == .module && f.env.locals != f.env.globals)) = false := by rfl) : WX g f n σ (.For (.Tuple [.Name x p₁, .Name y p₂] k tp) iter body [] pos) Q :=
  fun A E s R K hA hS kk => forP hit J h0 hno turn done hA hS kk (fun _ _ _ _ _ _ _ _ h => h.elim) hs hl₁ hl₂ hp

/-! ## zip of two lists, enumerate of a str -/
theorem ITERP.zip {e₁ e₂ : Expr} {p pos : Pos} {ds es : List D} (h₁ : EV g f n σ e₁ (.list ds)) (h₂ : EV g f n σ e₂ (.list es)) (hg : nsIn g.K mainGlobals "zip" = some none)
    (hs : starEach [e₁, e₂] f.env = [(false, eval e₁ f.env), (false, eval e₂ f.env)] := by rfl) (hk : f.env.scope.kind = .function := by rfl) (hx : f.env.kindOf "zip" = some .globalImplicit := by rfl)
    (hgl : f.env.globals = mainGlobals := by rfl) (hbu : f.env.builtins = builtinsNs := by rfl) : ITERP g f n σ (.Call (.Name "zip" p) [e₁, e₂] [] pos) (ds.zip es) :=
  fun A E s R K hA hS kk => Call_Name2 (name_bi hS hg (show bootBuiltins "zip" = some (.type "zip") by decide +kernel) (PyProof.Rows.callWith_type rfl (evalArgs_plain (spliced_cons (h₁ A E s R _ hA hS fun v R₁ s₁ r₁ i₁ => spliced_cons (h₂ A E s₁ R₁ _ hA (hS.gr r₁) fun v₂ R₂ s₂ r₂ i₂ => spliced_nil (by
    cases i₁ with
    | list hm₁ ha₁ =>
    cases i₂ with
    | list hm₂ ha₂ =>
      rename_i a₁ vs₁ k₁ a₂ vs₂ k₂
      have hm₁' := r₂.sub _ hm₁
      have hl₁ : s₂.heap.IsList a₁ vs₁.toArray := ⟨_, r₂.led _ hm₁', rfl, _, rfl⟩
      have hl₂ : s₂.heap.IsList a₂ vs₂.toArray := ⟨_, r₂.led _ hm₂, rfl, _, rfl⟩
      have lt₁ : a₁ < s₂.heap.objs.size := Heap.lt_size (r₂.led _ hm₁')
      have lt₂ : a₂ < s₂.heap.objs.size := Heap.lt_size (r₂.led _ hm₂)
      refine call_zip_2 hl₁ hl₂ fun h' hz hTI hTO hit1 hit2 hsz hk' => ?_
      have r₃ : Gr R₂ s₂ R₂ { s₂ with heap := h' } := .grow (tk := s₂.toks) r₂.led hk'
      have r := (r₁.trans r₂).trans r₃
      have fresh : ∀ j : Nat, s.heap.get? (s₂.heap.objs.size + j) = none := fun j => by
        cases q : s.heap.get? (s₂.heap.objs.size + j) with
        | none => rfl
        | some o =>
          exact absurd (Heap.lt_size ((r₁.trans r₂).ext _ _ q)) (Nat.not_lt.mpr (Nat.le_add_right _ _))
      have notR : ∀ j : Nat, ∀ p ∈ R₂, p.1 ≠ s₂.heap.objs.size + j := fun j p hp e => by
        exact absurd (Heap.lt_size (r₂.led p hp)) (Nat.not_lt.mpr (e ▸ Nat.le_add_right _ _))
      have W := (WalksT.zip2 (prog := g.prog) (w := g.w) (A := A) hA.hd _ _ _ _ _ _ _ (zipApart_new lt₁ lt₂) vs₁.toArray vs₂.toArray).toU
      have e : min vs₁.toArray.size vs₂.toArray.size = (ds.zip es).length := by (refine rwt List.length_zip ?_; refine rwt List.size_toArray ?_; refine rwt List.size_toArray ?_; refine rwt ha₁.length ?_; refine rwt ha₂.length ?_; with_reducible rfl)
      rw [e] at W
      refine wpAny_pyIter_zip (s := { s₂ with heap := h' }) hz (kk _ _ _ _ _ _ R₂ _ r W ⟨hz, hTI, ⟨_, _, hTO⟩, hit1, hit2, hl₁.at fun o e => hk' _ o e, hl₂.at fun o e => hk' _ o e⟩ ?_ ?_ ?_ ?_)
      · intro b hb
        simp only [List.mem_cons, List.not_mem_nil, or_false] at hb
        rcases hb with rfl | rfl | rfl | rfl
        · exact ⟨fresh 4, notR 4⟩
        · exact ⟨fresh 3, notR 3⟩
        · exact ⟨fresh 0, notR 0⟩
        · exact ⟨fresh 1, notR 1⟩
      · intro b hb
        simp only [List.mem_cons, List.not_mem_nil, or_false] at hb
        rcases hb with rfl | rfl | rfl | rfl | rfl | rfl | rfl
        · exact .inl (fresh 4)
        · exact .inl (fresh 2)
        · exact .inl (fresh 3)
        · exact .inl (fresh 0)
        · exact .inl (fresh 1)
        · exact .inr ⟨_, hm₁'⟩
        · exact .inr ⟨_, hm₂⟩
      · intro i h hJ b hb
        refine wrapG fun W_ k_ => ?_
        refine xe0_6 hJ fun j1 j2 g_1 g_2 g_3 _ => ?_
        obtain ⟨_, _, j3⟩ := g_1
        obtain ⟨o4, j4, _⟩ := g_2
        obtain ⟨o5, j5, _⟩ := g_3
        try clear hJ
        refine k_ ?_
        clear k_ W_
        simp only [List.mem_cons, List.not_mem_nil, or_false] at hb
        rcases hb with rfl | rfl | rfl | rfl
        · exact ⟨_, j1⟩
        · exact ⟨_, j3⟩
        · exact ⟨_, j4⟩
        · exact ⟨_, j5⟩
      · intro i vals hh_
        refine wrapG fun W_ k_ => ?_
        refine xe2_3 hh_ fun x y e1 e2 e_1 => ?_
        subst e_1
        try clear hh_
        refine k_ ?_
        clear k_ W_
        refine xe1_2 (ha₁.getV (k := i) (by simpa using e1)) fun d₁ g1 q1 => ?_
        refine xe1_2 (ha₂.getV (k := i) (by simpa using e2)) fun d₂ g2 q2 => ?_
        refine ⟨d₁, d₂, ?_, .cons (q1.mono r₂.sub) (.cons q2 .nil)⟩
        rw [List.getElem?_zip_eq_some]
        exact ⟨g1, g2⟩)))))) (by decide) hk hx hgl hbu) hs
/-- the places and the signs of a str -/
def signsAt (x : Str) : List (D × D) := (List.range x.length).map fun i : Nat => (.int (i : Int), .str ⟨#[x.cps.getD i 0]⟩)
theorem signsAt_get {x : Str} {i : Nat} {d₁ d₂ : D} (h : (signsAt x)[i]? = some (d₁, d₂)) : i < x.length ∧ d₁ = .int (i : Int) ∧ d₂ = .str ⟨#[x.cps.getD i 0]⟩ := by
  unfold signsAt at h
  rw [List.getElem?_map] at h
  by_cases hi : i < x.length
  · rw [List.getElem?_range hi] at h
    cases h
    exact ⟨hi, rfl, rfl⟩
  · rw [List.getElem?_eq_none (by simpa using hi)] at h; cases h
theorem ITERP.enum {e : Expr} {p pos : Pos} {x : Str} (h : EV g f n σ e (.str x)) (hg : nsIn g.K mainGlobals "enumerate" = some none)
    (hs : starEach [e] f.env = [(false, eval e f.env)] := by rfl) (hk : f.env.scope.kind = .function := by rfl) (hx : f.env.kindOf "enumerate" = some .globalImplicit := by rfl)
    (hgl : f.env.globals = mainGlobals := by rfl) (hbu : f.env.builtins = builtinsNs := by rfl) : ITERP g f n σ (.Call (.Name "enumerate" p) [e] [] pos) (signsAt x) :=
  fun A E s R K hA hS kk => Call_Name1 (name_bi hS hg (show bootBuiltins "enumerate" = some (.type "enumerate") by decide +kernel) (PyProof.Rows.callWith_type rfl (evalArgs_plain (spliced_cons (h A E s R _ hA hS fun v R₁ s₁ r₁ i₁ => spliced_nil (by
    (first | refine Is.eInt i₁ fun _ => ?_ | refine Is.eFn i₁ ?_ | refine Is.eBool i₁ ?_ | refine Is.eStr i₁ fun _ => ?_ | refine Is.eNone i₁ ?_ | cases i₁)
    rename_i t
    refine call_enumerate_str fun h' he hit hsz hk' => ?_
    have r₃ : Gr R₁ s₁ R₁ { s₁ with heap := h' } := .grow (tk := s₁.toks) r₁.led hk'
    have r := r₁.trans r₃
    have fresh : ∀ j : Nat, s.heap.get? (s₁.heap.objs.size + j) = none := fun j => by
      cases q : s.heap.get? (s₁.heap.objs.size + j) with
      | none => rfl
      | some o =>
        exact absurd (Heap.lt_size (r₁.ext _ _ q)) (Nat.not_lt.mpr (Nat.le_add_right _ _))
    have notR : ∀ j : Nat, ∀ p ∈ R₁, p.1 ≠ s₁.heap.objs.size + j := fun j p hp e => by
      exact absurd (Heap.lt_size (r₁.led p hp)) (Nat.not_lt.mpr (e ▸ Nat.le_add_right _ _))
    have main : ∀ ty, h'.IsStrIter s₁.heap.objs.size ty x t 0 → Draws g.prog g.w A.in1 s₁.heap.objs.size [s₁.heap.objs.size] x.cps.size (fun i v => ∃ c u, x.cps[i]? = some c ∧ v = .str ⟨#[c]⟩ u) (fun i h => h.IsStrIter s₁.heap.objs.size ty x t i) →
        wpAny g.M A (pyIter (.ref (s₁.heap.objs.size + 1))) K E { s₁ with heap := h' } := fun ty hit D => by
      have W := (WalksT.enumerateD D (s₁.heap.objs.size + 1) (Nat.succ_ne_self _) (fun hm => Nat.succ_ne_self _ (List.mem_singleton.mp hm)) (by simp)).toU
      have e : x.cps.size = (signsAt x).length := by unfold signsAt; (refine rwt (List.length_map ..) ?_; refine rwt List.length_range ?_); rfl
      rw [e] at W
      refine wpAny_pyIter_enum (s := { s₁ with heap := h' }) he (kk _ _ _ _ _ _ R₁ _ r W ⟨⟨_, he⟩, hit⟩ ?_ ?_ ?_ ?_)
      · intro b hb
        simp only [List.mem_cons, List.not_mem_nil, or_false] at hb
        rcases hb with rfl | rfl
        · exact ⟨fresh 1, notR 1⟩
        · exact ⟨fresh 0, notR 0⟩
      · intro b hb
        simp only [List.mem_cons, List.not_mem_nil, or_false] at hb
        rcases hb with rfl | rfl
        · exact .inl (fresh 1)
        · exact .inl (fresh 0)
      · intro i h hJ b hb
        refine wrapG fun W_ k_ => ?_
        refine xe0_2 hJ fun g_1 r_0 => ?_
        refine xe1_2 r_0 fun o2 j2 _ => ?_
        obtain ⟨_, j1⟩ := g_1
        try clear hJ
        refine k_ ?_
        clear k_ W_
        simp only [List.mem_cons, List.not_mem_nil, or_false] at hb
        rcases hb with rfl | rfl
        · exact ⟨_, j1⟩
        · exact ⟨_, j2⟩
      · intro i vals hh_
        refine wrapG fun W_ k_ => ?_
        refine xe2_2 hh_ fun t' v g_1 e_2 => ?_
        obtain ⟨c, u, e1, rfl⟩ := g_1
        subst e_2
        try clear hh_
        refine k_ ?_
        clear k_ W_
        have hi : i < x.length := (Array.getElem?_eq_some_iff.mp e1).1
        refine ⟨_, _, ?_, .cons (.int _ _) (.cons (.str _ _) .nil)⟩
        unfold signsAt
        (refine rwt List.getElem?_map ?_; refine rwt (List.getElem?_range hi) ?_)
        have : x.cps.getD i 0 = c := by (refine rwt Array.getD_eq_getD_getElem? ?_; refine rwt e1 ?_); rfl
        simp only [Option.map_some, this]
    cases ha : x.cps.all (· < 128)
    · exact main _ (by simpa [strIterType, ha] using hit) (Draws.strWide (A := A.in1) hA.hd _ _ _)
    · exact main _ (by simpa [strIterType, ha] using hit) (Draws.strAscii (A := A.in1) hA.hd _ _ _)))))) (by decide) hk hx hgl hbu) hs
end
end
section
set_option maxHeartbeats 1000000
open PySem PySem.W PySem.Calls PyProof.Rows PySem.Spec

theorem bindL_out {kd : Str → Option NameKind} : ∀ {binds : List (Str × Value)} {m : Str → Option Value} {x : Str}, x ∉ binds.map (·.1) → bindL kd binds m x = m x
  | [], _, _, _ => rfl
  | (y, v) :: r, m, x, h => by
    rw [List.map_cons, List.mem_cons, not_or] at h
    (rewrite [bindL]; refine rwt (bindL_out h.2) ?_)
    split
    · exact if_neg h.1
    · rfl
theorem bindL_get {kd : Str → Option NameKind} : ∀ {binds : List (Str × Value)} {m : Str → Option Value} {x : Str} {v : Value}, (binds.map (·.1)).Nodup → (x, v) ∈ binds → kd x = some .local → bindL kd binds m x = some v
  | [], _, _, _, _, h, _ => nomatch h
  | (y, u) :: r, m, x, v, nd, h, hk => by
    rw [List.map_cons, List.nodup_cons] at nd
    rcases List.mem_cons.mp h with e | h
    · cases e
      (rewrite [bindL]; refine rwt (bindL_out nd.1) ?_; rewrite [if_pos hk])
      exact if_pos rfl
    · rw [bindL]; exact bindL_get nd.2 h hk
theorem bindC_out {kd : Str → Option NameKind} : ∀ {binds : List (Str × Value)} {m : Str → Option Value} {x : Str}, x ∉ binds.map (·.1) → bindC kd binds m x = m x
  | [], _, _, _ => rfl
  | (y, v) :: r, m, x, h => by
    rw [List.map_cons, List.mem_cons, not_or] at h
    (rewrite [bindC]; refine rwt (bindC_out h.2) ?_)
    split
    · rfl
    · exact if_neg h.1
theorem bindC_get {kd : Str → Option NameKind} : ∀ {binds : List (Str × Value)} {m : Str → Option Value} {x : Str} {v : Value}, (binds.map (·.1)).Nodup → (x, v) ∈ binds → kd x = some .cell → bindC kd binds m x = some v
  | [], _, _, _, _, h, _ => nomatch h
  | (y, u) :: r, m, x, v, nd, h, hk => by
    rw [List.map_cons, List.nodup_cons] at nd
    rcases List.mem_cons.mp h with e | h
    · cases e
      (rewrite [bindC]; refine rwt (bindC_out nd.1) ?_; rewrite [if_neg (by rw [hk]; decide)])
      exact if_pos rfl
    · rw [bindC]; exact bindC_get nd.2 h hk

/-- a captured name of the frame -/
def CellAt (f : Fm) (x : Str) (d : D) : Prop := ∃ c o v, f.env.cells.lookup x = some c ∧ (c, o) ∈ f.R₀ ∧ o.data = .cell (some v) ∧ Is f.R₀ v d
section
variable {g : Gl} {f : Fm} {n : Nat} {σ : Vars}
theorem EV.cellAt {x : Str} {pos : Pos} {d : D} (h : CellAt f x d) (hk : f.env.scope.kind = .function := by rfl) (hl : f.env.kindOf x = some .cell := by rfl) (hd : (x == ("__debug__" : Str)) = false := by decide) : EV g f n σ (.Name x pos) d := by
  refine xe3_4 h fun c o v h1 h2 h3 h4 => ?_
  try clear h
  exact EV.cell h2 h3 h4 h1 hk hl hd
theorem EV.freeAt {x : Str} {pos : Pos} {d : D} (h : CellAt f x d) (hk : f.env.scope.kind = .function := by rfl) (hl : f.env.kindOf x = some .free := by rfl) (hd : (x == ("__debug__" : Str)) = false := by decide) (hn : (x == ("__classdict__" : Str)) = false := by decide) : EV g f n σ (.Name x pos) d := by
  refine xe3_4 h fun c o v h1 h2 h3 h4 => ?_
  try clear h
  exact EV.free h2 h3 h4 h1 hk hl hd hn

/-- the state at a def's entry whose parameters are partly captured -/
theorem St.enterC {s : Shared} {h₁ : Heap} {R : Led} {env : Env} {names : List Str} {vs : List Value} {ds : List D} {kd : Str → Option NameKind} {cs : List (Str × Addr)} (lp cp : List (Str × D)) (un : List Str) (hG : GlOk g s.heap) (hL : ∀ p ∈ R, s.heap.get? p.1 = some p.2) (hI : IsAll R vs ds)
    (hL₀ : env.locals = s.heap.objs.size) (hcs : env.cells = cs)
    (F : Fr s.heap s.heap.objs.size h₁ (bindL kd (names.zip vs) fun _ => none)) (X : Cl s.heap.objs.size cs h₁ (bindC kd (names.zip vs) fun _ => none))
    (hnd : names.Nodup) (hlen : names.length = ds.length) (hlp : ∀ q ∈ lp, q ∈ names.zip ds ∧ kd q.1 = some .local) (hcp : ∀ q ∈ cp, q ∈ names.zip ds ∧ kd q.1 = some .cell ∧ (cs.lookup q.1).isSome = true)
    (hσ : ((lp.map (·.1)) ++ un).Nodup) :
    ∃ cells : Led, (∀ q ∈ cp, CellAt ⟨env, s.heap, cells ++ R⟩ q.1 q.2) ∧ St g ⟨env, s.heap, cells ++ R⟩ (lp.map (fun p => (p.1, Sl.val p.2)) ++ un.map fun x => (x, .un)) (cells ++ R) h₁ ∧ (∀ p ∈ cells, s.heap.objs.size < p.1 ∧ h₁.get? p.1 = some p.2) ∧
      (∀ p ∈ cells, ∃ q ∈ cp, cs.lookup q.1 = some p.1) := by
  have hnz : ((names.zip vs).map (·.1)).Nodup := by (refine rwt (List.map_fst_zip (by rw [hI.length, hlen]; exact Nat.le_refl _)) ?_); exact hnd
  have hv : ∀ q ∈ names.zip ds, ∃ v, (q.1, v) ∈ names.zip vs ∧ Is R v q.2 := fun q hq => by
    refine xe1_2 (lookup_zip (x := q.1) (d := q.2) hnd hI hq) fun v h1 h2 => ?_
    exact ⟨v, mem_of_lookup h1, h2⟩
  have hcells : ∀ cp' : List (Str × D), (∀ q ∈ cp', q ∈ cp) → ∃ cells : Led, (∀ q ∈ cp', ∃ c o v, cs.lookup q.1 = some c ∧ (c, o) ∈ cells ∧ o.data = .cell (some v) ∧ Is R v q.2) ∧ (∀ p ∈ cells, s.heap.objs.size < p.1 ∧ h₁.get? p.1 = some p.2) ∧ ∀ p ∈ cells, ∃ q ∈ cp, cs.lookup q.1 = some p.1 := by
    intro cp'
    induction cp' with
    | nil => intro _; exact ⟨[], (by intro q h; cases h), (by intro p h; cases h), (by intro p h; cases h)⟩
    | cons q r ih =>
      intro hin
      refine xe1_3 (ih fun q' hq' => hin q' (.tail _ hq')) fun cells h1 h2 h3 => ?_
      refine xe0_3 (hcp q (hin q (.head _))) fun g1 g2 g3 => ?_
      refine xe1_1 (Option.isSome_iff_exists.mp g3) fun c hc => ?_
      refine xe1_2 (hv q g1) fun v hvm iv => ?_
      refine xe1_2 (X.cell q.1 c hc) fun o ho hd => ?_
      rw [bindC_get hnz hvm g2] at hd
      refine ⟨(c, o) :: cells, fun q' hq' => ?_, fun p hp => ?_, fun p hp => ?_⟩
      · rcases List.mem_cons.mp hq' with rfl | hq'
        · exact ⟨c, o, v, hc, .head _, hd, iv⟩
        · refine xe3_4 (h1 q' hq') fun c' o' v' k1 k2 k3 k4 => ?_
          exact ⟨c', o', v', k1, .tail _ k2, k3, k4⟩
      · rcases List.mem_cons.mp hp with rfl | hp
        · exact ⟨X.above _ _ (mem_of_lookup hc), ho⟩
        · exact h2 p hp
      · rcases List.mem_cons.mp hp with rfl | hp
        · exact ⟨q, hin q (.head _), hc⟩
        · exact h3 p hp
  refine xe1_3 (hcells cp fun _ h => h) fun cells h1 h2 h3 => ?_
  refine ⟨cells, fun q hq => ?_, ?_, h2, h3⟩
  · refine xe3_4 (h1 q hq) fun c o v k1 k2 k3 k4 => ?_
    exact ⟨c, o, v, by (refine rwt hcs ?_); exact k1, List.mem_append.mpr (.inl k2), k3, k4.mono fun p hp => List.mem_append.mpr (.inr hp)⟩
  · refine ⟨_, by (refine rwt hL₀ ?_); exact F, hG, fun p hp => ?_, fun _ h => h, ?_, fun x d hx => ?_, fun x es hx => ?_, fun x es y es' hx => ?_⟩
    · rcases List.mem_append.mp hp with hc | hr
      · exact ⟨(h2 p hc).2, by (refine rwt hL₀ ?_); exact Nat.ne_of_gt (h2 p hc).1, .inl hp⟩
      · exact ⟨F.keep _ _ (hL p hr), by (refine rwt hL₀ ?_); exact Nat.ne_of_lt (Heap.lt_size (hL p hr)), .inl hp⟩
    · (refine rwt List.map_append ?_; refine rwt List.map_map ?_; refine rwt List.map_map ?_)
      have e1 : (lp.map ((fun p => p.1) ∘ fun p : Str × D => (p.1, Sl.val p.2))) = lp.map (·.1) := rfl
      have e2 : (un.map ((fun p => p.1) ∘ fun x : Str => (x, Sl.un))) = un := by
        have : ((fun p : Str × Sl => p.1) ∘ fun x : Str => (x, Sl.un)) = id := rfl
        (refine rwt this ?_; refine rwt (List.map_id ..) ?_; with_reducible rfl)
      (refine rwt e1 ?_; refine rwt e2 ?_); exact hσ
    · rcases List.mem_append.mp hx with hx | hx
      · refine xe1_2 (List.mem_map.mp hx) fun q hq e => ?_
        cases e
        refine xe0_2 (hlp q hq) fun g1 g2 => ?_
        refine xe1_2 (hv q g1) fun v hvm iv => ?_
        exact ⟨v, bindL_get hnz hvm g2, iv.mono fun p hp => List.mem_append.mpr (.inr hp)⟩
      · obtain ⟨q, hq, e⟩ := List.mem_map.mp hx; cases e
    · rcases List.mem_append.mp hx with hx | hx
      · obtain ⟨q, hq, e⟩ := List.mem_map.mp hx; cases e
      · obtain ⟨q, hq, e⟩ := List.mem_map.mp hx; cases e
    · rcases List.mem_append.mp hx with hx | hx
      · obtain ⟨q, hq, e⟩ := List.mem_map.mp hx; cases e
      · obtain ⟨q, hq, e⟩ := List.mem_map.mp hx; cases e

/-- a call of a def with captured names, down to its body -/
theorem call_C {A : Around} {E : Value → Shared → Prop} {s : Shared} {vs : List Value} {Q : Value → Shared → Prop} {a : Addr} {name : Str} {params : Arguments} {body : List Stmt} {scope : Scope} {doc pm cdv oc : Value} {od : Option Addr} {osl : Array (Option Value)} {binds : List (Str × Value)}
    (ho : g.K.lookup a = some ⟨oc, od, .func (docDef name params body scope pm cdv doc), osl⟩) (hcd : codeIn g.K cdv name = true) (hA : AOk (n + 1) A) (hG : GlOk g s.heap)
    (hb : bindArgs (docDef name params body scope pm cdv doc) ⟨vs, []⟩ = pure binds)
    (hkind : ∀ x ∈ binds, scope.names.lookup x.1 = some .local ∨ (scope.names.lookup x.1 = some .cell ∧ ((cellsFrom (s.heap.objs.size + 1) scope.names []).lookup x.1).isSome = true))
    (h : ∀ h₁ tk, Fr s.heap s.heap.objs.size h₁ (bindL (envOfC name scope s.heap.objs.size a cdv).kindOf binds fun _ => none) →
      Cl s.heap.objs.size (cellsFrom (s.heap.objs.size + 1) scope.names []) h₁ (bindC (envOfC name scope s.heap.objs.size a cdv).kindOf binds fun _ => none) →
      wpAny g.M (A.deeper (envOfC name scope s.heap.objs.size a cdv)) (execs body (envOfC name scope s.heap.objs.size a cdv))
        (fun fl s' => Q (match fl with | .ret v => v | _ => .none) s')
        (fun e s' => wpAny g.M (A.deeper (envOfC name scope s.heap.objs.size a cdv)) (leaving (envOfC name scope s.heap.objs.size a cdv) e) (fun _ s'' => E e s'') (fun e' s'' => E e' s'') s')
        { s with heap := h₁, toks := tk })
    (hco : scope.isCoroutine = false := by rfl) (hgen : scope.isGenerator = false := by rfl) (hk : scope.kind = .function := by rfl) : wpAny g.M A (call (.ref a) vs) Q E s :=
  wpAny_call (call_cells hA.room (hG.k _ _ ho) rfl hG.t.nolimit (codeRec_of hG.k hcd) hb hkind (fun h₁ tk F X => wpAny_mono (h h₁ tk F X) (fun fl s' q => by cases fl <;> exact q) fun _ _ x => x) hco hgen hk)

theorem kinds_of {scope : Scope} {names : List Str} {vs : List Value} {k : Nat} (hkind : (names.all fun x => scope.names.lookup x == some .local || (scope.names.lookup x == some .cell && ((cellsFrom k scope.names []).lookup x).isSome)) = true) :
    ∀ x ∈ names.zip vs, scope.names.lookup x.1 = some .local ∨ (scope.names.lookup x.1 = some .cell ∧ ((cellsFrom k scope.names []).lookup x.1).isSome = true) := fun x hx => by
  have := List.all_eq_true.mp hkind x.1 (List.of_mem_zip hx).1
  simpa using this
theorem FN.ofC {a : Addr} {ds : List D} {d : D} {name : Str} {params : Arguments} {body : List Stmt} {scope : Scope} {doc pm cdv oc : Value} {od : Option Addr} {osl : Array (Option Value)} (names : List Str) (lp cp : List (Str × D)) (un : List Str)
    (ho : g.K.lookup a = some ⟨oc, od, .func (docDef name params body scope pm cdv doc), osl⟩) (hcd : codeIn g.K cdv name = true)
    (hb : ∀ vs : List Value, vs.length = ds.length → bindArgs (docDef name params body scope pm cdv doc) ⟨vs, []⟩ = pure (names.zip vs))
    (hn : names.length = ds.length) (hnd : names.Nodup) (hσ : ((lp.map (·.1)) ++ un).Nodup)
    (hkind : ∀ k, (names.all fun x => scope.names.lookup x == some .local || (scope.names.lookup x == some .cell && ((cellsFrom k scope.names []).lookup x).isSome)) = true)
    (hlp : ∀ q ∈ lp, q ∈ names.zip ds) (hlpk : (lp.all fun q => scope.names.lookup q.1 == some .local) = true) (hcp : ∀ q ∈ cp, q ∈ names.zip ds) (hcpk : ∀ k, (cp.all fun q => scope.names.lookup q.1 == some .cell && ((cellsFrom k scope.names []).lookup q.1).isSome) = true)
    (h : ∀ (L : Addr) (h₀ : Heap) (R₀ : Led), (∀ q ∈ cp, CellAt ⟨envOfC name scope L a cdv, h₀, R₀⟩ q.1 q.2) → WP g ⟨envOfC name scope L a cdv, h₀, R₀⟩ n (lp.map (fun p => (p.1, Sl.val p.2)) ++ un.map fun x => (x, .un)) body (fun o => o = .ret d))
    (hco : scope.isCoroutine = false := by rfl) (hgen : scope.isGenerator = false := by rfl) (hk : scope.kind = .function := by rfl) : FN g (n + 1) a ds d :=
  fun A E s R vs Q hA hG hL hI q => by
    refine call_C ho hcd hA hG (hb vs hI.length) (kinds_of (hkind _)) (fun h₁ tk F X => ?_) hco hgen hk
    obtain ⟨cells, c1, c2, c3, c4⟩ := St.enterC (env := envOfC name scope s.heap.objs.size a cdv) lp cp un hG hL hI rfl rfl F X hnd hn (fun q hq => ⟨hlp q hq, by
      have := List.all_eq_true.mp hlpk q hq
      exact beq_iff_eq.mp this⟩) (fun q hq => by
      have := List.all_eq_true.mp (hcpk (s.heap.objs.size + 1)) q hq
      rw [Bool.and_eq_true] at this
      exact ⟨hcp q hq, beq_iff_eq.mp this.1, this.2⟩) hσ
    refine wpAny_mono (h _ _ _ c1 _ (fun _ _ => False) _ _ (fun fl s' => Q (match fl with | .ret v => v | _ => .none) s') hA.deeper c2 fun o fl R' s' ho r m ok => ?_) (fun _ _ x => x) fun _ _ x => x.elim
    subst ho
    refine xe1_3 ok fun v e_1 i r_0 => ?_
    refine xe1_1 r_0 fun m' S' => ?_
    subst e_1
    try clear ok
    refine q v R' s' ⟨Rest.mk'.trans r, S'.fr.keep, fun p hp => m p (List.mem_append.mpr (.inr hp)), fun p hp => ?_, fun p hp => (S'.led p hp).1⟩ i
    rcases (S'.led p hp).2.2 with x | x
    · rcases List.mem_append.mp x with y | y
      · exact .inr (Heap.get?_none_of_le (Nat.le_of_lt (c3 p y).1))
      · exact .inl y
    · exact .inr x
end
end
section
set_option maxHeartbeats 1000000
set_option maxRecDepth 100000
open PySem PySem.W PySem.Calls PyProof.Rows PySem.Spec
open Builtin Builtin.Str
theorem nolen_lr : typeLookup (.type "list_reverseiterator") "__len__" = pure none := by (refine rwt (typeLookup_type ..) ?_; refine rwt builtinLookup_eq_fast ?_); kernel_rfl
theorem hint_lr : typeLookup (.type "list_reverseiterator") "__length_hint__" = pure (some (.builtin "list_reverseiterator.__length_hint__")) := by (refine rwt (typeLookup_type ..) ?_; refine rwt builtinLookup_eq_fast ?_); kernel_rfl
section
variable {prog : Program} {w : World} {A : Around} {E : Value → Shared → Prop} {s : Shared} {I : Addr} {fp wr : List Addr} {G : Array GenState → Array GenState → Prop} {n : Nat} {P : Nat → Value → Prop} {St : Nat → Shared → Prop}
/-- a reversed list's iterator, taken whole -/
theorem collect_rev {Q : List Value → Shared → Prop} (W : WalksS prog w A.in1 I fp wr G n P St) (hT : ∀ i s, St i s → s.TypeIs (.ref I) "list_reverseiterator") (hst : St 0 s) (hfp : ∀ b ∈ fp, b < s.heap.objs.size) (hI : I ∈ fp)
    (hQ : ∀ s' acc, Moved wr G s s' → ItemsOf P acc n → Q acc.toList s') (hn : n ≤ sizeLine) : wpAny (model prog w) A (collect (.ref I)) Q E s := by
  have hSf : s.heap.objs.size ∉ fp := fun hm => Nat.lt_irrefl _ (hfp _ hm)
  have hSI : s.heap.objs.size ≠ I := fun e => hSf (e ▸ hI)
  unfold collect
  refine wpAny_bind (wpAny_runValue (codeAny_builtin F.entry_proto_collect ?_))
  (refine rwt (Around.under_plainId F.plain_proto_collect _) ?_)
  show wpAny _ A.in1 (newList [] >>= fun l => again (.builtin "list.__iadd__" ⟨[l, .ref I], []⟩)) _ _ s
  refine wpAny_bind (wpAny_newObj_type ?_)
  refine wpAny_pure ⟨plainId_quiet F.plain_list_iadd _, codeAny_builtin F.entry_list_iadd ?_⟩
  (refine rwt (Around.under_plainId F.plain_list_iadd _) ?_)
  have hst₁ := W.frame 0 s (s.heap.push { cls := .type "list", data := .seq ([] : List Value).toArray }) s.toks hst (Nat.le_refl _) fun b _ o e => Heap.get?_push_of_some _ e
  have hS₁ : (s.heap.push { cls := .type "list", data := .seq ([] : List Value).toArray }).get? s.heap.objs.size = some { cls := .type "list", data := .seq ([] : List Value).toArray } := Heap.get?_push_size _ rfl
  have h1 : Builtin.List.listSameRef (.ref s.heap.objs.size) (.ref I) = false := by simp [Builtin.List.listSameRef, hSI]
  show wpAny _ A.in1 (Builtin.List.listExtendWith (.ref s.heap.objs.size) (.ref I) (.ref s.heap.objs.size)) _ _ _
  unfold Builtin.List.listExtendWith
  refine wpAny_bind (wpAny_typeOf (hT 0 _ hst₁) ?_)
  (refine rwt (if_neg (by rw [h1]; decide)) ?_)
  refine wpAny_bind (W.self 0 _ _ _ hst₁ ?_)
  refine wpAny_bind (wpAny_holding ?_)
  unfold Builtin.List.listLengthHint
  refine wpAny_bind (wpAny_specialOf (hT 0 _ hst₁) nolen_lr ?_)
  show wpAny _ A.in1 (specialOf (Value.ref I) (Str.ofString "__length_hint__") >>= _) _ _ _
  refine wpAny_bind (wpAny_specialOf (hT 0 _ hst₁) hint_lr ?_)
  (generalize hid : ("list_reverseiterator.__length_hint__" : String) = id0; (fail_if_success (clear hid id0)); wp_delta; (refine rwt (show splitId id0 = some ("list_reverseiterator", "__length_hint__") from by subst hid; decide +kernel) ?_); subst hid)
  refine wpAny_bind (wpAny_isInstance (b := true) (hT 0 _ hst₁) (by (refine rwt (isSubtype_type ..) ?_); kernel_rfl) ?_)
  refine wpAny_pure ?_
  (refine rwt (if_neg (by decide)) ?_)
  refine wpAny_pure ⟨plainId_quiet F.plain_extend_loop _, codeAny_extend_loopS W hn _ hSf _ n 0 _ _ _ rfl (Nat.zero_le _) hst₁ hS₁ (ItemsOf.nil P) fun s' acc' c' hm hS' hacc => ?_⟩
  show wpAny _ A (load s.heap.objs.size >>= _) _ _ s'
  refine wpAny_bind (wpAny_load hS' ?_)
  exact wpAny_pure (hQ s' acc' (Moved.drop_new (o := { cls := .type "list", data := .seq ([] : List Value).toArray }) (tk := s.toks) hm (Nat.le_refl _)) hacc)
/-- sep.join(reversed(list)) -/
theorem join_rev {x : Str} {t : Tok} {Q : Value → Shared → Prop} (W : WalksS prog w A.in1.in1 I fp wr G n P St) (hT : ∀ i s, St i s → s.TypeIs (.ref I) "list_reverseiterator") (hst : St 0 s) (hfp : ∀ b ∈ fp, b < s.heap.objs.size) (hI : I ∈ fp)
    (hstr : ∀ i v, P i v → ∃ y u, v = Value.str y u)
    (hq : ∀ s' (l : List (Str × Tok)), Moved wr G s s' → ItemsOf P (strValues l).toArray n → JoinOk x (l.map (·.1)) = true ∧ ∀ t' k, Q (.str (Txt.join x (l.map (·.1))) t') { s' with toks := k })
    (hsz : n ≤ sizeLine) : wpAny (model prog w) A (call (.builtin "str.join") [.str x t, .ref I]) Q E s := by
  refine wpAny_call (codeAny_call_builtin F.slot_str_join.plain F.entry_str_join (F.slot_str_join.check _ _ _ _ _ _ _ _ (typeIs_str _ _ _) (F.args_str_join_2 _ _) ?_))
  (refine rwt (join_tree_other ..) ?_)
  refine wpAny_bind (wpAny_typeOf (hT 0 s hst) ?_)
  show wpAny _ A.in1 ((pyIter (.ref I)).tryCatch _ >>= fun it => collect it >>= fun items => joinTail x items) _ _ s
  refine wpAny_bind (wpAny_tryCatch (W.of_in1.self 0 s _ _ hst ?_))
  refine wpAny_bind (collect_rev W hT hst hfp hI (fun s' acc hm hacc => ?_) hsz)
  obtain ⟨l, hl⟩ := exists_strValues acc.toList fun v hv => by
    obtain ⟨j, hj, rfl⟩ := Array.mem_iff_getElem.mp (Array.mem_toList_iff.mp hv)
    exact hstr j _ (hacc.2 j _ (Array.getElem?_eq_getElem hj))
  (refine rws hl ?_)
  have hacc' : ItemsOf P (strValues l).toArray n := by (refine rwt hl ?_); simpa using hacc
  obtain ⟨hok, hpost⟩ := hq s' l hm hacc'
  unfold JoinOk at hok
  rw [Bool.not_eq_true'] at hok
  have g : Gives (joinTail x (strValues l)) (joinMade x l) := by
    have g0 := gives_joinTail x l hok
    cases l with
    | nil => exact g0
    | cons p r => cases r with
      | nil => exact g0
      | cons q r' => exact g0
  exact g prog w A (wants Q E) s' (post_join l ⟨joinFit_length hok, hpost⟩)
end

theorem glued_units : ∀ (cs : List Nat) (acc : Array Nat), (cs.map fun c => (⟨#[c]⟩ : Str)).foldl (fun acc p => acc ++ (⟨#[]⟩ : Str).cps ++ p.cps) acc = acc ++ cs.toArray
  | [], acc => by simp
  | c :: cs, acc => by
    (refine rwt List.map_cons ?_; refine rwt List.foldl_cons ?_; rewrite [glued_units cs])
    apply Array.ext'
    simp
theorem join_units (cs : List Nat) : Txt.join ⟨#[]⟩ (cs.map fun c => (⟨#[c]⟩ : Str)) = ⟨cs.toArray⟩ := by
  unfold Txt.join glued
  cases cs with
  | nil => rfl
  | cons c cs =>
    (refine rwt List.map_cons ?_; refine rwt List.drop_succ_cons ?_; refine rwt List.drop_zero ?_; refine rwt (glued_units ..) ?_)
    congr 1
    apply Array.ext'
    simp
theorem joinOk_units (cs : List Nat) (h : cs.length ≤ 1000000) : JoinOk ⟨#[]⟩ (cs.map fun c => (⟨#[c]⟩ : Str)) = true := by
  have key : ∀ (cs : List Nat) (k : Nat), (cs.map fun c => (⟨#[c]⟩ : Str)).foldl (fun n s => n + s.length + (⟨#[]⟩ : Str).length) k = k + cs.length := by
    intro cs
    induction cs with
    | nil => intro k; rfl
    | cons c cs ih => intro k; (refine rwt List.map_cons ?_; refine rwt List.foldl_cons ?_; refine rwt (ih ..) ?_; refine rwt List.length_cons ?_); show k + 1 + 0 + cs.length = _; exact oq205
  unfold JoinOk
  (refine rwt (List.foldl_toArray ..) ?_; refine rwt (key ..) ?_)
  unfold tooLong
  (refine rwt sizeLine_eq ?_)
  simp; exact oq15 h
section
variable {g : Gl} {f : Fm} {n : Nat} {σ : Vars}
theorem rest_of_moved {wr : List Addr} {s s' : Shared} (h : Moved wr (fun a b => b = a) s s') : Rest s s' := by
  obtain ⟨_, h2, h3, h4, _⟩ := h
  refine ⟨s'.heap, s'.toks, ?_⟩
  obtain ⟨a, b, c, d, e⟩ := s
  obtain ⟨a', b', c', d', e'⟩ := s'
  dsimp only at h2 h3 h4
  subst h2 h3 h4
  rfl
theorem Is.strInv {R : Led} {x y : Str} {t : Tok} (h : Is R (.str x t) (.str y)) : x = y := by cases h; rfl
/-- ''.join(reversed(a list of single signs)) -/
theorem EV.joinRev {c e : Expr} {ap p p2 cp : Pos} {cs : List Nat} (hc : EV g f n σ c (.str ⟨#[]⟩)) (he : EV g f n σ e (.list (cs.map fun c => .str ⟨#[c]⟩))) (hz : cs.length ≤ 1000000) (hg : nsIn g.K mainGlobals "reversed" = some none)
    (hs : starEach [e] f.env = [(false, eval e f.env)] := by rfl) (hk : f.env.scope.kind = .function := by rfl) (hx : f.env.kindOf "reversed" = some .globalImplicit := by rfl)
    (hgl : f.env.globals = mainGlobals := by rfl) (hbu : f.env.builtins = builtinsNs := by rfl)
    (hs2 : starEach [.Call (.Name "reversed" p) [e] [] p2] f.env = [(false, eval (.Call (.Name "reversed" p) [e] [] p2) f.env)] := by rfl)
    (hm : ∃ pl, eval (.Call (.Attribute c "join" ap) [.Call (.Name "reversed" p) [e] [] p2] [] cp) f.env = (do
      let ov ← eval c f.env
      standAt ap.atName
      let (f', first) ← holding [ov] (getMethod ov "join" pl)
      callWith cp f' first (backTo cp (starEach [.Call (.Name "reversed" p) [e] [] p2] f.env)) []) := by exact ⟨_, rfl⟩) :
    EV g f n σ (.Call (.Attribute c "join" ap) [.Call (.Name "reversed" p) [e] [] p2] [] cp) (.str ⟨cs.reverse.toArray⟩) :=
  fun A E s R Q hA hS q => by
    refine xe1_1 hm fun pl hm => ?_
    refine MethodCall_ (hc A E s R _ hA hS fun v₀ R₀ s₀ r₀ i₀ => ?_) hm
    (first | refine Is.eInt i₀ fun _ => ?_ | refine Is.eFn i₀ ?_ | refine Is.eBool i₀ ?_ | refine Is.eStr i₀ fun _ => ?_ | refine Is.eNone i₀ ?_ | cases i₀)
    refine GM.join (callWith_method1 ?_ hs2)
    refine wpAny_items_cons (Call_Name1 (name_bi (hS.gr r₀) hg (show bootBuiltins "reversed" = some (.type "reversed") by decide +kernel) (PyProof.Rows.callWith_type rfl (evalArgs_plain (spliced_cons (he A E s₀ R₀ _ hA (hS.gr r₀) fun v R₁ s₁ r₁ i₁ => spliced_nil ?_)))) (by decide) hk hx hgl hbu) hs) hs2
    cases i₁ with
    | list hm ha =>
      rename_i a vs k
      have hl : s₁.heap.IsList a vs.toArray := ⟨_, r₁.led _ hm, rfl, _, rfl⟩
      have hlt : a < s₁.heap.objs.size := Heap.lt_size (r₁.led _ hm)
      refine call_reversed_list hl (wpAny_items_nil ?_)
      have hlen : vs.length = cs.length := by (refine rwt ha.length ?_; refine rwt (List.length_map ..) ?_; with_reducible rfl)
      have r₂ : Gr R₁ s₁ R₁ { s₁ with heap := s₁.heap.push (revObj a ((vs.toArray.size : Int) - 1)) } := .grow (tk := s₁.toks) r₁.led fun b o e => Heap.get?_push_of_some _ e
      have hit : (s₁.heap.push (revObj a ((vs.toArray.size : Int) - 1))).IsRevIter s₁.heap.objs.size a ((vs.toArray.size : Int) - 1 - ((0 : Nat) : Int)) := ⟨_, Heap.get?_push_size _ rfl, rfl, by simp [revObj]⟩
      refine join_rev (s := { s₁ with heap := s₁.heap.push (revObj a ((vs.toArray.size : Int) - 1)) }) (Walks.listRev (prog := g.prog) (w := g.w) (A := A.in1.in1) hA.hd s₁.heap.objs.size a (Nat.ne_of_lt hlt) vs.toArray).toS (fun i s h => h.2.1.typeIs) ⟨Nat.zero_le _, hit, hl.push _⟩ ?_ (.head _) ?_ (fun s' l hmv hits => ?_) (by (refine rwt List.size_toArray ?_; refine rwt hlen ?_; refine rwt sizeLine_eq ?_); exact oq15 hz)
      · intro b hb
        rcases List.mem_cons.mp hb with rfl | hb
        · exact Heap.lt_size (Heap.get?_push_size s₁.heap rfl)
        · (refine rwt (List.mem_singleton.mp hb) ?_); exact Heap.lt_size (Heap.get?_push_of_some _ (r₁.led _ hm))
      · intro i v hv
        have hv' : vs[vs.toArray.size - 1 - i]? = some v := by simpa using hv
        refine xe1_2 (ha.getV hv') fun d hd iv => ?_
        rw [List.getElem?_map] at hd
        refine xe1_2 (Option.map_eq_some_iff.mp hd) fun c _ e_1 => ?_
        subst e_1
        (first | refine Is.eInt iv fun _ => ?_ | refine Is.eFn iv ?_ | refine Is.eBool iv ?_ | refine Is.eStr iv fun _ => ?_ | refine Is.eNone iv ?_ | cases iv)
        exact ⟨_, _, rfl⟩
      · have hll : l.length = cs.length := by
          have := hits.1
          simp [strValues] at this
          exact oq206 hlen this
        have htx : l.map (·.1) = cs.reverse.map fun c => (⟨#[c]⟩ : Str) := by
          apply List.ext_getElem?
          intro j
          by_cases hj : j < cs.length
          · have h1 : (strValues l).toArray[j]? = some (.str (l[j]'(by exact oq207 hll hj)).1 (l[j]'(by exact oq207 hll hj)).2) := by
              simp [strValues, List.getElem?_eq_getElem (show j < l.length by exact oq207 hll hj)]
            have h2 := hits.2 j _ h1
            have h2' : vs[vs.length - 1 - j]? = some (.str (l[j]'(by exact oq207 hll hj)).1 (l[j]'(by exact oq207 hll hj)).2) := by simpa using h2
            refine xe1_2 (ha.getV h2') fun d hd iv => ?_
            rw [List.getElem?_map, hlen] at hd
            refine xe1_2 (Option.map_eq_some_iff.mp hd) fun c hc e_1 => ?_
            subst e_1
            (refine rwt List.getElem?_map ?_; refine rwt (List.getElem?_eq_getElem (show j < l.length by exact oq207 hll hj)) ?_; refine rwt List.getElem?_map ?_; refine rwt (List.getElem?_reverse hj) ?_; refine rwt hc ?_)
            simp only [Option.map_some]
            (refine rwt iv.strInv ?_; with_reducible rfl)
          · (refine rwt (List.getElem?_eq_none (by simp; exact oq208 hj hll)) ?_; refine rwt (List.getElem?_eq_none (by simp; exact oq209 hj)) ?_; with_reducible rfl)
        (refine rwt htx ?_)
        refine ⟨joinOk_units _ (by (refine rwt List.length_reverse ?_); exact hz), fun t' k => ?_⟩
        (refine rwt (join_units ..) ?_)
        have fresh : ∀ p ∈ R₁, p.1 ≠ s₁.heap.objs.size := fun p hp => Nat.ne_of_lt (Heap.lt_size (r₁.led p hp))
        have ext₃ : ∀ b o, s₁.heap.get? b = some o → s'.heap.get? b = some o := fun b o e => hmv.heap b o (by rw [List.mem_singleton]; exact Nat.ne_of_lt (Heap.lt_size e)) (Heap.get?_push_of_some _ e)
        have rs : Rest s₁ { s' with toks := k } := by
          refine xe2_1 (rest_of_moved hmv) fun h tk e => ?_
          exact ⟨h, k, by (refine rwt e ?_; with_reducible rfl)⟩
        have r₃ : Gr R₁ s₁ R₁ { s' with toks := k } := ⟨rs, ext₃, fun _ h => h, fun _ h => .inl h, fun p hp => ext₃ _ _ (r₁.led p hp)⟩
        exact q _ R₁ _ ((r₀.trans r₁).trans r₃) (.str _ _)
/-- x.find(y) -/
theorem EV.find {o e : Expr} {ap cp : Pos} {x y : Str} (ho : EV g f n σ o (.str x)) (he : EV g f n σ e (.str y))
    (hs : starEach [e] f.env = [(false, eval e f.env)] := by rfl)
    (hm : ∃ pl, eval (.Call (.Attribute o "find" ap) [e] [] cp) f.env = (do
      let ov ← eval o f.env
      standAt ap.atName
      let (f', first) ← holding [ov] (getMethod ov "find" pl)
      callWith cp f' first (backTo cp (starEach [e] f.env)) []) := by exact ⟨_, rfl⟩) : EV g f n σ (.Call (.Attribute o "find" ap) [e] [] cp) (.int (Txt.find x y)) :=
  fun A E s R Q hA hS q => by
    obtain ⟨pl, hm⟩ := hm
    refine MethodCall_ (ho A E s R _ hA hS fun v₀ R₀ s₀ r₀ i₀ => ?_) hm
    (first | refine Is.eInt i₀ fun _ => ?_ | refine Is.eFn i₀ ?_ | refine Is.eBool i₀ ?_ | refine Is.eStr i₀ fun _ => ?_ | refine Is.eNone i₀ ?_ | cases i₀)
    refine GM.find (callWith_method1 (wpAny_items_cons (he A E s₀ R₀ _ hA (hS.gr r₀) fun v₁ R₁ s₁ r₁ i₁ => wpAny_items_nil ?_) hs) hs)
    (first | refine Is.eInt i₁ fun _ => ?_ | refine Is.eFn i₁ ?_ | refine Is.eBool i₁ ?_ | refine Is.eStr i₁ fun _ => ?_ | refine Is.eNone i₁ ?_ | cases i₁)
    exact SC.find (q _ R₁ _ ((r₀.trans r₁).trans (.toks r₁.led)) (.int _ _))
/-- x.lower() -/
theorem EV.lower {o : Expr} {ap cp : Pos} {x : Str} (ho : EV g f n σ o (.str x)) (hz : x.length ≤ 100000)
    (hm : ∃ pl, eval (.Call (.Attribute o "lower" ap) [] [] cp) f.env = (do
      let ov ← eval o f.env
      standAt ap.atName
      let (f', first) ← holding [ov] (getMethod ov "lower" pl)
      callWith cp f' first (backTo cp (starEach [] f.env)) []) := by exact ⟨_, rfl⟩) : EV g f n σ (.Call (.Attribute o "lower" ap) [] [] cp) (.str (Txt.lower x)) :=
  fun A E s R Q hA hS q => by
    obtain ⟨pl, hm⟩ := hm
    refine MethodCall_ (ho A E s R _ hA hS fun v₀ R₀ s₀ r₀ i₀ => ?_) hm
    (first | refine Is.eInt i₀ fun _ => ?_ | refine Is.eFn i₀ ?_ | refine Is.eBool i₀ ?_ | refine Is.eStr i₀ fun _ => ?_ | refine Is.eNone i₀ ?_ | cases i₀)
    refine GM.lower (callWith_method0 ?_)
    exact SC.lower (fit_lower (by exact oq210 hz)) (q _ R₀ _ (r₀.trans (.toks r₀.led)) (.str _ _))
end
end
section
set_option maxHeartbeats 1000000
set_option maxRecDepth 100000
open PySem PySem.W PySem.Calls PyProof.Rows PySem.Spec
open Builtin Builtin.Str
/-- a text by its signs -/
abbrev TX (l : List Nat) : D := .str ⟨l.toArray⟩
theorem tx_len (l : List Nat) : (⟨l.toArray⟩ : Str).length = l.length := by simp [Str.length]
theorem tx_add (l m : List Nat) : (⟨l.toArray⟩ : Str) ++ ⟨m.toArray⟩ = ⟨(l ++ m).toArray⟩ := by
  apply Str.ext'
  simp [Str.cps_append]
theorem OP.addTX {g : Gl} {l m : List Nat} (hz : l.length + m.length ≤ 1000000) : OP g .Add (TX l) (TX m) (TX (l ++ m)) := by
  have := OP.addS (g := g) (x := ⟨l.toArray⟩) (y := ⟨m.toArray⟩) (by (refine rwt (tx_len ..) ?_; refine rwt (tx_len ..) ?_); exact hz)
  rwa [tx_add] at this
theorem CMP.eqTX {g : Gl} {l m : List Nat} : CMP g .Eq (TX l) (TX m) (l == m) := by
  have := CMP.eqS (g := g) (x := ⟨l.toArray⟩) (y := ⟨m.toArray⟩)
  simpa using this
section
variable {g : Gl} {f : Fm} {n : Nat} {σ : Vars}
theorem EV.sliceTX {v : Expr} {lo hi : Option Expr} {p pos : Pos} {l : List Nat} {l₀ u₀ : Option Int} {a b : Nat} (hv : EV g f n σ v (TX l)) (hl : PT g f n σ lo l₀) (hu : PT g f n σ hi u₀) (hz : l.length ≤ 1000000)
    (e : strSliceIndices l₀ u₀ 1 l.length = strSliceIndices (some (a : Int)) (some (b : Int)) 1 l.length) (hab : a ≤ b) (hb : b ≤ l.length)
    (ht : ∀ o r, letTemporaryGo v o r = pure () := by intro _ _; rfl) : EV g f n σ (.Subscript v (.Slice lo hi none p) pos) (TX ((l.drop a).take (b - a))) := by
  refine EV.sliceS hv hl hu (by (refine rwt (tx_len ..) ?_; refine rwt List.length_take ?_; refine rwt List.length_drop ?_); exact oq211 hz) (fun l' u' e1 e2 => ?_) ht
  have hp : slicePicked ⟨l.toArray⟩ l' u' none = strSliceIndices (some (a : Int)) (some (b : Int)) 1 (⟨l.toArray⟩ : Str).length := by
    unfold slicePicked
    (refine rwt e1 ?_; refine rwt e2 ?_; refine rwt (tx_len ..) ?_)
    exact e
  have hs := StrLaws.sliced_plain ⟨l.toArray⟩ hab (by (refine rwt (tx_len ..) ?_); exact hb)
  (refine rwt hp ?_; refine rwt hs ?_)
  split
  · rename_i h
    have h2 := StrLaws.strSliceIndices_plain hab (show b ≤ (⟨l.toArray⟩ : Str).length by (refine rwt (tx_len ..) ?_); exact hb)
    rw [h2, List.length_map, List.length_range, tx_len] at h
    have h := eq_of_beq h
    have ha : a = 0 := by exact oq212 h hab hb
    have hb' : b - a = l.length := h
    (refine rwt hb' ?_; refine rwt ha ?_; refine rwt List.drop_zero ?_; refine rwt List.take_length ?_; with_reducible rfl)
  · simp
theorem ssi_upto (b len : Nat) (hb : b ≤ len) : strSliceIndices none (some (b : Int)) 1 len = strSliceIndices (some ((0 : Nat) : Int)) (some (b : Int)) 1 len := by
  unfold strSliceIndices
  dsimp only
  congr 1
theorem ssi_from (a len : Nat) (ha : a ≤ len) : strSliceIndices (some (a : Int)) none 1 len = strSliceIndices (some (a : Int)) (some (len : Int)) 1 len := by
  unfold strSliceIndices
  dsimp only
  congr 1
  (rewrite [if_pos (by decide)]; refine rwt (if_pos (by decide)) ?_; refine rwt (if_neg (by exact oq213)) ?_)
  exact oq214
theorem ssi_over (len : Nat) (hl : len = 0) : strSliceIndices none (some (1 : Int)) 1 len = strSliceIndices (some ((0 : Nat) : Int)) (some ((0 : Nat) : Int)) 1 len := by
  subst hl; decide
/-- text[:b] -/
theorem EV.takeTX {v hi : Expr} {p pos : Pos} {l : List Nat} {b : Nat} (hv : EV g f n σ v (TX l)) (hu : EV g f n σ hi (.int (b : Int))) (hz : l.length ≤ 1000000) (hb : b ≤ l.length)
    (ht : ∀ o r, letTemporaryGo v o r = pure () := by intro _ _; rfl) : EV g f n σ (.Subscript v (.Slice none (some hi) none p) pos) (TX (l.take b)) := by
  have := EV.sliceTX (p := p) (pos := pos) hv .none (.some hu) hz (ssi_upto b l.length hb) (Nat.zero_le _) hb ht
  simpa using this
/-- text[a:] -/
theorem EV.dropTX {v lo : Expr} {p pos : Pos} {l : List Nat} {a : Nat} (hv : EV g f n σ v (TX l)) (hu : EV g f n σ lo (.int (a : Int))) (hz : l.length ≤ 1000000) (ha : a ≤ l.length)
    (ht : ∀ o r, letTemporaryGo v o r = pure () := by intro _ _; rfl) : EV g f n σ (.Subscript v (.Slice (some lo) none none p) pos) (TX (l.drop a)) := by
  have := EV.sliceTX (p := p) (pos := pos) hv (.some hu) .none hz (ssi_from a l.length ha) ha (Nat.le_refl _) ht
  rwa [List.take_of_length_le (by (refine rwt List.length_drop ?_); exact Nat.le_refl _)] at this
/-- text[a:b] -/
theorem EV.midTX {v lo hi : Expr} {p pos : Pos} {l : List Nat} {a b : Nat} (hv : EV g f n σ v (TX l)) (hu : EV g f n σ lo (.int (a : Int))) (hw : EV g f n σ hi (.int (b : Int))) (hz : l.length ≤ 1000000) (hab : a ≤ b) (hb : b ≤ l.length)
    (ht : ∀ o r, letTemporaryGo v o r = pure () := by intro _ _; rfl) : EV g f n σ (.Subscript v (.Slice (some lo) (some hi) none p) pos) (TX ((l.drop a).take (b - a))) :=
  EV.sliceTX (p := p) (pos := pos) hv (.some hu) (.some hw) hz rfl hab hb ht
/-- text[:1], of any text -/
theorem EV.headTX {v hi : Expr} {p pos : Pos} {l : List Nat} (hv : EV g f n σ v (TX l)) (hu : EV g f n σ hi (.int 1)) (hz : l.length ≤ 1000000)
    (ht : ∀ o r, letTemporaryGo v o r = pure () := by intro _ _; rfl) : EV g f n σ (.Subscript v (.Slice none (some hi) none p) pos) (TX (l.take 1)) := by
  cases l with
  | nil => exact EV.sliceTX (a := 0) (b := 0) hv .none (.some hu) hz (ssi_over _ rfl) (Nat.le_refl _) (Nat.le_refl _) ht
  | cons c l => exact EV.takeTX (b := 1) hv hu hz (by simp) ht

/-- a <= b < c as a test -/
theorem TR.cmp2 {l r₁ r₂ : Expr} {op₁ op₂ : CmpOp} {pos : Pos} {d₀ d₁ d₂ : D} {b₁ b₂ : Bool} (h₀ : EV g f n σ l d₀) (h₁ : EV g f n σ r₁ d₁) (h₂ : EV g f n σ r₂ d₂) (o₁ : CMP g op₁ d₀ d₁ b₁) (o₂ : CMP g op₂ d₁ d₂ b₂)
    (hm : lastMarks [op₁, op₂] [r₁, r₂] = false := by with_unfolding_all rfl) : TR g f n σ (.Compare l [op₁, op₂] [r₁, r₂] pos) (b₁ && b₂) :=
  fun A E s R Q hA hS q => isTrue_chain (h₀ A E s R _ hA hS fun v₀ R₀ s₀ r₀ i₀ => test_link (h₁ A E s₀ R₀ _ hA (hS.gr r₀) fun v₁ R₁ s₁ r₁ i₁ =>
    o₁ A E s₁ R₁ v₀ v₁ _ (hA.le (Nat.zero_le _)) r₁.led (i₀.mono r₁.sub) i₁ fun tk => wpAny_truthy_bool (by
      have r₁' := (r₀.trans r₁).trans (.toks (tk := tk) r₁.led)
      cases b₁ with
      | false => exact q R₁ _ r₁'
      | true =>
        refine test_last (h₂ A E _ R₁ _ hA (hS.gr r₁') fun v₂ R₂ s₂ r₂ i₂ => o₂ A E s₂ R₂ v₁ v₂ _ (hA.le (Nat.zero_le _)) r₂.led (i₁.mono r₂.sub) i₂ fun tk₂ => wpAny_truthy_bool ?_)
        exact q R₂ _ ((r₁'.trans r₂).trans (.toks r₂.led))))) hm
end
theorem find_out {l : List Nat} {c : Nat} (h : c ∉ l) : Txt.find ⟨l.toArray⟩ ⟨#[c]⟩ = -1 := by
  unfold Txt.find
  rcases StrLaws.occ_head ⟨l.toArray⟩ ⟨#[c]⟩ 1 (Nat.le_refl _) with ⟨e, _⟩ | ⟨i, r, e, ha, _⟩
  · (refine rwt e ?_; with_reducible rfl)
  · exact absurd (List.mem_of_getElem? (by simpa using (StrLaws.subAt_one ⟨l.toArray⟩ c i).mp ha)) h
theorem find_at {l m : List Nat} {c : Nat} (h : c ∉ l) : Txt.find ⟨(l ++ c :: m).toArray⟩ ⟨#[c]⟩ = (l.length : Int) := by
  unfold Txt.find
  have hat : StrLaws.At ⟨(l ++ c :: m).toArray⟩ ⟨#[c]⟩ (⟨(l ++ c :: m).toArray⟩ : Str).length l.length := (StrLaws.subAt_one _ _ _).mpr (by simp)
  rcases StrLaws.occ_head ⟨(l ++ c :: m).toArray⟩ ⟨#[c]⟩ 1 (Nat.le_refl _) with ⟨e, hn⟩ | ⟨i, r, e, ha, hlt⟩
  · exact absurd hat (hn _)
  · (refine rwt e ?_)
    have h1 := (StrLaws.subAt_one _ _ _).mp ha
    have h2 : (l ++ c :: m)[i]? = some c := by simpa using h1
    rcases Nat.lt_trichotomy i l.length with hi | hi | hi
    · rw [List.getElem?_append_left hi] at h2
      exact absurd (List.mem_of_getElem? h2) h
    · show (i : Int) = _; (refine rwt hi ?_; with_reducible rfl)
    · exact absurd hat (hlt _ hi)
end
section
set_option maxHeartbeats 1000000
open PySem PySem.W PySem.Calls PyProof.Rows PySem.Spec

/-! ## an exception on its way -/
/-- the exception's object and its last entry -/
def Tr (B : Heap) (e : Addr) (cls : Value) (dd : Option Addr) (fl : Value) (h : Heap) : Prop :=
  ∃ oe vs T oT ts, h.get? e = some oe ∧ (oe.cls = cls ∧ oe.dict = dd) ∧ oe.data = .fields vs ∧ vs[1]? = some (.ref T) ∧ B.get? T = none ∧ T ≠ e ∧ h.get? T = some oT ∧ oT.data = .fields ts ∧ ts[3]? = some fl
/-- an exception just made -/
def Nw (e : Addr) (cls : Value) (dd : Option Addr) (h : Heap) : Prop :=
  ∃ oe vs, h.get? e = some oe ∧ (oe.cls = cls ∧ oe.dict = dd) ∧ oe.data = .fields vs ∧ vs[1]? = some .none
structure Exc (B : Heap) (l : List Env) (e : Addr) (cls : Value) (dd : Option Addr) (h : Heap) : Prop where
  stays : B.StaysIn h
  new : B.get? e = none
  frames : h.FunFrames B l
  tr : Nw e cls dd h ∨ Tr B e cls dd .none h ∨ ∃ env outer L, l = env :: outer ∧ env.frame = some L ∧ Tr B e cls dd (rawInt L) h
section
variable {M : Model} {A : Around} {E : Value → Shared → Prop} {s : Shared}
theorem noFields {h : Heap} {b e : Addr} {o oe : Obj} {vs : Array Value} (he : h.get? e = some oe) (hd : oe.data = .fields vs) (hb : h.get? b = some o) (hn : ∀ vs, o.data ≠ .fields vs) : b ≠ e := fun q => by
  rw [q, he] at hb; cases hb; exact hn vs hd
theorem dict_mapFields (o : Obj) (f : Array Value → Array Value) : (o.mapFields f).dict = o.dict := by obtain ⟨c, d, dt, sl⟩ := o; cases dt <;> rfl
/-- the entry for this frame, made and hung in -/
theorem entry_ {B : Heap} {env : Env} {outer : List Env} {L e : Addr} {oe : Obj} {vs : Array Value} {head : Value} {hadNext : Bool} {Q : Unit → Shared → Prop} (hfr : A.frames = some (env :: outer)) (hf : env.frame = some L)
    (kb : B.StaysIn s.heap) (hen : B.get? e = none) (hl : s.heap.FunFrames B (env :: outer)) (he : s.heap.get? e = some oe) (hd : oe.data = .fields vs) (hsz : 1 < vs.size)
    (h : ∀ h', B.StaysIn h' → h'.FunFrames B (env :: outer) → Tr B e oe.cls oe.dict (rawInt L) h' → s.heap.UpToSlots h' → Q () { s with heap := h' }) :
    wpAny M A (do let a ← frameOf env; let pl ← entryPlaceOf L hadNext; let b ← EntryCells.newEntry head a .none (rawInt L) .none pl; setField (.ref e) 1 b) Q E s := by
  have hene : e ∉ (env :: outer).filterMap (·.frame) := fun hm => by
    obtain ⟨_, o, ho, hnf⟩ := hl.mem hm
    exact noFields he hd ho hnf rfl
  refine wpAny_bind (wpAny_frameOf_fun hfr hl hf fun h₁ hs₁ => wpAny_bind (wpAny_entryPlaceOf fun pl hpl => ?_))
  unfold EntryCells.newEntry newFields
  refine wpAny_bind (wpAny_newObj_type ?_ (hpl.sizeOk5 _ _ _ _ _))
  have he₁ : h₁.get? e = some oe := (hs₁.2.1 e hene).trans he
  have kb₁ : B.StaysIn h₁ := fun b o hb => (hs₁.2.1 b fun hm => by rw [(hl.mem hm).1] at hb; cases hb).trans (kb b o hb)
  generalize hTo : ({ cls := Value.type "traceback", dict := none, data := Data.fields ([head, .ref L, .none, rawInt L, .none] ++ (if pl.isEmpty then List.replicate 6 Value.none else pl)).toArray } : Obj) = oT
  have hdT : oT.data = .fields ([head, .ref L, .none, rawInt L, .none] ++ (if pl.isEmpty then List.replicate 6 Value.none else pl)).toArray := by (refine rws hTo ?_; with_reducible rfl)
  have hfT : oT.isFreed = false := by (refine rws hTo ?_); rfl
  have he₂ : (h₁.push oT).get? e = some oe := Heap.get?_push_of_some _ he₁
  refine wpAny_setField he₂ hd hsz (h _ ?_ ?_ ?_ ?_)
  all_goals
    have hTe : h₁.objs.size ≠ e := Nat.ne_of_gt (Heap.lt_size he₁)
    have hd₃ := Obj.data_mapFields hd (·.setIfInBounds 1 (Value.ref h₁.objs.size))
    have keep : ∀ b o, b ≠ e → h₁.get? b = some o → ((h₁.push oT).update e (Obj.mapFields (·.setIfInBounds 1 (Value.ref h₁.objs.size)))).get? b = some o := fun b o hbe hb => by
      (refine rwt (Heap.get?_update_other _ _ (Ne.symm hbe)) ?_)
      exact Heap.get?_push_of_some _ hb
  · exact fun b o hb => keep b o (fun q => by rw [q, hen] at hb; cases hb) (kb₁ b o hb)
  · refine hl.of_keeps fun b o hb hnf => ?_
    obtain ⟨sl, hs⟩ := hs₁.2.2 b o hb
    exact ⟨_, keep b _ (noFields he hd hb hnf) hs, rfl⟩
  · refine ⟨_, _, h₁.objs.size, _, _, Heap.get?_update_self _ he₂ (Obj.isFreed_of_fields hd₃), ⟨Obj.cls_mapFields _ _, ?_⟩, hd₃, by simp [hsz], kb₁.fresh, hTe, (Heap.get?_update_other _ _ (Ne.symm hTe)).trans (Heap.get?_push_size h₁ hfT), hdT, by simp⟩
    exact dict_mapFields _ _
  · intro b o hb hnf
    obtain ⟨sl, hs⟩ := hs₁.2.2 b o hb
    exact ⟨sl, keep b _ (noFields he hd hb hnf) hs⟩
theorem note_ {B : Heap} {env : Env} {outer : List Env} {L e : Addr} {cls : Value} {dd : Option Addr} {Q : Unit → Shared → Prop} (hfr : A.frames = some (env :: outer)) (hf : env.frame = some L) (X : Exc B (env :: outer) e cls dd s.heap)
    (h : ∀ h', B.StaysIn h' → h'.FunFrames B (env :: outer) → Tr B e cls dd (rawInt L) h' → s.heap.UpToSlots h' → Q () { s with heap := h' }) : wpAny M A (noteFrame (.ref e) env) Q E s := by
  rcases X.tr with ⟨oe, vs, he, ⟨hc, hdd⟩, hd, h1⟩ | ⟨oe, vs, T, oT, ts, he, ⟨hc, hdd⟩, hd, h1, hnT, hTe, hT, hdT, h3⟩ | ⟨env', outer', L', hll, hf', oe, vs, T, oT, ts, he, ⟨hc, hdd⟩, hd, h1, hnT, hTe, hT, hdT, h3⟩
  · subst hc hdd
    unfold noteFrame
    simp only [hf]
    refine wpAny_bind (wpAny_field he hd h1 ?_)
    (refine rwt (if_neg (by decide)) ?_)
    exact entry_ hfr hf X.stays X.new X.frames he hd (Array.getElem?_eq_some_iff.mp h1).1 h
  · subst hc hdd
    have other : ∀ b, b ≠ T → (s.heap.update T (Obj.mapFields (·.setIfInBounds 3 Value.none))).get? b = s.heap.get? b := fun b hb => Heap.get?_update_other _ _ (Ne.symm hb)
    unfold noteFrame
    simp only [hf]
    refine wpAny_bind (wpAny_field he hd h1 ?_)
    (refine rwt (if_pos (show (Value.ref T != Value.none) = true from by simp)) ?_)
    refine wpAny_bind (wpAny_field hT hdT h3 ?_)
    (refine rwt (if_neg (show ¬ ((Value.none == rawInt L) = true) from by simp [rawInt])) ?_)
    refine wpAny_bind (wpAny_setField hT hdT (Array.getElem?_eq_some_iff.mp h3).1 ?_)
    refine entry_ (s := { s with heap := s.heap.update T (Obj.mapFields (·.setIfInBounds 3 Value.none)) }) hfr hf (fun b o hb => (other b fun q => by rw [q, hnT] at hb; cases hb).trans (X.stays b o hb)) X.new (X.frames.of_keeps fun b o hb hnf => ⟨o, (other b (noFields hT hdT hb hnf)).trans hb, rfl⟩) ((other e (Ne.symm hTe)).trans he) hd (Array.getElem?_eq_some_iff.mp h1).1
      fun h' x1 x2 x3 x4 => h h' x1 x2 x3 fun b o hb hnf => x4 b o ((other b (noFields hT hdT hb hnf)).trans hb) hnf
  · obtain ⟨rfl, rfl⟩ := List.cons.inj hll
    rw [hf] at hf'
    cases hf'
    unfold noteFrame
    simp only [hf]
    refine wpAny_bind (wpAny_field he hd h1 ?_)
    (refine rwt (if_pos (show (Value.ref T != Value.none) = true from by simp)) ?_)
    refine wpAny_bind (wpAny_field hT hdT h3 ?_)
    (refine rwt (if_pos (show (rawInt L == rawInt L) = true from by simp)) ?_)
    exact wpAny_pure (h _ X.stays X.frames ⟨oe, vs, T, oT, ts, he, ⟨hc, hdd⟩, hd, h1, hnT, hTe, hT, hdT, h3⟩ (.refl _))
theorem flight_ {B : Heap} {l : List Env} {e : Addr} {cls fl : Value} {dd : Option Addr} {Q : Unit → Shared → Prop} (kb : B.StaysIn s.heap) (hl : s.heap.FunFrames B l) (ht : Tr B e cls dd fl s.heap)
    (h : ∀ h', B.StaysIn h' → h'.FunFrames B l → Tr B e cls dd .none h' → s.heap.UpToSlots h' → Q () { s with heap := h' }) : wpAny M A (setFlight (.ref e) none) Q E s := by
  refine xe5_9 ht fun oe vs T oT ts he hcd hd h1 hnT hTe hT hdT h3 => ?_
  try clear ht
  have hsz : 3 < ts.size := (Array.getElem?_eq_some_iff.mp h3).1
  have other : ∀ b, b ≠ T → (s.heap.update T (Obj.mapFields (·.setIfInBounds 3 ((none : Option Addr).elim Value.none fun f => rawInt f)))).get? b = s.heap.get? b := fun b hb => Heap.get?_update_other _ _ (Ne.symm hb)
  unfold setFlight
  refine wpAny_bind (wpAny_field he hd h1 ?_)
  (refine rwt (if_pos (show (Value.ref T != Value.none) = true from by simp)) ?_)
  refine wpAny_setField hT hdT hsz (h _ (fun b o hb => (other b fun q => by rw [q, hnT] at hb; cases hb).trans (kb b o hb)) (hl.of_keeps fun b o hb hnf => ⟨o, (other b (noFields hT hdT hb hnf)).trans hb, rfl⟩)
    ⟨oe, vs, T, _, _, (other e (Ne.symm hTe)).trans he, hcd, hd, h1, hnT, hTe, Heap.get?_update_self _ hT (Obj.isFreed_of_fields (Obj.data_mapFields hdT _)), Obj.data_mapFields hdT _, by simp [hsz]⟩ fun b o hb hnf => ⟨o.slots, (other b (noFields hT hdT hb hnf)).trans hb⟩)
theorem leave_ {B : Heap} {env : Env} {outer : List Env} {L e : Addr} {cls : Value} {dd : Option Addr} {Q : Unit → Shared → Prop} (hfr : A.frames = some (env :: outer)) (hf : env.frame = some L) (X : Exc B (env :: outer) e cls dd s.heap)
    (h : ∀ h', Exc B outer e cls dd h' → s.heap.UpToSlots h' → Q () { s with heap := h' }) : wpAny M A (leaving env (.ref e)) Q E s := by
  unfold leaving
  refine wpAny_bind (note_ hfr hf X fun h₁ k1 k2 k3 k4 => flight_ (s := { s with heap := h₁ }) k1 k2 k3 fun h₂ j1 j2 j3 j4 => h h₂ ⟨j1, X.new, j2.2.2, .inr (.inl j3)⟩ (k4.trans j4))
end

/-! ## what a raise leaves behind -/
def FF (l : List Env) (h : Heap) : Prop := ∀ env ∈ l, env.scope.kind ≠ .module ∧ ∃ L o, env.frame = some L ∧ h.get? L = some o ∧ ∀ vs, o.data ≠ .fields vs
theorem FF.keeps {l : List Env} {h h' : Heap} (x : FF l h) (k : ∀ b o, h.get? b = some o → h'.get? b = some o) : FF l h' := fun env he => by
  refine xe0_2 (x env he) fun a r_0 => ?_
  refine xe2_3 r_0 fun L o b c d => ?_
  exact ⟨a, L, o, b, k _ _ c, d⟩
theorem FF.slots {l : List Env} {h h' : Heap} (x : FF l h) (k : h.UpToSlots h') : FF l h' := fun env he => by
  refine xe0_2 (x env he) fun a r_0 => ?_
  refine xe2_3 r_0 fun L o b c d => ?_
  refine xe1_1 (k L o c d) fun sl e => ?_
  exact ⟨a, L, _, b, e, d⟩
theorem FF.fun {h B : Heap} : ∀ {l : List Env}, FF l h → (∀ b ∈ l.filterMap (·.frame), B.get? b = none) → h.FunFrames B l
  | [], _, _ => trivial
  | env :: l, x, hB => by
    refine xe0_2 (x env (.head _)) fun a r_0 => ?_
    refine xe2_3 r_0 fun L o b c d => ?_
    exact ⟨a, ⟨L, o, b, hB L (by (refine rwt List.filterMap_cons ?_; refine rwt b ?_); exact .head _), c, d⟩, FF.fun (fun e he => x e (.tail _ he)) fun b' hb' => hB b' (by (refine rwt List.filterMap_cons ?_; refine rwt b ?_); exact .tail _ hb')⟩
theorem FF.of {h B : Heap} : ∀ {l : List Env}, h.FunFrames B l → FF l h
  | [], _ => fun _ h => nomatch h
  | env :: l, ⟨a, ⟨L, o, b, _, c, d⟩, r⟩ => fun e he => by
    rcases List.mem_cons.mp he with rfl | he
    · exact ⟨a, L, o, b, c, d⟩
    · exact FF.of r e he
/-- from h₀ on: an exception e of the class C, all that stood and is no frame stands, the frames up to their slots -/
structure Thrown (l : List Env) (h₀ : Heap) (e : Addr) (C : Value) (pay : Heap → Option Addr → Prop) (h : Heap) : Prop where
  up : h₀.UpToSlots h
  ex : ∃ B dd, (∀ b o, h₀.get? b = some o → b ∉ l.filterMap (·.frame) → B.get? b = some o) ∧ pay B dd ∧ Exc B l e C dd h
theorem Thrown.base {l : List Env} {h₀ h₁ h : Heap} {e : Addr} {C : Value} {pay : Heap → Option Addr → Prop} (x : Thrown l h₁ e C pay h) (k : ∀ b o, h₀.get? b = some o → h₁.get? b = some o) : Thrown l h₀ e C pay h := by
  refine wrapG fun W_ k_ => ?_
  obtain ⟨u, B, dd, a, b, c⟩ := x
  refine k_ ?_
  clear k_ W_
  exact ⟨(Heap.UpToSlots.of_keeps k).trans u, B, dd, fun b o hb hn => a b o (k b o hb) hn, b, c⟩
theorem leaveT {M : Model} {A : Around} {E : Value → Shared → Prop} {s : Shared} {env : Env} {outer : List Env} {L e : Addr} {h₀ : Heap} {C : Value} {pay : Heap → Option Addr → Prop} {Q : Unit → Shared → Prop} (hfr : A.frames = some (env :: outer)) (hf : env.frame = some L) (hL : h₀.get? L = none)
    (X : Thrown (env :: outer) h₀ e C pay s.heap) (h : ∀ h', Thrown outer h₀ e C pay h' → Q () { s with heap := h' }) : wpAny M A (leaving env (.ref e)) Q E s := by
  refine wrapG fun W_ k_ => ?_
  obtain ⟨u, B, dd, a, b, c⟩ := X
  refine k_ ?_
  clear k_ W_
  refine leave_ hfr hf c fun h' c' u' => h h' ⟨u.trans u', B, dd, fun b o hb hn => a b o hb fun hm => ?_, b, c'⟩
  rw [List.filterMap_cons, hf] at hm
  rcases List.mem_cons.mp hm with rfl | hm
  · rw [hL] at hb; cases hb
  · exact hn hm
end
section
set_option maxHeartbeats 1000000
set_option maxRecDepth 100000
open PySem PySem.W PySem.Calls PyProof.Rows PySem.Spec
abbrev Pay := Heap → Option Addr → Prop
/-- the contract of a def that raises -/
def RX (g : Gl) (n : Nat) (a : Addr) (ds : List D) (C : Value) (pay : Pay) : Prop :=
  ∀ (A : Around) (E : Value → Shared → Prop) (s : Shared) (R : Led) (vs : List Value) (Q : Value → Shared → Prop) (l : List Env), AOk n A → A.frames = some l → FF l s.heap → GlOk g s.heap → (∀ p ∈ R, s.heap.get? p.1 = some p.2) → IsAll R vs ds →
    (∀ e s', Rest s s' → Thrown l s.heap e C pay s'.heap → E (.ref e) s') → wpAny g.M A (call (.ref a) vs) Q E s
theorem RX.le {g : Gl} {n k : Nat} {a : Addr} {ds : List D} {C : Value} {pay : Pay} (h : RX g n a ds C pay) (hk : n ≤ k) : RX g k a ds C pay := fun A E s R vs Q l hA => h A E s R vs Q l (hA.le hk)
section
variable {g : Gl} {f : Fm} {n : Nat} {σ : Vars} {C : Value} {pay : Pay}
/-- an expression that raises -/
def REV (g : Gl) (f : Fm) (n : Nat) (σ : Vars) (e : Expr) (C : Value) (pay : Pay) : Prop :=
  ∀ (A : Around) (E : Value → Shared → Prop) (s : Shared) (R : Led) (Q : Value → Shared → Prop) (l : List Env), AOk n A → A.frames = some (f.env :: l) → f.env.frame = some f.env.locals → FF l f.h₀ → St g f σ R s.heap →
    (∀ e' s', Rest s s' → Thrown (f.env :: l) f.h₀ e' C pay s'.heap → E (.ref e') s') → wpAny g.M A (eval e f.env) Q E s
def RES (g : Gl) (f : Fm) (n : Nat) (σ : Vars) (pos : Pos) (es : List Expr) (C : Value) (pay : Pay) : Prop :=
  ∀ (A : Around) (E : Value → Shared → Prop) (s : Shared) (R : Led) (Q : List Value → Shared → Prop) (l : List Env), AOk n A → A.frames = some (f.env :: l) → f.env.frame = some f.env.locals → FF l f.h₀ → St g f σ R s.heap →
    (∀ e' s', Rest s s' → Thrown (f.env :: l) f.h₀ e' C pay s'.heap → E (.ref e') s') → wpAny g.M A (spliced (backTo pos (starEach es f.env))) Q E s
def RP (g : Gl) (f : Fm) (n : Nat) (σ : Vars) (ss : List Stmt) (C : Value) (pay : Pay) : Prop :=
  ∀ (A : Around) (E : Value → Shared → Prop) (s : Shared) (R : Led) (Q : Flow → Shared → Prop) (l : List Env), AOk n A → A.frames = some (f.env :: l) → f.env.frame = some f.env.locals → FF l f.h₀ → St g f σ R s.heap →
    (∀ e' s', Rest s s' → Thrown (f.env :: l) f.h₀ e' C pay s'.heap → E (.ref e') s') → wpAny g.M A (execs ss f.env) Q E s
theorem St.ff {R : Led} {h : Heap} {l : List Env} (S : St g f σ R h) (hl : FF l f.h₀) (hf : f.env.frame = some f.env.locals) (hk : f.env.scope.kind = .function) : FF (f.env :: l) h := fun env he => by
  refine xe1_1 S fun m S => ?_
  rcases List.mem_cons.mp he with rfl | he
  · refine xe3_3 S.fr.ns fun o es ep ho hd _ => ?_
    exact ⟨by (refine rwt hk ?_); decide, _, o, hf, ho, fun vs q => by rw [hd] at q; cases q⟩
  · exact (hl.keeps S.fr.keep) env he
theorem REV.call {func : Expr} {args : List Expr} {pos : Pos} {a : Addr} {ds : List D} {k : Nat} (hf : EV g f n σ func (.fn a)) (ha : ES g f n σ pos args ds) (hF : RX g k a ds C pay)
    (hkn : k ≤ n) (hkeep : keepIn g.K (.ref a) = true) (hk : f.env.scope.kind = .function := by rfl) (hne : ∀ o n p, func ≠ .Attribute o n p := by intro _ _ _ h; cases h) (hne' : args ≠ [] := by intro h; cases h)
    (he : ∀ e es, args = e :: es → starEach args f.env = (false, eval e f.env) :: starEach es f.env ∧ (backTo pos (starEach es f.env)).any (·.1) = false := by (intro _ _ h; cases h; exact ⟨rfl, rfl⟩)) : REV g f n σ (.Call func args [] pos) C pay :=
  fun A E s R Q l hA hfr hfl hFF hS q => by
    (refine rwt (eval_Call_eq hne) ?_)
    refine wpAny_bind (hf A E s R _ hA hS fun v R₁ s₁ r₁ i₁ => ?_)
    (first | refine Is.eInt i₁ fun _ => ?_ | refine Is.eFn i₁ ?_ | refine Is.eBool i₁ ?_ | refine Is.eStr i₁ fun _ => ?_ | refine Is.eNone i₁ ?_ | cases i₁)
    cases args with
    | nil => exact absurd rfl hne'
    | cons e es =>
      obtain ⟨h1, h2⟩ := he e es rfl
      have S₁ := hS.gr r₁
      refine callWith_K (h₀ := s₁.heap) S₁.glOk.k hkeep (ha A E s₁ R₁ _ hA S₁ fun vs R₂ s₂ r₂ i₂ => ⟨(S₁.gr r₂).glOk.k, ?_⟩) h1 h2
      have S₂ := S₁.gr r₂
      refine hF A E s₂ R₂ vs _ _ (hA.le hkn) hfr (S₂.ff hFF hfl hk) S₂.glOk r₂.led i₂ fun e' s' rs T => q e' s' ((r₁.rest.trans r₂.rest).trans rs) (T.base ?_)
      obtain ⟨m, S₂⟩ := S₂
      exact S₂.fr.keep
theorem RES.here {pos : Pos} {e : Expr} {es : List Expr} (h : REV g f n σ e C pay) (he : starEach (e :: es) f.env = (false, eval e f.env) :: starEach es f.env := by rfl) : RES g f n σ pos (e :: es) C pay :=
  fun A E s R Q l hA hfr hfl hFF hS q => wpAny_items_cons (h A E s R _ l hA hfr hfl hFF hS q) he
theorem RES.tail {pos : Pos} {e : Expr} {es : List Expr} {d : D} (h : EV g f n σ e d) (hs : RES g f n σ pos es C pay) (he : starEach (e :: es) f.env = (false, eval e f.env) :: starEach es f.env := by rfl) : RES g f n σ pos (e :: es) C pay :=
  fun A E s R Q l hA hfr hfl hFF hS q => wpAny_items_cons (h A E s R _ hA hS fun v R₁ s₁ r₁ i₁ => hs A E s₁ R₁ _ l hA hfr hfl hFF (hS.gr r₁) fun e' s' rs T => q e' s' (r₁.rest.trans rs) T) he
theorem REV.args {func : Expr} {args : List Expr} {pos : Pos} {a : Addr} (hf : EV g f n σ func (.fn a)) (ha : RES g f n σ pos args C pay)
    (hkeep : keepIn g.K (.ref a) = true) (hne : ∀ o n p, func ≠ .Attribute o n p := by intro _ _ _ h; cases h) (hne' : args ≠ [] := by intro h; cases h)
    (he : ∀ e es, args = e :: es → starEach args f.env = (false, eval e f.env) :: starEach es f.env ∧ (backTo pos (starEach es f.env)).any (·.1) = false := by (intro _ _ h; cases h; exact ⟨rfl, rfl⟩)) : REV g f n σ (.Call func args [] pos) C pay :=
  fun A E s R Q l hA hfr hfl hFF hS q => by
    (refine rwt (eval_Call_eq hne) ?_)
    refine wpAny_bind (hf A E s R _ hA hS fun v R₁ s₁ r₁ i₁ => ?_)
    (first | refine Is.eInt i₁ fun _ => ?_ | refine Is.eFn i₁ ?_ | refine Is.eBool i₁ ?_ | refine Is.eStr i₁ fun _ => ?_ | refine Is.eNone i₁ ?_ | cases i₁)
    cases args with
    | nil => exact absurd rfl hne'
    | cons e es =>
      obtain ⟨h1, h2⟩ := he e es rfl
      have S₁ := hS.gr r₁
      exact callWith_K (h₀ := s₁.heap) S₁.glOk.k hkeep (ha A E s₁ R₁ _ l hA hfr hfl hFF S₁ fun e' s' rs T => q e' s' (r₁.rest.trans rs) T) h1 h2
theorem REV.else_ {t x y : Expr} {pos : Pos} (h : TR g f n σ t false) (hy : REV g f n σ y C pay) : REV g f n σ (.IfExp t x y pos) C pay :=
  fun A E s R Q l hA hfr hfl hFF hS q => wpAny_IfExp (h A E s R _ hA hS fun R₁ s₁ r₁ => hy A E s₁ R₁ _ l hA hfr hfl hFF (hS.gr r₁) fun e' s' rs T => q e' s' (r₁.rest.trans rs) T)
theorem RP.ret {e : Expr} {pos : Pos} {rest : List Stmt} (h : REV g f n σ e C pay) : RP g f n σ (.Return (some e) pos :: rest) C pay :=
  fun A E s R Q l hA hfr hfl hFF hS q => wpAny_execs_cons (wpAny_Return_some (h A E s R _ l hA hfr hfl hFF hS q))
theorem RP.assign {e : Expr} {x : Str} {p pos : Pos} {rest : List Stmt} (h : REV g f n σ e C pay) (hs : swapsWith e (some (.Name x p)) pos.line f.env = pure false := by rfl) : RP g f n σ (.Assign [.Name x p] e pos :: rest) C pay :=
  fun A E s R Q l hA hfr hfl hFF hS q => wpAny_execs_cons (wpAny_Assign_Name (h A E s R _ l hA hfr hfl hFF hS q) hs)
theorem RP.next {st : Stmt} {rest : List Stmt} (h : WX g f n σ st (fun o => ∃ σ', o = .next σ' ∧ RP g f n σ' rest C pay)) : RP g f n σ (st :: rest) C pay :=
  fun A E s R Q l hA hfr hfl hFF hS q => wpAny_execs_cons (h A E s R _ hA hS fun o fl R₁ s₁ hq r₁ m₁ ok => by
    obtain ⟨σ', rfl, hR⟩ := hq
    obtain ⟨rfl, S₁⟩ := ok
    exact hR A E s₁ R₁ Q l hA hfr hfl hFF S₁ fun e' s' rs T => q e' s' (r₁.trans rs) T)
theorem RP.if_ {t : Expr} {body orelse : List Stmt} {pos : Pos} {rest : List Stmt} (h : TR g f n σ t true) (hb : RP g f n σ body C pay) : RP g f n σ (.If t body orelse pos :: rest) C pay :=
  fun A E s R Q l hA hfr hfl hFF hS q => wpAny_execs_cons (wpAny_If (h A E s R _ hA hS fun R₁ s₁ r₁ => hb A E s₁ R₁ _ l hA hfr hfl hFF (hS.gr r₁) fun e' s' rs T => q e' s' (r₁.rest.trans rs) T))
/-- an exception of a plain class, just made -/
theorem thrown_made {l : List Env} {R : Led} {h₁ h' : Heap} {e : Addr} {vs : List Value} (S : St g f σ R h₁) (hFF : FF l f.h₀) (hf : f.env.frame = some f.env.locals) (hk : f.env.scope.kind = .function) (hm : Heap.MadeExcOf h₁ h' e C vs) (hp : ∀ B, pay B none) : Thrown (f.env :: l) f.h₀ e C pay h' := by
  have F := S.ff hFF hf hk
  refine xe1_1 S fun m S => ?_
  refine xe1_3 hm.there fun t he _ _ => ?_
  refine ⟨(Heap.UpToSlots.of_keeps S.fr.keep).trans (Heap.UpToSlots.of_keeps hm.keeps), hideAll h₁ ((f.env :: l).filterMap (·.frame)), none, fun b o hb hn => hideAll_get _ (S.fr.keep b o hb) hn, hp _, ⟨fun b o hb => hm.keeps _ _ (of_hideAll _ hb), ?_, (F.keeps hm.keeps).fun fun b hb => hideAll_none _ hb, .inl ⟨_, _, he, ⟨rfl, rfl⟩, rfl, rfl⟩⟩⟩
  cases q : (hideAll h₁ ((f.env :: l).filterMap (·.frame))).get? e with
  | none => rfl
  | some o => have := of_hideAll _ q; rw [hm.new] at this; cases this
end
section
variable {g : Gl} {n : Nat} {σ : Vars} {pay : Pay}
/-- raise X('..'), X an own class with no __init__ of its own -/
theorem RP.raise_ {name : Str} {scope : Scope} {L a : Addr} {cd : Value} {h₀ : Heap} {R₀ : Led} {x : Str} {c : Addr} {np cpos pos : Pos} {e₀ : Expr} {d : D} {rest : List Stmt} (he₀ : EV g ⟨envOf name scope L a cd, h₀, R₀⟩ n σ e₀ d)
    (ex : nsIn g.K mainGlobals x = some (some (.ref c))) (q : excIn g.K c [.type "Exception", .type "BaseException", .type "object"] "Exception.__new__" = true) (hp : ∀ B, pay B none)
    (he : starEach [e₀] (envOf name scope L a cd) = (false, eval e₀ (envOf name scope L a cd)) :: starEach [] (envOf name scope L a cd) := by rfl)
    (hk : scope.kind = .function := by rfl) (hx : (envOf name scope L a cd).kindOf x = some .globalImplicit := by rfl) (hd : (x == ("__debug__" : Str)) = false := by decide) :
    RP g ⟨envOf name scope L a cd, h₀, R₀⟩ n σ (.Raise (some (.Call (.Name x np) [e₀] [] cpos)) none pos :: rest) (.ref c) pay :=
  fun A E s R Q l hA hfr hfl hFF hS k => by
    have hG := hS.glOk
    have O := own_of_in hG.k hG.t ex q
    refine xe1_1 (id hS) fun m S => ?_
    refine wpAny_execs_cons ?_
    refine xe17_4 O.obj fun tl N nm q' bs hdct sn sub ab col dd k0 k1 k2 k3 k5 mN hC hN hni T => ?_
    refine wpAny_Raise_call_subT (C := c) (nm := nm) (q := q') (N := N) (bs := bs) (bm := tl) (hdct := hdct) (sn := sn) (sub := sub) (ab := ab) (col := col) (dd := dd) (k0 := k0) (k1 := k1) (k2 := k2) (k3 := k3) (k5 := k5)
      F.excBase_Exception (mN := mN) (T.hasType F.excBase_Exception.hasBase) hA.hd (by (refine rwt he ?_); rfl) hni (Name_function_global hk hx (loadGlobal_global hG.t.g (mg_of hG.k hG.t.g ex) ⟨rfl, ?_⟩) hd)
    (refine rwt he ?_)
    refine Calls.evalArgs_plain (spliced_cons (he₀ A E s R _ hA hS fun v R₁ s₁ r₁ i₁ => spliced_nil ⟨rfl, by (refine rwt sizeLine_eq ?_); simp, r₁.ext _ _ hC, hN.keeps r₁.ext, T.keeps r₁.ext, fun h' e' hm => ?_⟩))
    exact k e' _ (r₁.rest.trans .heap) (thrown_made (hS.gr r₁) hFF hfl hk hm hp)
/-- the state at a plain def's entry -/
theorem St.enter {g : Gl} {s : Shared} {R : Led} {vs : List Value} {ds : List D} {names locals : List Str} {h₁ : Heap} {env : Env} (hG : GlOk g s.heap) (hL : ∀ p ∈ R, s.heap.get? p.1 = some p.2) (hI : IsAll R vs ds) (hn : names.length = ds.length) (hnd : (names ++ locals).Nodup)
    (hns : h₁.Ns env.locals (fun x => (names.zip vs).reverse.lookup x)) (hk₁ : ∀ b o, s.heap.get? b = some o → h₁.get? b = some o) (hloc : env.locals = s.heap.objs.size) : St g ⟨env, s.heap, R⟩ (mkVars names ds locals) R h₁ := by
  have hnd' : names.Nodup := (List.nodup_append.mp hnd).1
  have hnz : ((names.zip vs).map (·.1)).Nodup := by
    (refine rwt (List.map_fst_zip (by rw [hI.length, hn]; exact Nat.le_refl _)) ?_)
    exact hnd'
  refine ⟨fun x => (names.zip vs).reverse.lookup x, ⟨hns, hk₁, by (refine rwt hloc ?_); exact Nat.le_refl _⟩, hG, fun p hp => ⟨hk₁ _ _ (hL p hp), by (refine rwt hloc ?_); exact Nat.ne_of_lt (Heap.lt_size (hL p hp)), .inl hp⟩, fun _ h => h, ?_, fun x d hx => ?_, fun x es hx => ?_, fun x es y fs hx _ => ?_⟩
  · have : (mkVars names ds locals).map (·.1) = names ++ locals := by
      unfold mkVars
      (refine rwt List.map_append ?_; refine rwt List.map_map ?_; refine rwt List.map_map ?_)
      congr 1
      · have e : ((fun p => p.1) ∘ fun p : Str × D => (p.1, Sl.val p.2)) = Prod.fst := rfl
        (refine rwt e ?_; refine rwt (List.map_fst_zip (by rw [hn]; exact Nat.le_refl _)) ?_; with_reducible rfl)
      · have e : ((fun p => p.1) ∘ fun x : Str => (x, Sl.un)) = id := rfl
        (refine rwt e ?_; refine rwt (List.map_id ..) ?_; with_reducible rfl)
    (refine rwt this ?_); exact hnd
  · rcases List.mem_append.mp hx with hx | hx
    · refine xe1_2 (List.mem_map.mp hx) fun p hp e => ?_
      cases e
      refine xe1_2 (lookup_zip hnd' hI hp) fun v h1 h2 => ?_
      exact ⟨v, (lookup_rev hnz).trans h1, h2⟩
    · refine xe1_2 (List.mem_map.mp hx) fun p hp e => ?_
      cases e
  · rcases List.mem_append.mp hx with hx | hx
    · obtain ⟨p, hp, e⟩ := List.mem_map.mp hx; cases e
    · obtain ⟨p, hp, e⟩ := List.mem_map.mp hx; cases e
  · rcases List.mem_append.mp hx with hx | hx
    · obtain ⟨p, hp, e⟩ := List.mem_map.mp hx; cases e
    · obtain ⟨p, hp, e⟩ := List.mem_map.mp hx; cases e
/-- a def that raises, from its body -/
theorem RX.of {a : Addr} {ds : List D} {C : Value} {name qual : Str} {params : Arguments} {body : List Stmt} {scope : Scope} {dV kV doc pm cdv ct oc : Value} {an od : Option Addr} {osl : Array (Option Value)} (names locals : List Str)
    (ho : g.K.lookup a = some ⟨oc, od, .func (fnOf name qual params body scope dV kV doc pm an cdv ct), osl⟩) (hcd : codeIn g.K cdv qual = true)
    (hb : ∀ vs : List Value, vs.length = ds.length → bindArgs (fnOf name qual params body scope dV kV doc pm an cdv ct) ⟨vs, []⟩ = pure (names.zip vs))
    (hn : names.length = ds.length) (hnd : (names ++ locals).Nodup) (hloc : (names.all fun x => scope.names.lookup x == some .local) = true)
    (h : ∀ (L : Addr) (h₀ : Heap) (R₀ : Led), RP g ⟨envOf qual scope L a cdv, h₀, R₀⟩ n (mkVars names ds locals) body C pay)
    (hcell : ∀ x ∈ scope.names, x.2 ≠ .cell := by decide) (hco : scope.isCoroutine = false := by rfl) (hgen : scope.isGenerator = false := by rfl) (hk : scope.kind = .function := by rfl) : RX g (n + 1) a ds C pay :=
  fun A E s R vs Q l hA hfr hFF hG hL hI q => by
    refine wpAny_call (codeAny_call_def (fd := fnOf name qual params body scope dV kV doc pm an cdv ct) (body := body) (binds := names.zip vs) hA.room (hG.k _ _ ho) rfl hG.t.nolimit (codeRec_of hG.k hcd) rfl (BindsTo.of_eq (hb vs hI.length)) hcell (fun x hx => ?_) (fun h₁ hns hk₁ => ?_) hco hgen hk)
    · have := List.all_eq_true.mp hloc x.1 (List.of_mem_zip hx).1
      simpa using this
    · have S : St g ⟨envOf qual scope s.heap.objs.size a cdv, s.heap, R⟩ (mkVars names ds locals) R h₁ := St.enter hG hL hI hn hnd hns hk₁ rfl
      refine wpAny_mono (h s.heap.objs.size s.heap R _ _ _ R _ l hA.deeper (Around.frames_deeper hfr) rfl hFF S fun e' s' rs T => ?_) (fun _ _ x => x) fun _ _ x => x
      refine leaveT (Around.frames_deeper hfr) rfl (Heap.get?_none_of_le (Nat.le_refl _)) T fun h' T' => q e' _ (Rest.mk'.trans (rs.trans .heap)) T'
end
end
section
set_option maxHeartbeats 1000000
set_option maxRecDepth 100000
open PySem PySem.W PySem.Calls PyProof.Rows PySem.Spec
abbrev frs (l : List Env) : List Addr := l.filterMap (·.frame)
/-- what no call changes: the top, apart from the frames -/
structure Base (g : Gl) (b₀ : Heap) (l : List Env) (h : Heap) : Prop where
  gl : GlOk g b₀
  sub : ∀ a o, b₀.get? a = some o → h.get? a = some o
  out : ∀ b ∈ frs l, b₀.get? b = none
/-- after a raise that was taken: all stands but the frames' slots -/
structure Cgt (l : List Env) (h h' : Heap) : Prop where
  up : h.UpToSlots h'
  keep : ∀ b o, h.get? b = some o → b ∉ frs l → h'.get? b = some o
theorem Thrown.cgt {l : List Env} {h₀ h : Heap} {e : Addr} {C : Value} {pay : Pay} (x : Thrown l h₀ e C pay h) : Cgt l h₀ h := by
  refine wrapG fun W_ k_ => ?_
  obtain ⟨u, B, dd, a, _, c⟩ := x
  refine k_ ?_
  clear k_ W_
  exact ⟨u, fun b o hb hn => c.stays _ _ (a b o hb hn)⟩
theorem Cgt.base {g : Gl} {b₀ : Heap} {l : List Env} {h h' : Heap} (x : Cgt l h h') (B : Base g b₀ l h) : Base g b₀ l h' :=
  ⟨B.gl, fun a o e => x.keep a o (B.sub a o e) (fun hm => by rw [B.out a hm] at e; cases e), B.out⟩
theorem Base.glOk {g : Gl} {b₀ : Heap} {l : List Env} {h : Heap} (B : Base g b₀ l h) : GlOk g h := B.gl.keeps B.sub
theorem Base.keeps {g : Gl} {b₀ : Heap} {l : List Env} {h h' : Heap} (B : Base g b₀ l h) (k : ∀ b o, h.get? b = some o → h'.get? b = some o) : Base g b₀ l h' := ⟨B.gl, fun a o e => k _ _ (B.sub a o e), B.out⟩
theorem Base.push {g : Gl} {b₀ : Heap} {l : List Env} {h : Heap} {env : Env} {L : Addr} (B : Base g b₀ l h) (hf : env.frame = some L) (hL : b₀.get? L = none) : Base g b₀ (env :: l) h := ⟨B.gl, B.sub, fun b hb => by
  rw [frs, List.filterMap_cons, hf] at hb
  rcases List.mem_cons.mp hb with rfl | hb
  · exact hL
  · exact B.out b hb⟩
theorem looks_func {M : Model} {h : Heap} {a : Addr} {o : Obj} {fd : FuncData} (ho : h.get? a = some o) (hd : o.data = .func fd) : Looks M h (keeperOf (.ref a)) .frame := fun A Q E s k q => by
  unfold keeperOf
  refine wpAny_bind (m := load a) (wpAny_load (k _ _ ho) ?_)
  (refine rwt hd ?_)
  exact wpAny_pure q
/-- f() of a function object -/
theorem call0 {M : Model} {A : Around} {E : Value → Shared → Prop} {s : Shared} {env : Env} {func : Expr} {pos : Pos} {a : Addr} {o : Obj} {fd : FuncData} {Q : Value → Shared → Prop} (hne : ∀ o n p, func ≠ .Attribute o n p)
    (hf : wpAny M A (eval func env) (fun v s₁ => v = .ref a ∧ s₁.heap.get? a = some o ∧ wpAny M A (call (.ref a) []) Q E s₁) E s) (hd : o.data = .func fd) : wpAny M A (eval (.Call func [] [] pos) env) Q E s := by
  (refine rwt (eval_Call_eq hne) ?_)
  refine wpAny_bind (wpAny_mono hf (fun v s₁ h₁ => ?_) fun _ _ x => x)
  refine xe0_3 h₁ fun e_1 ho h => ?_
  subst e_1
  try clear h₁
  exact callWith_of (P := fun h => h.get? a = some o) rfl (fun h p => ⟨.frame, .inl rfl, looks_func p hd⟩) (PyProof.Rows.evalArgs_empty ⟨ho, h⟩)
/-- an except clause of an own class takes the exception -/
theorem taken {g : Gl} {A : Around} {E : Value → Shared → Prop} {s : Shared} {l : List Env} {name : Str} {scope : Scope} {L a : Addr} {cd : Value} {e c : Addr} {h₀ b₀ : Heap} {pay : Pay} {x : Str} {np pos : Pos} {b₁ : Stmt} {suite : List Stmt} {rest : List ExceptHandler} {Q : Flow → Shared → Prop}
    (hfr : A.frames = some (envOf name scope L a cd :: l)) (X : Thrown (envOf name scope L a cd :: l) h₀ e (.ref c) pay s.heap) (B : Base g b₀ (envOf name scope L a cd :: l) h₀)
    (ex : nsIn g.K mainGlobals x = some (some (.ref c))) (q : excIn g.K c [.type "Exception", .type "BaseException", .type "object"] "Exception.__new__" = true)
    (h : ∀ h' , Thrown (envOf name scope L a cd :: l) h₀ e (.ref c) pay h' → wpAny g.M (A.mark (some (.ref e))) (execs (b₁ :: suite) (envOf name scope L a cd)) (fun f s' => Q f s') (fun _ _ => False) { s with heap := h' })
    (hk : scope.kind = .function := by rfl) (hx : (envOf name scope L a cd).kindOf x = some .globalImplicit := by rfl) (hd : (x == ("__debug__" : Str)) = false := by decide) :
    wpAny g.M A (noteFrame (.ref e) (envOf name scope L a cd)) (fun _ s₂ => wpAny g.M A (setFlight (.ref e) none) (fun _ s₃ =>
      wpAny g.M A (handleBy (.ref e) (envOf name scope L a cd) (.ExceptHandler (some (.Name x np)) none (b₁ :: suite) pos :: rest)) Q E s₃) E s₂) E s := by
  refine wrapG fun W_ k_ => ?_
  obtain ⟨u, B', dd, hb, hp, ec⟩ := X
  refine k_ ?_
  clear k_ W_
  refine note_ hfr rfl ec fun h₁ k1 k2 k3 k4 => flight_ (s := { s with heap := h₁ }) k1 k2 k3 fun h₂ j1 j2 j3 j4 => ?_
  have X₂ : Thrown (envOf name scope L a cd :: l) h₀ e (.ref c) pay h₂ := ⟨(u.trans k4).trans j4, B', dd, hb, hp, ⟨j1, ec.new, j2, .inr (.inl j3)⟩⟩
  have B₂ := X₂.cgt.base B
  have hG := B₂.glOk
  refine wrapG fun W_ k_ => ?_
  refine xe5_9 (id j3) fun oe vs T oT ts he g_1 hdt h1 hnT hTe hT hdT h3 => ?_
  obtain ⟨hc, hdd⟩ := g_1
  refine k_ ?_
  clear k_ W_
  refine xe17_4 ((own_of_in hG.k hG.t ex q).obj) fun tl N nm q' bs hdct sn sub ab col dd' k0 k1' k2' k3' k5 mN hC hN hni T' => ?_
  refine wpAny_handleBy_cons (codeAny_handlers_test (Name_function_global hk hx (loadGlobal_global hG.t.g (mg_of hG.k hG.t.g ex) ?_) hd)) (by intro q; cases q)
  refine wpAny_excMatches_sub_self hC he hc (T'.hasType PySem.F.excBase_Exception.hasBase) (codeAny_handlers_suite ?_)
  refine flight_ (s := { s with heap := h₂ }) j1 j2 j3 fun h₃ i1 i2 i3 i4 => ?_
  exact wpAny_mono (h h₃ ⟨((u.trans k4).trans j4).trans i4, B', dd, hb, hp, ⟨i1, ec.new, i2, .inr (.inl i3)⟩⟩) (fun _ _ x => x) fun _ _ x => x.elim
/-- a call of a plain def, down to its body -/
theorem call_P {g : Gl} {n : Nat} {A : Around} {E : Value → Shared → Prop} {s : Shared} {R : Led} {vs : List Value} {ds : List D} {Q : Value → Shared → Prop} {a : Addr} {name qual : Str} {params : Arguments} {body : List Stmt} {scope : Scope} {dV kV doc pm cdv ct oc : Value} {an od : Option Addr} {osl : Array (Option Value)} (names locals : List Str)
    (ho : g.K.lookup a = some ⟨oc, od, .func (fnOf name qual params body scope dV kV doc pm an cdv ct), osl⟩) (hcd : codeIn g.K cdv qual = true)
    (hb : ∀ vs : List Value, vs.length = ds.length → bindArgs (fnOf name qual params body scope dV kV doc pm an cdv ct) ⟨vs, []⟩ = pure (names.zip vs))
    (hn : names.length = ds.length) (hnd : (names ++ locals).Nodup) (hloc : (names.all fun x => scope.names.lookup x == some .local) = true)
    (hA : AOk (n + 1) A) (hG : GlOk g s.heap) (hL : ∀ p ∈ R, s.heap.get? p.1 = some p.2) (hI : IsAll R vs ds)
    (h : ∀ h₁, St g ⟨envOf qual scope s.heap.objs.size a cdv, s.heap, R⟩ (mkVars names ds locals) R h₁ → (∀ b o, s.heap.get? b = some o → h₁.get? b = some o) → AOk n (A.deeper (envOf qual scope s.heap.objs.size a cdv)) →
      wpAny g.M (A.deeper (envOf qual scope s.heap.objs.size a cdv)) (execs body (envOf qual scope s.heap.objs.size a cdv)) (fun fl s' => Q (match fl with | .ret v => v | _ => .none) s')
        (fun e s' => wpAny g.M (A.deeper (envOf qual scope s.heap.objs.size a cdv)) (leaving (envOf qual scope s.heap.objs.size a cdv) e) (fun _ s'' => E e s'') (fun e' s'' => E e' s'') s')
        { s with heap := h₁, toks := s.toks + (names.zip vs).length })
    (hcell : ∀ x ∈ scope.names, x.2 ≠ .cell := by decide) (hco : scope.isCoroutine = false := by rfl) (hgen : scope.isGenerator = false := by rfl) (hk : scope.kind = .function := by rfl) : wpAny g.M A (call (.ref a) vs) Q E s := by
  refine wpAny_call (codeAny_call_def (fd := fnOf name qual params body scope dV kV doc pm an cdv ct) (body := body) (binds := names.zip vs) hA.room (hG.k _ _ ho) rfl hG.t.nolimit (codeRec_of hG.k hcd) rfl (BindsTo.of_eq (hb vs hI.length)) hcell (fun x hx => ?_) (fun h₁ hns hk₁ => ?_) hco hgen hk)
  · have := List.all_eq_true.mp hloc x.1 (List.of_mem_zip hx).1
    simpa using this
  · exact wpAny_mono (h h₁ (St.enter hG hL hI hn hnd hns hk₁ rfl) hk₁ hA.deeper) (fun fl s' q => by cases fl <;> exact q) fun _ _ x => x
section
variable {w : World} {p : Program} {loose : List Str} {mg mb : Str → Option Value}
/-- _law_is_divided of a function that raises DivisionByZero -/
theorem isdiv {A : Around} {E : Value → Shared → Prop} {s : Shared} {l : List Env} {n : Nat} {fA : Addr} {o : Obj} {fd : FuncData} {b₀ : Heap} {Q : Value → Shared → Prop} (hA : AOk (n + 1) A) (hfr : A.frames = some l) (hFF : FF l s.heap) (B : Base (GG w p loose mg mb) b₀ l s.heap)
    (ho : s.heap.get? fA = some o) (hd : o.data = .func fd)
    (hwork : ∀ (A' : Around) (E' : Value → Shared → Prop) (s' : Shared) (Q' : Value → Shared → Prop) (env' : Env), AOk n A' → A'.frames = some (env' :: l) → FF (env' :: l) s'.heap → (∀ b o, s.heap.get? b = some o → s'.heap.get? b = some o) →
      (∀ e s'', Rest s' s'' → Thrown (env' :: l) s'.heap e (.ref 37) (fun _ _ => True) s''.heap → E' (.ref e) s'') → wpAny (GG w p loose mg mb).M A' (call (.ref fA) []) Q' E' s')
    (q : ∀ s', Rest s s' → Cgt l s.heap s'.heap → Q (.bool true) s') : wpAny (GG w p loose mg mb).M A (call (.ref 399) [.ref fA]) Q E s := by
  have hG := B.glOk
  refine call_P (g := GG w p loose mg mb) (R := []) (ds := [.fn fA]) ["work"] [] rfl rfl (len1 fun _ => rfl) rfl (by decide) rfl hA hG (fun _ h => nomatch h) (.cons (.fn fA) .nil) (fun h₁ S hk₁ hAd => ?_)
  have hL : s.heap.get? s.heap.objs.size = none := Heap.get?_none_of_le (Nat.le_refl _)
  have hLb : b₀.get? s.heap.objs.size = none := by
    cases z : b₀.get? s.heap.objs.size with
    | none => rfl
    | some o' => have := B.sub _ _ z; rw [hL] at this; cases this
  refine wpAny_execs_cons (wpAny_Try_except ?_)
  refine wpAny_execs_cons (wpAny_Expr_any (call0 (a := fA) (o := o) (fd := fd) (by intro _ _ _ h; cases h) ?_ hd) rfl rfl)
  refine EV.name (g := GG w p loose mg mb) (f := ⟨envOf _ _ s.heap.objs.size 399 _, s.heap, []⟩) (n := n) (σ := mkVars ["work"] [.fn fA] []) (x := Str.ofString "work") (d := .fn fA) (.head _) rfl rfl (by decide) _ _ _ [] _ hAd S fun v R₁ s₁ r₁ i₁ => ?_
  (first | refine Is.eInt i₁ fun _ => ?_ | refine Is.eFn i₁ ?_ | refine Is.eBool i₁ ?_ | refine Is.eStr i₁ fun _ => ?_ | refine Is.eNone i₁ ?_ | cases i₁)
  refine ⟨rfl, r₁.ext _ _ (hk₁ _ _ ho), ?_⟩
  have S₁ := S.gr r₁
  refine hwork _ _ s₁ _ _ hAd (Around.frames_deeper hfr) (S₁.ff hFF rfl rfl) (fun b o e => r₁.ext _ _ (hk₁ _ _ e)) fun e s₂ rs T => ?_
  have T₀ := T.base (h₀ := s.heap) fun b o e => r₁.ext _ _ (hk₁ _ _ e)
  refine taken (g := GG w p loose mg mb) (Around.frames_deeper hfr) T₀ (B.push rfl hLb) rfl (by with_unfolding_all rfl) (fun h' T' => ?_)
  refine wpAny_execs_cons (wpAny_Return_some (wpAny_Constant_bool ?_))
  refine q _ (((Rest.mk'.trans r₁.rest).trans rs).trans .heap) ⟨T'.up, fun b o hb hn => T'.cgt.keep b o hb fun hm => ?_⟩
  rw [frs, List.filterMap_cons] at hm
  rcases List.mem_cons.mp hm with rfl | hm
  · rw [hL] at hb; cases hb
  · exact hn hm
end
end
section
set_option maxHeartbeats 1000000
set_option maxRecDepth 100000
open PySem PySem.W PySem.Calls PyProof.Rows PySem.Spec
def BmOk (mg : Str → Option Value) (h : Heap) : Prop := ∃ bm ob, mg "__builtins__" = some (.ref bm) ∧ bm ≠ builtinsNs ∧ h.get? bm = some ob ∧ ob.cls = .type "module" ∧ ob.dict = some builtinsNs ∧ ob.data = .plain
theorem BmOk.keeps {mg : Str → Option Value} {h h' : Heap} (x : BmOk mg h) (k : ∀ b o, h.get? b = some o → h'.get? b = some o) : BmOk mg h' := by
  refine xe2_4 x fun a b c d e r => ?_
  try clear x
  exact ⟨a, b, c, d, k _ _ e, r⟩
theorem BmOk.at {mg : Str → Option Value} {h : Heap} {P : Addr} {ps : Array Value} (x : BmOk mg h) (hg : h.Ns mainGlobals mg) (hP : h.get? P = some (tabObj ps)) : h.BuiltinsAt mg P ∧ mainGlobals ≠ P := by
  refine xe2_6 x fun bm ob b1 b2 b3 b4 b5 b6 => ?_
  try clear x
  refine ⟨⟨bm, ob, b1, b2, fun q => ?_, fun q => ?_, b3, b4, b5, b6⟩, fun q => ?_⟩
  · refine xe3_3 hg fun o es ep e hd _ => ?_
    try clear hg
    rw [q, e] at b3; cases b3; rw [hd] at b6; cases b6
  · rw [q, hP] at b3; cases b3; cases b4
  · refine xe3_3 hg fun o es ep e hd _ => ?_
    try clear hg
    rw [q, hP] at e; cases e; cases hd

/-- a lambda of no parameters that raises -/
theorem lamRX {g : Gl} {n : Nat} {A : Around} {E : Value → Shared → Prop} {s : Shared} {R : Led} {Q : Value → Shared → Prop} {l : List Env} {fA c' : Addr} {name qual : Str} {body : Expr} {scope : Scope} {clos : List (Str × Addr)} {pm ctv : Value} {C : Value} {pay : Pay} {params : Arguments}
    (hA : AOk (n + 1) A) (hfr : A.frames = some l) (hFF : FF l s.heap) (hG : GlOk g s.heap) (hL : ∀ p ∈ R, s.heap.get? p.1 = some p.2)
    (ho : s.heap.get? fA = some (kla_obj name qual params body scope clos pm c' ctv)) (hcd : s.heap.CodeRec (.ref c') qual) (hbind : bindArgs (kla_fn name qual params body scope clos pm (.ref c') ctv) ⟨[], []⟩ = pure [])
    (hbody : ∀ L h₀, REV g ⟨envX qual scope L fA (.ref c') clos, h₀, R⟩ n [] body C pay)
    (q : ∀ e s', Rest s s' → Thrown l s.heap e C pay s'.heap → E (.ref e) s')
    (hcell : ∀ x ∈ scope.names, x.2 ≠ .cell) (hco : scope.isCoroutine = false := by rfl) (hgen : scope.isGenerator = false := by rfl) (hk : scope.kind = .function := by rfl) : wpAny g.M A (call (.ref fA) []) Q E s := by
  refine wpAny_call (kla_callFunE hA.room ho rfl hco hgen rfl hcd ?_)
  (refine rwt hbind ?_)
  refine wpAny_pure (wpAny_newFunctionEnv hcell (by intro x h; cases h) (fun h₁ hns hsb => ⟨(hG.t.nolimit).fresh _ hsb, ?_⟩) hk)
  show codeAny _ _ (.expr body (envX qual scope s.heap.objs.size fA (.ref c') clos)) _ _
  have hk₁ : ∀ b o, s.heap.get? b = some o → h₁.get? b = some o := fun b o e => hsb.extBut b o (Nat.ne_of_lt (Heap.lt_size e)) (Heap.get?_push_of_some _ e)
  have S : St g ⟨envX qual scope s.heap.objs.size fA (.ref c') clos, s.heap, R⟩ [] R h₁ := St.enter (names := []) (locals := []) (vs := []) (ds := []) hG hL .nil rfl .nil hns hk₁ rfl
  refine kla_codeExpr (wpAny_mono (hbody s.heap.objs.size s.heap _ _ _ R _ l hA.deeper (Around.frames_deeper hfr) rfl hFF S fun e' s' rs T => ?_) (fun _ _ x => x) fun _ _ x => x)
  exact leaveT (Around.frames_deeper hfr) rfl (Heap.get?_none_of_le (Nat.le_refl _)) T fun h' T' => q e' _ (Rest.mk'.trans (rs.trans .heap)) T'

/-- what a made and called lambda leaves: its table grown, the frames up to their slots, all else as it was -/
structure Lam (l : List Env) (P : Addr) (h h' : Heap) : Prop where
  up : ∀ b o, b ≠ P → h.get? b = some o → (∀ vs, o.data ≠ .fields vs) → ∃ sl, h'.get? b = some { o with slots := sl }
  keep : ∀ b o, b ≠ P → h.get? b = some o → b ∉ frs l → h'.get? b = some o
/-- a frame's state after it -/
theorem St.lam {g : Gl} {f : Fm} {σ : Vars} {R : Led} {h h' : Heap} {l : List Env} {P : Addr} (S : St g f σ R h) (no : noOwn σ = true) (x : Lam l P h h') (h0 : ∀ b, b = P ∨ b ∈ frs l → f.h₀.get? b = none) (hR : ∀ p ∈ R, p.1 ≠ P ∧ p.1 ∉ frs l) (hL : f.env.locals ≠ P) : St g f σ R h' := by
  refine xe1_1 S fun m S => ?_
  refine xe3_3 S.fr.ns fun o es ep ho hd hr => ?_
  obtain ⟨sl, ho'⟩ := x.up _ _ hL ho fun vs q => by rw [hd] at q; cases q
  refine ⟨m, ⟨⟨_, es, ep, ho', hd, hr⟩, fun b o e => x.keep b o (fun q => by rw [h0 b (.inl q)] at e; cases e) (S.fr.keep b o e) (fun q => by rw [h0 b (.inr q)] at e; cases e), S.fr.above⟩, S.gl, fun p hp => ⟨x.keep _ _ (hR p hp).1 (S.led p hp).1 (hR p hp).2, (S.led p hp).2⟩, S.sub, S.nd, S.vars, fun y ds hy => ?_, S.one⟩
  have := List.all_eq_true.mp no _ hy
  cases this
section
variable {w : World} {p : Program} {loose : List Str} {mg mb : Str → Option Value}
/-- _law_is_divided(lambda: body) -/
theorem isdivE {A : Around} {E : Value → Shared → Prop} {s : Shared} {R : Led} {Q : Value → Shared → Prop} {l : List Env} {n : Nat} {σ : Vars} {f : Fm} {c P : Addr} {ps : Array Value} {body : Expr} {scope : Scope} {clos : List (Str × Addr)} {np lp pos : Pos}
    (hA : AOk (n + 2) A) (hfr : A.frames = some (f.env :: l)) (hFF : FF (f.env :: l) s.heap) (hS : St (GG w p loose mg mb) f σ R s.heap) (h0 : ∀ b, b = P ∨ b ∈ frs (f.env :: l) → f.h₀.get? b = none) (hbm : BmOk mg f.h₀)
    (hcode : f.env.code = .ref c) (C : CodeHd f.h₀ c P) (hP : s.heap.get? P = some (tabObj ps)) (ht : TriplesOk ps.toList) (hnf : codeAmong lp ps.toList = none) (hcl : closureFor scope f.env = pure clos) (hqual : f.env.globals = mainGlobals)
    (hfl : f.env.frame = some f.env.locals) (hPf : P ∉ frs (f.env :: l))
    (hRP : ∀ p ∈ R, p.1 ≠ P ∧ p.1 ∉ frs (f.env :: l))
    (hbody : ∀ L h₀ fA c', REV (GG w p loose mg mb) ⟨envX (f.env.qual ++ "<lambda>") scope L fA (.ref c') clos, h₀, R⟩ n [] body (.ref 37) (fun _ _ => True))
    (hcell : ∀ x ∈ scope.names, x.2 ≠ .cell)
    (q : ∀ s' c', Rest s s' → Lam (f.env :: l) P s.heap s'.heap → s'.heap.get? P = some (tabObj (ps ++ #[rawInt lp.line, rawInt lp.col, .ref c'])) → Q (.bool true) s')
    (hk : f.env.scope.kind = .function := by rfl) (hx : f.env.kindOf "_law_is_divided" = some .globalImplicit := by rfl)
    (hs : starEach [.Lambda { posonlyargs := [], args := [], vararg := none, kwonlyargs := [], kw_defaults := [], kwarg := none, defaults := [] } body scope lp] f.env = [(false, eval (.Lambda { posonlyargs := [], args := [], vararg := none, kwonlyargs := [], kw_defaults := [], kwarg := none, defaults := [] } body scope lp) f.env)] := by rfl)
    (hco : scope.isCoroutine = false := by rfl) (hgen : scope.isGenerator = false := by rfl) (hkl : scope.kind = .function := by rfl) :
    wpAny (GG w p loose mg mb).M A (eval (.Call (.Name "_law_is_divided" np) [.Lambda { posonlyargs := [], args := [], vararg := none, kwonlyargs := [], kw_defaults := [], kwarg := none, defaults := [] } body scope lp] [] pos) f.env) Q E s := by
  (refine rwt (eval_Call_eq (by intro _ _ _ h; cases h)) ?_)
  have ev : EV (GG w p loose mg mb) f (n + 2) σ (.Name "_law_is_divided" np) (.fn 399) := EV.glob rfl hk hx hqual (by decide)
  refine wpAny_bind (ev A E s R _ hA hS fun v R₁ s₁ r₁ i₁ => ?_)
  (first | refine Is.eInt i₁ fun _ => ?_ | refine Is.eFn i₁ ?_ | refine Is.eBool i₁ ?_ | refine Is.eStr i₁ fun _ => ?_ | refine Is.eNone i₁ ?_ | cases i₁)
  have S₁ := hS.gr r₁
  have hP₁ := r₁.ext _ _ hP
  have hG₁ := S₁.glOk
  have kb : ∀ b o, f.h₀.get? b = some o → s₁.heap.get? b = some o := by obtain ⟨m, S⟩ := id S₁; exact S.fr.keep
  refine xe0_2 ((hbm.keeps kb).at hG₁.t.g hP₁) fun hba hgP => ?_
  have hkeep : keepIn (GG w p loose mg mb).K (.ref 399) = true := rfl
  refine callWith_K (K := (GG w p loose mg mb).K) (h₀ := s₁.heap) hG₁.k hkeep ?_ hs rfl
  (refine rwt hs ?_)
  refine wpAny_items_cons ?_ hs
  refine kla_eval rfl ?_
  refine (kla_makeFunction (mg := mg) hcl hqual hG₁.t.g hcode (C.keeps kb) hP₁ ht hnf hgP hba fun c' ctv h' tk hxt hge hlt hrec htb => ?_)
  refine wpAny_items_nil ?_
  have hPlt : P < s₁.heap.objs.size := Heap.lt_size hP₁
  have kb' : ∀ b o, f.h₀.get? b = some o → (h'.push (kla_obj "<lambda>" (f.env.qual ++ "<lambda>") { posonlyargs := [], args := [], vararg := none, kwonlyargs := [], kw_defaults := [], kwarg := none, defaults := [] } body scope clos ((mg "__name__").getD .none) c' ctv)).get? b = some o := fun b o e => Heap.get?_push_of_some _ (hxt b o (fun z => by rw [h0 b (.inl z)] at e; cases e) (kb b o e))
  generalize hH : h'.push (kla_obj "<lambda>" (f.env.qual ++ "<lambda>") { posonlyargs := [], args := [], vararg := none, kwonlyargs := [], kw_defaults := [], kwarg := none, defaults := [] } body scope clos ((mg "__name__").getD .none) c' ctv) = H at kb' ⊢
  have kH : ∀ b o, b ≠ P → s.heap.get? b = some o → H.get? b = some o := fun b o hb e => by (refine rws hH ?_); exact Heap.get?_push_of_some _ (hxt b o hb (r₁.ext _ _ e))
  have hfA : H.get? h'.objs.size = some (kla_obj "<lambda>" (f.env.qual ++ "<lambda>") { posonlyargs := [], args := [], vararg := none, kwonlyargs := [], kw_defaults := [], kwarg := none, defaults := [] } body scope clos ((mg "__name__").getD .none) c' ctv) := by (refine rws hH ?_); exact Heap.get?_push_size _ rfl
  have hFFH : FF (f.env :: l) H := fun env he => by
    refine xe0_2 (hFF env he) fun a r_0 => ?_
    refine xe2_3 r_0 fun L o b d e => ?_
    exact ⟨a, L, o, b, kH _ _ (fun z => hPf (z ▸ List.mem_filterMap.mpr ⟨env, he, b⟩)) d, e⟩
  have BH : Base (GG w p loose mg mb) f.h₀ (f.env :: l) H := ⟨by obtain ⟨m, S⟩ := id S₁; exact S.gl, kb', fun b hb => h0 b (.inr hb)⟩
  have hLH : ∀ p ∈ R, H.get? p.1 = some p.2 := fun p hp => kH _ _ (hRP p hp).1 (hS.ledIn p hp)
  have hrecH : H.CodeRec (.ref c') (f.env.qual ++ "<lambda>") := by (refine rws hH ?_); exact hrec.keeps fun b o e => Heap.get?_push_of_some _ e
  have htH : H.get? P = some (tabObj (ps ++ #[rawInt lp.line, rawInt lp.col, .ref c'])) := by (refine rws hH ?_); exact Heap.get?_push_of_some _ htb
  refine ⟨BH.glOk.k, ?_⟩
  refine isdiv (n := n + 1) (s := { s₁ with heap := H, toks := tk }) hA hfr hFFH BH hfA rfl (fun A' E' s' Q' env' hA' hfr' hFF' k' qq => ?_) fun s' rs cg => ?_
  · exact lamRX hA' hfr' hFF' (BH.glOk.keeps k') (fun p hp => k' _ _ (hLH p hp)) (k' _ _ hfA) (hrecH.keeps k') rfl (fun L h₀ => hbody L h₀ _ _) qq hcell hco hgen hkl
  · refine q s' c' ((r₁.rest.trans .mk').trans rs) ⟨fun b o hb e hn => cg.up b o (kH b o hb e) hn, fun b o hb e hn => cg.keep b o (kH b o hb e) hn⟩ (cg.keep _ _ htH hPf)
end
end
section
set_option maxHeartbeats 1000000
set_option maxRecDepth 100000
open PySem PySem.W PySem.Calls PyProof.Rows PySem.Spec
section
variable {g : Gl} {f : Fm} {n : Nat} {σ : Vars}
/-- the same state over a smaller base -/
theorem St.rebase {env : Env} {h₀ b₀ h : Heap} {R₀ : Led} (S : St g ⟨env, h₀, R₀⟩ σ R₀ h) (no : noOwn σ = true) (hG : GlOk g b₀) (hs : ∀ b o, b₀.get? b = some o → h₀.get? b = some o) (hz : b₀.objs.size ≤ env.locals) : St g ⟨env, b₀, R₀⟩ σ R₀ h := by
  refine xe1_1 S fun m S => ?_
  refine ⟨m, ⟨S.fr.ns, fun b o e => S.fr.keep _ _ (hs _ _ e), hz⟩, hG, fun p hp => ⟨(S.led p hp).1, (S.led p hp).2.1, .inl hp⟩, fun _ h => h, S.nd, S.vars, fun x ds hx => ?_, S.one⟩
  have := List.all_eq_true.mp no _ hx
  cases this
theorem CellAt.mono {env : Env} {h₀ h₀' : Heap} {R₀ R₀' : Led} {x : Str} {d : D} (h : CellAt ⟨env, h₀, R₀⟩ x d) (hs : ∀ p ∈ R₀, p ∈ R₀') : CellAt ⟨env, h₀', R₀'⟩ x d := by
  refine xe3_4 h fun c o v h1 h2 h3 h4 => ?_
  try clear h
  exact ⟨c, o, v, h1, hs _ h2, h3, h4.mono hs⟩
/-- an empty cell filled -/
theorem St.cellSet {R : Led} {h h' : Heap} {c : Addr} {o' : Obj} (S : St g f σ R h) (no : noOwn σ = true) (hc0 : f.h₀.get? c = none) (hcR : ∀ p ∈ R, p.1 ≠ c) (hcL : c ≠ f.env.locals) (hs : Heap.SameBut c h h') (ho : h'.get? c = some o') :
    St g ⟨f.env, f.h₀, (c, o') :: R⟩ σ ((c, o') :: R) h' := by
  refine xe1_1 S fun m S => ?_
  refine ⟨m, ⟨S.fr.ns.sameBut hs (Ne.symm hcL), fun b o e => (hs.2 b (fun q => by rw [q, hc0] at e; cases e)).trans (S.fr.keep b o e), S.fr.above⟩, S.gl, fun p hp => ?_, fun _ h => h, S.nd, fun x d hx => ?_, fun x ds hx => ?_, S.one⟩
  · rcases List.mem_cons.mp hp with rfl | hp
    · exact ⟨ho, hcL, .inl (.head _)⟩
    · exact ⟨(hs.2 _ (hcR p hp)).trans (S.led p hp).1, (S.led p hp).2.1, .inl (.tail _ hp)⟩
  · refine xe1_2 (S.vars x d hx) fun v hv i => ?_
    exact ⟨v, hv, i.mono fun p hp => .tail _ hp⟩
  · have := List.all_eq_true.mp no _ hx
    cases this
/-- x = e, x a captured name still empty -/
theorem assignCell {A : Around} {E : Value → Shared → Prop} {s : Shared} {R : Led} {Q : Flow → Shared → Prop} {x : Str} {p pos : Pos} {e : Expr} {d : D} {c : Addr} {env : Env} {h₀ : Heap} {R₀ : Led} (hA : AOk n A) (S : St g ⟨env, h₀, R₀⟩ σ R s.heap) (no : noOwn σ = true) (he : EV g ⟨env, h₀, R₀⟩ n σ e d)
    (hc : env.cells.lookup x = some c) (hcell : s.heap.IsCell c none) (hc0 : h₀.get? c = none) (hcR : ∀ p ∈ R, p.1 ≠ c) (hcL : c ≠ env.locals)
    (q : ∀ s' R', Rest s s' → (∀ p ∈ R, p ∈ R') → (∀ p ∈ R', p ∈ R ∨ s.heap.get? p.1 = none ∨ p.1 = c) → (∀ b o, b ≠ c → s.heap.get? b = some o → s'.heap.get? b = some o) → St g ⟨env, h₀, R'⟩ σ R' s'.heap → CellAt ⟨env, h₀, R'⟩ x d → Q .next s')
    (hs : swapsWith e (some (.Name x p)) pos.line env = pure false := by rfl) (hk : env.scope.kind = .function := by rfl) (hl : env.kindOf x = some .cell := by rfl) : wpAny g.M A (exec (.Assign [.Name x p] e pos) env) Q E s := by
  refine wpAny_Assign_Name (he A E s R _ hA S fun v R₁ s₁ r₁ i₁ => ?_) hs
  refine wpAny_storeName_cell hk hl hc (hcell.keeps r₁.ext) fun h' hv hsb => ?_
  refine xe1_2 hv fun o' ho' hd' => ?_
  try clear hv
  have hcR₁ : ∀ p ∈ R₁, p.1 ≠ c := fun p hp e => by
    rcases r₁.new p hp with z | z
    · exact hcR p z e
    · refine xe1_2 hcell fun o ho _ => ?_
      try clear hcell
      rw [e, ho] at z; cases z
  refine q { s₁ with heap := h' } ((c, o') :: R₁) (r₁.rest.trans .heap) (fun p hp => .tail _ (r₁.sub p hp)) (fun p hp => ?_) (fun b o hb e => (hsb.2 b hb).trans (r₁.ext _ _ e)) ((S.gr r₁).cellSet no hc0 hcR₁ hcL hsb ho') ⟨c, o', v, hc, .head _, hd', i₁.mono fun p hp => .tail _ hp⟩
  rcases List.mem_cons.mp hp with rfl | hp
  · exact .inr (.inr rfl)
  · rcases r₁.new p hp with z | z
    · exact .inl z
    · exact .inr (.inl z)
/-- what holds in a frame made at s's end: all of s stands, the ledger has no frame and no table -/
def RI (l : List Env) (P : Addr) (s : Shared) (R' : Led) (s' : Shared) : Prop :=
  Rest s s' ∧ (∀ b o, s.heap.get? b = some o → s'.heap.get? b = some o) ∧ (∃ o, s'.heap.get? s.heap.objs.size = some o) ∧ (∀ p ∈ R', p.1 ≠ P ∧ p.1 ∉ (s.heap.objs.size :: frs l))
/-- statements up to a return of True -/
def KP (g : Gl) (f : Fm) (n : Nat) (l : List Env) (σ : Vars) (ss : List Stmt) (I : Led → Shared → Prop) (Post : Shared → Prop) : Prop :=
  ∀ (A : Around) (E : Value → Shared → Prop) (s : Shared) (R : Led) (Q : Flow → Shared → Prop), AOk n A → A.frames = some (f.env :: l) → St g f σ R s.heap → I R s → (∀ s', Post s' → Q (.ret (.bool true)) s') → wpAny g.M A (execs ss f.env) Q E s
theorem KP.run {l : List Env} {ss : List Stmt} {I : Led → Shared → Prop} {Post : Shared → Prop} {env : Env} {h₀ : Heap} {R₀ : Led} {A : Around} {E : Value → Shared → Prop} {s : Shared} {R : Led} {Q : Flow → Shared → Prop} (hA : AOk n A) (hfr : A.frames = some (env :: l)) (hS : St g ⟨env, h₀, R₀⟩ σ R s.heap) (hi : I R s) (q : ∀ s', Post s' → Q (.ret (.bool true)) s') (h : KP g ⟨env, h₀, R₀⟩ n l σ ss I Post) : wpAny g.M A (execs ss env) Q E s :=
  h A E s R Q hA hfr hS hi q
theorem KP.stmt {l : List Env} {st : Stmt} {rest : List Stmt} {I : Led → Shared → Prop} {Post : Shared → Prop} (hI : ∀ R s R' s', LRes f R s R' s' → I R s → I R' s') (h : LX g f n σ st (fun o => ∃ σ', o = .next σ' ∧ KP g f n l σ' rest I Post) (fun _ _ _ => False)) : KP g f n l σ (st :: rest) I Post :=
  fun A E s R Q hA hfr hS hi q => wpAny_execs_cons (h A E s R _ hA hS (fun o fl R₁ s₁ hq r₁ ok => by
    obtain ⟨σ', rfl, hk⟩ := hq
    obtain ⟨rfl, S₁⟩ := ok
    exact hk A E s₁ R₁ Q hA hfr S₁ (hI _ _ _ _ r₁ hi) q) fun _ _ _ _ _ _ h => h.elim)
theorem KP.ifT {l : List Env} {t : Expr} {body orelse : List Stmt} {pos : Pos} {rest : List Stmt} {I : Led → Shared → Prop} {Post : Shared → Prop} (hI : ∀ R s R' s', LRes f R s R' s' → I R s → I R' s') (h : TR g f n σ t true) (hb : KP g f n l σ body I Post) : KP g f n l σ (.If t body orelse pos :: rest) I Post :=
  fun A E s R Q hA hfr hS hi q => wpAny_execs_cons (wpAny_If (h A E s R _ hA hS fun R₁ s₁ r₁ => hb A E s₁ R₁ _ hA hfr (hS.gr r₁) (hI _ _ _ _ (r₁.lres hS) hi) fun s' hp => q s' hp))
theorem CellAt.to {env env' : Env} {h₀ h₀' : Heap} {R₀ R₀' : Led} {x : Str} {d : D} (h : CellAt ⟨env, h₀, R₀⟩ x d) (hl : env'.cells.lookup x = env.cells.lookup x) (hs : ∀ p ∈ R₀, p ∈ R₀') : CellAt ⟨env', h₀', R₀'⟩ x d := by
  refine xe3_4 h fun c o v h1 h2 h3 h4 => ?_
  try clear h
  exact ⟨c, o, v, hl.trans h1, hs _ h2, h3, h4.mono hs⟩
theorem Lam.trans {l : List Env} {P : Addr} {h h' h'' : Heap} (x : Lam l P h h') (y : Lam l P h' h'') : Lam l P h h'' := by
  refine ⟨fun b o hb e hn => ?_, fun b o hb e hm => y.keep b o hb (x.keep b o hb e hm) hm⟩
  refine xe1_1 (x.up b o hb e hn) fun sl e' => ?_
  refine xe1_1 (y.up b { o with slots := sl } hb e' hn) fun sl' e'' => ?_
  exact ⟨sl', e''⟩
/-- seen from the caller -/
theorem Lam.out {l : List Env} {P : Addr} {s s' : Shared} {env : Env} {h'' : Heap} {R' : Led} (hf : env.frame = some s.heap.objs.size) (i : RI l P s R' s') (x : Lam (env :: l) P s'.heap h'') : Lam l P s.heap h'' :=
  ⟨fun b o hb e hn => x.up b o hb (i.2.1 b o e) hn, fun b o hb e hm => x.keep b o hb (i.2.1 b o e) fun z => by
    rw [frs, List.filterMap_cons, hf] at z
    rcases List.mem_cons.mp z with z | z
    · rw [z, Heap.get?_none_of_le (Nat.le_refl _)] at e; cases e
    · exact hm z⟩
theorem KP.ret {l : List Env} {e : Expr} {pos : Pos} {rest : List Stmt} {I : Led → Shared → Prop} {Post : Shared → Prop} (hI : ∀ R s R' s', LRes f R s R' s' → I R s → I R' s') (h : EV g f n σ e (.bool true)) (hP : ∀ R s, I R s → Post s) : KP g f n l σ (.Return (some e) pos :: rest) I Post :=
  fun A E s R Q hA hfr hS hi q => wpAny_execs_cons (wpAny_Return_some (h A E s R _ hA hS fun v R₁ s₁ r₁ i₁ => by
    (first | refine Is.eInt i₁ fun _ => ?_ | refine Is.eFn i₁ ?_ | refine Is.eBool i₁ ?_ | refine Is.eStr i₁ fun _ => ?_ | refine Is.eNone i₁ ?_ | cases i₁)
    exact q s₁ (hP R₁ s₁ (hI _ _ _ _ (r₁.lres hS) hi))))
end
/-- a call of a def with captured parameters, down to its body's state -/
theorem call_CE {g : Gl} {n : Nat} {A : Around} {E : Value → Shared → Prop} {s : Shared} {R : Led} {vs : List Value} {Q : Value → Shared → Prop} {a : Addr} {ds : List D} {name : Str} {params : Arguments} {body : List Stmt} {scope : Scope} {doc pm cdv oc : Value} {od : Option Addr} {osl : Array (Option Value)} (names : List Str) (lp cp : List (Str × D)) (un : List Str)
    (ho : g.K.lookup a = some ⟨oc, od, .func (docDef name params body scope pm cdv doc), osl⟩) (hcd : codeIn g.K cdv name = true)
    (hb : ∀ vs : List Value, vs.length = ds.length → bindArgs (docDef name params body scope pm cdv doc) ⟨vs, []⟩ = pure (names.zip vs))
    (hn : names.length = ds.length) (hnd : names.Nodup) (hσ : ((lp.map (·.1)) ++ un).Nodup)
    (hkind : ∀ k, (names.all fun x => scope.names.lookup x == some .local || (scope.names.lookup x == some .cell && ((cellsFrom k scope.names []).lookup x).isSome)) = true)
    (hlp : ∀ q ∈ lp, q ∈ names.zip ds) (hlpk : (lp.all fun q => scope.names.lookup q.1 == some .local) = true) (hcp : ∀ q ∈ cp, q ∈ names.zip ds) (hcpk : ∀ k, (cp.all fun q => scope.names.lookup q.1 == some .cell && ((cellsFrom k scope.names []).lookup q.1).isSome) = true)
    (hA : AOk (n + 1) A) (hG : GlOk g s.heap) (hL : ∀ p ∈ R, s.heap.get? p.1 = some p.2) (hI : IsAll R vs ds)
    (h : ∀ h₁ tk cells, (∀ q ∈ cp, CellAt ⟨envOfC name scope s.heap.objs.size a cdv, s.heap, cells ++ R⟩ q.1 q.2) →
      St g ⟨envOfC name scope s.heap.objs.size a cdv, s.heap, cells ++ R⟩ (lp.map (fun p => (p.1, Sl.val p.2)) ++ un.map fun x => (x, .un)) (cells ++ R) h₁ →
      (∀ p ∈ cells, ∃ q ∈ cp, (cellsFrom (s.heap.objs.size + 1) scope.names []).lookup q.1 = some p.1) →
      (∀ x c, (cellsFrom (s.heap.objs.size + 1) scope.names []).lookup x = some c → x ∉ names → h₁.IsCell c none) →
      (∀ b o, s.heap.get? b = some o → h₁.get? b = some o) → AOk n (A.deeper (envOfC name scope s.heap.objs.size a cdv)) →
      wpAny g.M (A.deeper (envOfC name scope s.heap.objs.size a cdv)) (execs body (envOfC name scope s.heap.objs.size a cdv)) (fun fl s' => Q (match fl with | .ret v => v | _ => .none) s')
        (fun e s' => wpAny g.M (A.deeper (envOfC name scope s.heap.objs.size a cdv)) (leaving (envOfC name scope s.heap.objs.size a cdv) e) (fun _ s'' => E e s'') (fun e' s'' => E e' s'') s') { s with heap := h₁, toks := tk })
    (hco : scope.isCoroutine = false := by rfl) (hgen : scope.isGenerator = false := by rfl) (hk : scope.kind = .function := by rfl) : wpAny g.M A (call (.ref a) vs) Q E s := by
  refine call_C ho hcd hA hG (hb vs hI.length) (kinds_of (hkind _)) (fun h₁ tk F X => ?_) hco hgen hk
  obtain ⟨cells, c1, c2, c3, c4⟩ := St.enterC (env := envOfC name scope s.heap.objs.size a cdv) lp cp un hG hL hI rfl rfl F X hnd hn (fun q hq => ⟨hlp q hq, by
    have := List.all_eq_true.mp hlpk q hq
    exact beq_iff_eq.mp this⟩) (fun q hq => by
    have := List.all_eq_true.mp (hcpk (s.heap.objs.size + 1)) q hq
    rw [Bool.and_eq_true] at this
    exact ⟨hcp q hq, beq_iff_eq.mp this.1, this.2⟩) hσ
  refine h h₁ tk cells c1 c2 c4 (fun x c hc hx => ?_) F.keep hA.deeper
  have := X.cell x c hc
  rwa [bindC_out (by (refine rwt (List.map_fst_zip (by rw [hI.length, hn]; exact Nat.le_refl _)) ?_); exact hx)] at this
theorem frs_old {l : List Env} {h : Heap} (hFF : FF l h) : ∀ b ∈ frs l, ∃ o, h.get? b = some o := fun b hb => by
  refine xe1_2 (List.mem_filterMap.mp hb) fun env he hf => ?_
  refine xe0_2 (hFF env he) fun _ r_0 => ?_
  refine xe2_3 r_0 fun L o b' d' _ => ?_
  rw [hf] at b'; cases b'
  exact ⟨o, d'⟩
theorem RI.lres {l : List Env} {P : Addr} {s : Shared} {f : Fm} {R' R'' : Led} {s' s'' : Shared} (hL : f.env.locals = s.heap.objs.size) (hFF : FF l s.heap) (hP : ∃ o, s.heap.get? P = some o) (r : LRes f R' s' R'' s'') (i : RI l P s R' s') : RI l P s R'' s'' := by
  refine xe0_4 i fun i1 i2 i3 i4 => ?_
  try clear i
  refine ⟨i1.trans r.rest, fun b o e => r.but b o (fun z => ?_) (i2 b o e), hL ▸ r.loc, fun p hp => ?_⟩
  · rw [z, hL, Heap.get?_none_of_le (Nat.le_refl _)] at e; cases e
  · rcases r.new p hp with h | h
    · exact i4 p h
    · refine ⟨fun z => ?_, fun z => ?_⟩
      · refine xe1_1 hP fun o ho => ?_
        try clear hP
        rw [z, i2 _ _ ho] at h; cases h
      · rcases List.mem_cons.mp z with z | z
        · refine xe1_1 i3 fun o ho => ?_
          try clear i3
          rw [z, ho] at h; cases h
        · refine xe1_1 (frs_old hFF _ z) fun o ho => ?_
          rw [i2 _ _ ho] at h; cases h
theorem RI.stable {l : List Env} {P : Addr} {s : Shared} {name : Str} {scope : Scope} {a : Addr} {cd : Value} {b₀ : Heap} {R₀ : Led} (hFF : FF l s.heap) (hP : ∃ o, s.heap.get? P = some o) : ∀ R' s' R'' s'', LRes ⟨envOfC name scope s.heap.objs.size a cd, b₀, R₀⟩ R' s' R'' s'' → RI l P s R' s' → RI l P s R'' s'' :=
  fun _ _ _ _ r i => RI.lres rfl hFF hP r i
theorem RI.post {l : List Env} {P : Addr} {s : Shared} {R' : Led} {s' : Shared} {ps : Array Value} (i : RI l P s R' s') (hP : s.heap.get? P = some (tabObj ps)) : Rest s s' ∧ Lam l P s.heap s'.heap ∧ ∃ ps, s'.heap.get? P = some (tabObj ps) :=
  ⟨i.1, ⟨fun b o _ e _ => ⟨o.slots, i.2.1 b o e⟩, fun b o _ e _ => i.2.1 b o e⟩, _, i.2.1 _ _ hP⟩
end
section
set_option maxHeartbeats 1000000
set_option maxRecDepth 100000
open PySem PySem.W PySem.Calls PyProof.Rows PySem.Spec
abbrev noArgs : Arguments := { posonlyargs := [], args := [], vararg := none, kwonlyargs := [], kw_defaults := [], kwarg := none, defaults := [] }
section
variable {w : World} {p : Program} {loose : List Str} {mg mb : Str → Option Value}
/-- what the frame's lambdas need -/
structure LamAt (l : List Env) (P : Addr) (b₀ : Heap) (s : Shared) : Prop where
  hFF : FF l s.heap
  out : ∀ b ∈ frs l, b₀.get? b = none
  hz : b₀.objs.size ≤ s.heap.objs.size
  hP0 : b₀.get? P = none
  hP : s.heap.get? P = some (tabObj #[])
  hPl : P ∉ frs l
theorem LamAt.frame {l : List Env} {P : Addr} {b₀ : Heap} {s : Shared} {env : Env} (x : LamAt l P b₀ s) (hf : env.frame = some s.heap.objs.size) : (∀ b, b = P ∨ b ∈ frs (env :: l) → b₀.get? b = none) ∧ P ∉ frs (env :: l) := by
  have e : frs (env :: l) = s.heap.objs.size :: frs l := by (rewrite [frs]; refine rwt List.filterMap_cons ?_; refine rwt hf ?_; with_reducible rfl)
  (refine rwt e ?_)
  refine ⟨fun b hb => ?_, fun hm => ?_⟩
  · rcases hb with rfl | hb
    · exact x.hP0
    · rcases List.mem_cons.mp hb with rfl | hb
      · exact Heap.get?_none_of_le x.hz
      · exact x.out b hb
  · rcases List.mem_cons.mp hm with h | h
    · have := Heap.lt_size x.hP
      rw [h] at this
      exact absurd this (Nat.lt_irrefl _)
    · exact x.hPl h
theorem LamAt.ffs {l : List Env} {P : Addr} {b₀ : Heap} {s s' : Shared} {R' : Led} {env : Env} {h₀ : Heap} {R₀ : Led} {g : Gl} {σ : Vars} (x : LamAt l P b₀ s) (i : RI l P s R' s') (S : St g ⟨env, h₀, R₀⟩ σ R' s'.heap) (hf : env.frame = some env.locals) (hk : env.scope.kind = .function) : FF (env :: l) s'.heap := fun env' he => by
  rcases List.mem_cons.mp he with rfl | he
  · refine xe1_1 S fun m S => ?_
    refine xe3_3 S.fr.ns fun o es ep ho hd _ => ?_
    exact ⟨by (refine rwt hk ?_); decide, _, o, hf, ho, fun vs q => by rw [hd] at q; cases q⟩
  · exact (x.hFF.keeps i.2.1) env' he
/-- return _law_is_divided(lambda: ..) and _law_is_divided(lambda: ..) -/
theorem KP.div2 {n : Nat} {l : List Env} {P a c : Addr} {s : Shared} {σ : Vars} {name : Str} {scope : Scope} {b₀ : Heap} {R₀ : Led} {body₁ body₂ : Expr} {scope₁ scope₂ : Scope} {clos₁ clos₂ : List (Str × Addr)} {np₁ np₂ lp₁ lp₂ pos₁ pos₂ ap pos : Pos} {rest : List Stmt}
    (H : LamAt l P b₀ s) (no : noOwn σ = true) (hbm : BmOk mg b₀) (C : CodeHd b₀ c P)
    (hne : (lp₁.line == lp₂.line && lp₁.col == lp₂.col) = false)
    (hcl₁ : closureFor scope₁ (envOfC name scope s.heap.objs.size a (.ref c)) = pure clos₁) (hcl₂ : closureFor scope₂ (envOfC name scope s.heap.objs.size a (.ref c)) = pure clos₂)
    (hb₁ : ∀ L h₀ fA c' R', (∀ p ∈ R₀, p ∈ R') → REV (GG w p loose mg mb) ⟨envX ((envOfC name scope s.heap.objs.size a (.ref c)).qual ++ "<lambda>") scope₁ L fA (.ref c') clos₁, h₀, R'⟩ n [] body₁ (.ref 37) (fun _ _ => True))
    (hb₂ : ∀ L h₀ fA c' R', (∀ p ∈ R₀, p ∈ R') → REV (GG w p loose mg mb) ⟨envX ((envOfC name scope s.heap.objs.size a (.ref c)).qual ++ "<lambda>") scope₂ L fA (.ref c') clos₂, h₀, R'⟩ n [] body₂ (.ref 37) (fun _ _ => True))
    (hc₁ : ∀ x ∈ scope₁.names, x.2 ≠ .cell) (hc₂ : ∀ x ∈ scope₂.names, x.2 ≠ .cell)
    (hk : scope.kind = .function := by rfl) (hx : (envOfC name scope s.heap.objs.size a (.ref c)).kindOf "_law_is_divided" = some .globalImplicit := by rfl)
    (hs₁ : starEach [.Lambda noArgs body₁ scope₁ lp₁] (envOfC name scope s.heap.objs.size a (.ref c)) = [(false, eval (.Lambda noArgs body₁ scope₁ lp₁) (envOfC name scope s.heap.objs.size a (.ref c)))] := by rfl)
    (hs₂ : starEach [.Lambda noArgs body₂ scope₂ lp₂] (envOfC name scope s.heap.objs.size a (.ref c)) = [(false, eval (.Lambda noArgs body₂ scope₂ lp₂) (envOfC name scope s.heap.objs.size a (.ref c)))] := by rfl)
    (hco₁ : scope₁.isCoroutine = false := by rfl) (hgen₁ : scope₁.isGenerator = false := by rfl) (hkl₁ : scope₁.kind = .function := by rfl)
    (hco₂ : scope₂.isCoroutine = false := by rfl) (hgen₂ : scope₂.isGenerator = false := by rfl) (hkl₂ : scope₂.kind = .function := by rfl) :
    KP (GG w p loose mg mb) ⟨envOfC name scope s.heap.objs.size a (.ref c), b₀, R₀⟩ (n + 2) l σ
      (.Return (some (.BoolOp .And [.Call (.Name "_law_is_divided" np₁) [.Lambda noArgs body₁ scope₁ lp₁] [] pos₁, .Call (.Name "_law_is_divided" np₂) [.Lambda noArgs body₂ scope₂ lp₂] [] pos₂] ap)) pos :: rest)
      (RI l P s) (fun s' => Rest s s' ∧ Lam l P s.heap s'.heap ∧ ∃ ps, s'.heap.get? P = some (tabObj ps)) := by
  intro A E s' R' Q hA hfr hS i q
  refine xe0_2 (H.frame (env := envOfC name scope s.heap.objs.size a (.ref c)) rfl) fun h0 hPf => ?_
  have hFF' := H.ffs i hS rfl hk
  have hsub : ∀ p ∈ R₀, p ∈ R' := by obtain ⟨m, S⟩ := id hS; exact S.sub
  refine wpAny_execs_cons (wpAny_Return_some (wpAny_And2 ?_))
  refine isdivE (ps := #[]) (f := ⟨envOfC name scope s.heap.objs.size a (.ref c), b₀, R₀⟩) (c := c) (P := P) (clos := clos₁) hA hfr hFF' hS h0 hbm rfl C (i.2.1 _ _ H.hP) (show TriplesOk [] from trivial) rfl hcl₁ rfl rfl hPf i.2.2.2 (fun L h₀ fA c' => hb₁ L h₀ fA c' R' hsub) hc₁ (fun s₂ c' rs lam htab => ?_) hk hx hs₁ hco₁ hgen₁ hkl₁
  refine wpAny_truthy_bool ?_
  (refine rwt (if_pos rfl) ?_)
  have hPL : s.heap.objs.size ≠ P := fun e => by
    have := Heap.lt_size H.hP
    rw [← e] at this
    exact absurd this (Nat.lt_irrefl _)
  have S₂ := hS.lam no lam h0 i.2.2.2 hPL
  have hFF₂ : FF (envOfC name scope s.heap.objs.size a (.ref c) :: l) s₂.heap := fun env' he => by
    refine xe0_2 (hFF' env' he) fun x1 r_0 => ?_
    refine xe2_3 r_0 fun L o x2 x3 x4 => ?_
    refine xe1_1 (lam.up L o (fun z => hPf (z ▸ List.mem_filterMap.mpr ⟨env', he, x2⟩)) x3 x4) fun sl e => ?_
    exact ⟨x1, L, _, x2, e, x4⟩
  refine isdivE (ps := #[] ++ #[rawInt lp₁.line, rawInt lp₁.col, .ref c']) (f := ⟨envOfC name scope s.heap.objs.size a (.ref c), b₀, R₀⟩) (c := c) (P := P) (clos := clos₂) hA hfr hFF₂ S₂ h0 hbm rfl C htab ?_ ?_ hcl₂ rfl rfl hPf i.2.2.2 (fun L h₀ fA c' => hb₂ L h₀ fA c' R' hsub) hc₂ (fun s₃ c'' rs' lam' htab' => ?_) hk hx hs₂ hco₂ hgen₂ hkl₂
  · exact TriplesOk_snoc _ _ _ [] trivial
  · have e : (#[] ++ #[rawInt lp₁.line, rawInt lp₁.col, .ref c'] : Array Value).toList = [rawInt lp₁.line, rawInt lp₁.col, .ref c'] := rfl
    (refine rwt e ?_)
    have hne' : ((lp₁.line : Int) == (lp₂.line : Int) && (lp₁.col : Int) == (lp₂.col : Int)) = false := by
      rw [Bool.and_eq_false_iff] at hne ⊢
      rcases hne with h | h
      · left
        rw [beq_eq_false_iff_ne] at h ⊢
        exact fun z => h (Int.ofNat.inj z)
      · right
        rw [beq_eq_false_iff_ne] at h ⊢
        exact fun z => h (Int.ofNat.inj z)
    show (if ((lp₁.line : Int) == (lp₂.line : Int) && (lp₁.col : Int) == (lp₂.col : Int)) = true then some (.ref c') else codeAmong lp₂ []) = none
    (refine rwt hne' ?_)
    rfl
  · exact q s₃ ⟨(i.1.trans rs).trans rs', Lam.out rfl i (lam.trans lam'), _, htab'⟩
/-- return _law_is_divided(lambda: ..) -/
theorem KP.div1 {n : Nat} {l : List Env} {P a c : Addr} {s : Shared} {σ : Vars} {name : Str} {scope : Scope} {b₀ : Heap} {R₀ : Led} {body₁ : Expr} {scope₁ : Scope} {clos₁ : List (Str × Addr)} {np₁ lp₁ pos₁ pos : Pos} {rest : List Stmt}
    (H : LamAt l P b₀ s) (hbm : BmOk mg b₀) (C : CodeHd b₀ c P)
    (hcl₁ : closureFor scope₁ (envOfC name scope s.heap.objs.size a (.ref c)) = pure clos₁)
    (hb₁ : ∀ L h₀ fA c' R', (∀ p ∈ R₀, p ∈ R') → REV (GG w p loose mg mb) ⟨envX ((envOfC name scope s.heap.objs.size a (.ref c)).qual ++ "<lambda>") scope₁ L fA (.ref c') clos₁, h₀, R'⟩ n [] body₁ (.ref 37) (fun _ _ => True))
    (hc₁ : ∀ x ∈ scope₁.names, x.2 ≠ .cell)
    (hk : scope.kind = .function := by rfl) (hx : (envOfC name scope s.heap.objs.size a (.ref c)).kindOf "_law_is_divided" = some .globalImplicit := by rfl)
    (hs₁ : starEach [.Lambda noArgs body₁ scope₁ lp₁] (envOfC name scope s.heap.objs.size a (.ref c)) = [(false, eval (.Lambda noArgs body₁ scope₁ lp₁) (envOfC name scope s.heap.objs.size a (.ref c)))] := by rfl)
    (hco₁ : scope₁.isCoroutine = false := by rfl) (hgen₁ : scope₁.isGenerator = false := by rfl) (hkl₁ : scope₁.kind = .function := by rfl) :
    KP (GG w p loose mg mb) ⟨envOfC name scope s.heap.objs.size a (.ref c), b₀, R₀⟩ (n + 2) l σ
      (.Return (some (.Call (.Name "_law_is_divided" np₁) [.Lambda noArgs body₁ scope₁ lp₁] [] pos₁)) pos :: rest)
      (RI l P s) (fun s' => Rest s s' ∧ Lam l P s.heap s'.heap ∧ ∃ ps, s'.heap.get? P = some (tabObj ps)) := by
  intro A E s' R' Q hA hfr hS i q
  refine xe0_2 (H.frame (env := envOfC name scope s.heap.objs.size a (.ref c)) rfl) fun h0 hPf => ?_
  have hFF' := H.ffs i hS rfl hk
  have hsub : ∀ p ∈ R₀, p ∈ R' := by obtain ⟨m, S⟩ := id hS; exact S.sub
  refine wpAny_execs_cons (wpAny_Return_some ?_)
  exact isdivE (ps := #[]) (f := ⟨envOfC name scope s.heap.objs.size a (.ref c), b₀, R₀⟩) (c := c) (P := P) (clos := clos₁) hA hfr hFF' hS h0 hbm rfl C (i.2.1 _ _ H.hP) (show TriplesOk [] from trivial) rfl hcl₁ rfl rfl hPf i.2.2.2 (fun L h₀ fA c' => hb₁ L h₀ fA c' R' hsub) hc₁ (fun s₂ c' rs lam htab => q s₂ ⟨i.1.trans rs, Lam.out rfl i lam, _, htab⟩) hk hx hs₁ hco₁ hgen₁ hkl₁
end
end
section
set_option maxHeartbeats 1000000
set_option maxRecDepth 100000
open PySem PySem.W PySem.Calls PyProof.Rows PySem.Spec PySem.Builtin.ObjectAttr
section
variable {prog : Program} {w : World} {A : Around} {E : Value → Shared → Prop} {s : Shared} {K : Frag} {e C : Addr} {ox od : Obj}
theorem exc_getattr {v : Value} {name : Str} {expr : Bool} {Q : Value → Shared → Prop} (X : K.In s.heap) (I : InstAt s.heap e ox C (some od)) (hga : findIn K (.ref C) "__getattribute__" = some (some (.builtin "BaseException.__getattribute__"))) (hg : findIn K (.ref C) "__getattr__" = some none)
    (hm : mroIn K C (.type "BaseException") = some true) (hf : findObj K C (some od) name = some (.value v)) (hh : handedIn v = true) (h : Q v { s with toks := s.toks + 1 }) : wpAny (model prog w) A (getAttr (.ref e) name expr) Q E s := by
  obtain ⟨hh', g, d, t, os⟩ := s
  have L0 := I.type (M := model prog w)
  have L1 := looks_findIn (M := model prog w) X hga
  have L2 := looks_findIn (M := model prog w) X hg
  have L3 := looks_find (M := model prog w) X I hf
  have L4 := looks_mroIn (M := model prog w) X hm
  unfold getAttr getAttrBy
  refine wpAny_bind (wpAny_mkText (wpAny_holding (wpAny_bind (L0.at (wpAny_bind (L1.at ?_))))))
  show wpAny _ _ (getAttrByItsOwn (.ref e) (.str name t) (.ref C) (.builtin "BaseException.__getattribute__") true expr) _ _ _
  unfold getAttrByItsOwn hookBefore callGetattribute boundAndCalled
  refine wpAny_bind (m := typeLookup (.ref C) "__getattr__") (L2.at ?_)
  refine wpAny_bind (wpAny_attempt (wpAny_holding ?_))
  (refine rwt (if_neg (show ¬ (expr && onTheHeap (Value.builtin "BaseException.__getattribute__")) = true by cases expr <;> decide)) ?_)
  have f3 : bindSpecial (.builtin "BaseException.__getattribute__") (.ref e) = pure (.builtin "BaseException.__getattribute__", [.ref e]) := by first | rfl | kernel_rfl
  refine wpAny_bind (wpAny_of_eq f3 ?_)
  refine wpAny_mono (Q := fun v' s' => v' = v ∧ s' = ⟨hh', g, d, t + 1, os⟩) (E := fun _ _ => False) (wpAny_call (codeAny_call_builtin (by decide +kernel) F.entry_bexc_ga ?_ )) (fun v' s' hv => ?_) fun _ _ z => z.elim
  · simp only [checkBuiltinCall, show builtinKind "BaseException.__getattribute__" = some .slot by decide +kernel, show splitId "BaseException.__getattribute__" = some ("BaseException", "__getattribute__") by decide +kernel]
    have ha := F.args_bexc_ga (.ref e) (.str name t)
    refine wpAny_bind ?_
    unfold isInstance
    refine wpAny_bind (L0.at (L4.at ?_))
    have hrest : wpAny (model prog w) A.in1 (match Manifest.signature? "BaseException.__getattribute__" with
          | some sig => Bind.checkArgs "BaseException.__getattribute__" sig ⟨[.ref e] ++ [.str name t], []⟩
          | x => pure ()) (fun x s₁ => s₁ = ⟨hh', g, d, t + 1, os⟩) (fun e s' => False) ⟨hh', g, d, t + 1, os⟩ := by
      cases hsig : Manifest.signature? "BaseException.__getattribute__" with
      | none => exact wpAny_pure rfl
      | some sig =>
        simp only [argsOk, hsig] at ha
        have h2 : Bind.checkArgs "BaseException.__getattribute__" sig ⟨[.ref e] ++ [.str name t], []⟩ = pure () := ha
        show wpAny _ _ (Bind.checkArgs "BaseException.__getattribute__" sig ⟨[.ref e] ++ [.str name t], []⟩) _ _ _
        (refine rwt h2 ?_); exact wpAny_pure rfl
    (refine rwt (if_neg (by decide)) ?_)
    refine wpAny_mono hrest (fun _ s₁ hs => ?_) fun _ _ z => z
    subst hs
    unfold Builtin.«object.__getattribute__»
    repeat (first | (with_reducible refine L0.at ?_) | (with_reducible refine L3.at ?_) | wp_step)
    all_goals exact ⟨rfl, rfl⟩
  · obtain ⟨rfl, rfl⟩ := hv
    show wpAny _ _ (handedOut v') _ _ _
    (refine rwt (handedOut_of hh) ?_)
    exact wpAny_pure h
theorem lookIn_of {o : Obj} {es : Array DictEntry} {ep : Nat} {name : Str} {v : Value} (hd : o.data = .dict es ep) (hf : nsFind es name = some v) : lookIn name o = some (some v) := by
  unfold lookIn
  (refine rwt hd ?_)
  unfold nsFind findBy at hf
  dsimp only
  (refine rwt Array.find?_toList ?_) 
  cases hq : es.find? (·.key.isStr name) with
  | none => rw [hq] at hf; cases hf
  | some en => rw [hq] at hf; cases hf; rfl
theorem exc_setattr {cd : ClassData} {C' : Addr} {v : Value} {name : Str} {Q : Unit → Shared → Prop} (X : K.In s.heap) (I : InstAt s.heap e ox C none) (hn : ox.dict = none) (hfr : ox.isFreed = false)
    (hs : findIn K (.ref C) "__setattr__" = some (some (.builtin "object.__setattr__"))) (ht : takerIn K C name = some none) (hc : clsIn K C = some cd) (hh : cd.hasDict = true) (hm : cd.mro = [.ref C, .ref C', .type "Exception", .type "BaseException", .type "object"])
    (h : ∀ h' tk od, h'.get? e = some { ox with dict := some s.heap.objs.size } → h'.get? s.heap.objs.size = some od → lookIn name od = some (some v) → (∀ b o, b ≠ e → s.heap.get? b = some o → h'.get? b = some o) → Q () { s with heap := h', toks := tk }) :
    wpAny (model prog w) A (setAttr (.ref e) name v) Q E s := by
  refine wrapG fun W_ k_ => ?_
  obtain ⟨hh', g, d, t, os⟩ := s
  refine k_ ?_
  clear k_ W_
  refine set_plain X I hs ?_
  have L0 := I.type (M := model prog w)
  have hx := I.at_
  have hmro : Looks (model prog w) hh' (mroOf (.ref C)) cd.mro := (looks_clsIn X hc).andThen .now
  have hpass := F.store_Exception.passes (.ref e)
  dsimp only at L0 hx
  have SF := F.store_object
  have sub : Looks (model prog w) hh' (isInstance (.ref e) (.type "object")) true := I.type.andThen (looks_mroIn X (by unfold mroIn; (refine rwt hc ?_; refine rwt (Option.bind_some ..) ?_; refine rwt (if_neg (by rw [hm]; exact Bool.false_ne_true)) ?_; refine rwt hm ?_); rfl))
  refine codeAny_call_builtin SF.slot.plain SF.entry (@check_slot (model prog w) _ _ _ "object.__setattr__" "object" "__setattr__" (.ref e) [.str name t, v] [] _ SF.kind SF.split sub (SF.args (.ref e) (.str name t) v) ?_)
  refine xe1_2 (Option.bind_eq_some_iff.mp ht) fun attr ha hr => ?_
  have L3 : Looks (model prog w) hh' (storeTaker? attr) none := by
    cases attr with
    | none => exact .now
    | some a =>
      refine xe1_2 (Option.map_eq_some_iff.mp hr) fun b hb hr => ?_
      refine (looks_takesIn X hb).andThen ?_
      cases b with
      | true => cases hr
      | false => exact .now
  show wpAny _ _ (Builtin.«object.__setattr__» ⟨[.ref e, .str name t, v], []⟩) _ _ _
  (refine rwt (osa_eq ..) ?_; refine rwt (refuse_eq ..) ?_)
  refine wpAny_bind (wpAny_bind (L0.at (wpAny_bind (hmro.at ?_))))
  (refine rwt hm ?_; refine rwt (refuseLoop_ref ..) ?_; refine rwt (refuseLoop_ref ..) ?_; refine rwt hpass ?_)
  refine wpAny_pure (wpAny_bind (L0.at (wpAny_bind ((looks_findIn X ha).at (wpAny_bind (L3.at ?_))))))
  show wpAny _ _ (storeInOwnDict (.ref e) (.ref C) (.str name t) name v attr.isSome) _ _ _
  refine wrapG fun W_ k_ => ?_
  obtain ⟨oc, odi, oda, osl⟩ := ox
  refine k_ ?_
  clear k_ W_
  have hcl := I.cls
  have hnc := I.no
  dsimp only at hn hcl hfr
  subst hn hcl
  have hx₁ : (hh'.push { cls := .type "dict", data := .dict #[] }).get? e = some ⟨.ref C, none, oda, osl⟩ := Heap.get?_push_of_some _ hx
  have hxs : e ≠ hh'.objs.size := Nat.ne_of_lt (Heap.lt_size hx)
  have hgd : ((hh'.push { cls := .type "dict", data := .dict #[] }).update e fun o => { cls := o.cls, dict := some hh'.objs.size, data := o.data, slots := o.slots }).get? hh'.objs.size
      = some { cls := .type "dict", data := .dict #[] } :=
    (Heap.get?_update_ne _ _ _ _ hxs.symm).trans (Heap.get?_push_at rfl rfl)
  have hnd : ((hh'.push { cls := .type "dict", data := .dict #[] }).update e fun o => { cls := o.cls, dict := some hh'.objs.size, data := o.data, slots := o.slots }).Ns hh'.objs.size (fun _ => none) :=
    ⟨_, #[], _, hgd, rfl, fun e he => absurd he (by simp), fun _ => rfl⟩
  have fin : wpAny (model prog w) A.in1 (storeInDict hh'.objs.size (.str name t) name v) (fun fin s' => match fin with | .done (.ret _) => Q () s' | _ => False) (fun _ _ => False) ⟨(hh'.push { cls := .type "dict", data := .dict #[] }).update e fun o => { cls := o.cls, dict := some hh'.objs.size, data := o.data, slots := o.slots }, g, d, t + 1, os⟩ := by
    unfold storeInDict newKeyGuard
    refine wpAny_bind (wpAny_pure (wpAny_bind (wpAny_nsSet1 (Heap.Ns1.of_empty hnd) fun h' hn' hs => ?_)))
    refine xe3_3 (hn'.count (Within.cons name v Within.nil)) fun oD esD epD hoD hdD hcD => ?_
    refine wpAny_bind (wpAny_lookBehind hoD (by (refine rwt hdD ?_); exact pastItsLine_dict (Nat.le_trans hcD (by (refine rwt List.length_cons ?_; refine rwt List.length_nil ?_; refine rwt sizeLine_eq ?_); exact oq215))) ?_)
    refine wpAny_pure ?_
    refine xe3_5 hn' fun oD' es' ep' e1 e2 e3 e4 e5 => ?_
    try clear hn'
    refine h h' _ oD' ?_ e1 (lookIn_of e2 (by (refine rwt (e5 ..) ?_); exact if_pos rfl)) (fun b ob hbx hb => ?_)
    · refine (hs.2 e hxs).trans (Heap.get?_update_self _ hx₁ ?_)
      cases oda <;> first | rfl | exact hfr
    · exact (hs.2 b (Nat.ne_of_lt (Heap.lt_size hb))).trans ((Heap.get?_update_ne _ _ _ _ hbx).trans (Heap.get?_push_of_some _ hb))
  refine wpAny_bind (wpAny_pure (wpAny_bind (wpAny_bind (wpAny_loadPart hx ?_))))
  dsimp only
  refine wpAny_bind ((looks_clsIn X hc).at ?_)
  (refine rwt hh ?_)
  dsimp only
  (refine rwt (if_neg (by decide)) ?_; refine rwt (if_neg (show ¬ (!true || !typeHasDict (.ref C)) = true by simp [typeHasDict])) ?_)
  have hmk : wpAny (model prog w) A.in1 (do
      let d ← alloc { cls := Value.type "dict", data := Data.dict #[] }
      update e fun o => { cls := o.cls, dict := some d, data := o.data, slots := o.slots }
      dictMade (.ref C) e d) (fun a s' => a = some hh'.objs.size ∧ s' = ⟨(hh'.push { cls := .type "dict", data := .dict #[] }).update e fun o => { cls := o.cls, dict := some hh'.objs.size, data := o.data, slots := o.slots }, g, d, t + 1, os⟩) (fun _ _ => False) ⟨hh', g, d, t + 1, os⟩ := by
    refine wpAny_bind (wpAny_alloc' ?_)
    refine wpAny_bind (wpAny_update' hx₁ ?_)
    exact wpAny_pure ⟨rfl, rfl⟩
  have tail : ∀ a s', (a = some hh'.objs.size ∧ s' = ⟨(hh'.push { cls := .type "dict", data := .dict #[] }).update e fun o => { cls := o.cls, dict := some hh'.objs.size, data := o.data, slots := o.slots }, g, d, t + 1, os⟩) →
      wpAny (model prog w) A.in1 (match a with
        | some d => storeInDict d (Value.str name t) name v
        | none => noDictFor (Value.ref e) (Value.ref C) name attr.isSome) (fun fin s' => match fin with | .done (.ret _) => Q () s' | _ => False) (fun _ _ => False) s' := fun a s' ha => by
    refine xe0_2 ha fun e_1 e_2 => ?_
    subst e_1
    subst e_2
    try clear ha
    exact fin
  cases oda with
  | cls c => exact absurd rfl (fun q : Data.cls c = Data.cls c => by cases hnc)
  | _ =>
    refine wpAny_mono hmk (fun a s' ha => wpAny_mono (tail a s' ha) (fun fin s' z => ?_) fun _ _ z => z.elim) fun _ _ z => z.elim
    rcases fin with (_ | _ | _ | _) | _ <;> first | exact z | exact z.elim
end
end
section
set_option maxHeartbeats 1000000
set_option maxRecDepth 100000
open PySem PySem.W PySem.Calls PyProof.Rows PySem.Spec PySem.Builtin.ObjectAttr
theorem slot_wd_get : Slot "wrapper_descriptor" "__get__" "wrapper_descriptor.__get__" := .of (owner := "wrapper_descriptor") (n := "__get__") (by (refine rwt (typeLookup_type ..) ?_; refine rwt builtinLookup_eq_fast ?_); kernel_rfl) (by decide +kernel) (by decide +kernel) (by decide +kernel)
  (.inl (by kernel_rfl)) (by (refine rwt (isSubtype_type ..) ?_); kernel_rfl)
theorem entry_wd_get : entryFor table "wrapper_descriptor.__get__" = some Builtin.«wrapper_descriptor.__get__» := entryFor_of_tree (by kernel_rfl)
theorem args_wd_get (a b c : Value) : argsOk "wrapper_descriptor.__get__" ⟨[a, b, c], []⟩ := by unfold argsOk; kernel_rfl
theorem typeOf_ei : typeOf (.builtin "Exception.__init__") = pure (.type "wrapper_descriptor") := by first | rfl | kernel_rfl
/-- the bound slot -/
abbrev boundInit (x : Addr) : Obj := { cls := .type "method-wrapper", data := .fields #[.builtin "Exception.__init__", .ref x] }
section
variable {prog : Program} {w : World} {A : Around} {E : Value → Shared → Prop} {K : Frag} {C D x so : Addr} {h : Heap} {g : Array GenState} {d : Drawn} {t : Nat} {os : OsState}
theorem run_wd_get {P : Fin → Shared → Prop} (hi : Looks (model prog w) h (isInstance (.ref x) (.type "Exception")) true) (hq : P (.done (.ret (.ref h.objs.size))) ⟨h.push (boundInit x), g, d, t, os⟩) :
    wpAny (model prog w) A (Builtin.«wrapper_descriptor.__get__» ⟨[.builtin "Exception.__init__", .ref x, .ref C], []⟩) P E ⟨h, g, d, t, os⟩ := by
  unfold Builtin.«wrapper_descriptor.__get__»
  refine wpAny_bind (wpAny_of_eq (a := (.builtin "Exception.__init__", some (.ref x), some (.ref C))) (by first | rfl | kernel_rfl) ?_)
  refine wpAny_bind ?_
  refine wpAny_bind (wpAny_of_eq (a := (Str.ofString "__init__", Value.type "Exception")) (by first | rfl | kernel_rfl) ?_)
  dsimp only
  refine wpAny_bind (hi.at ?_)
  (refine rwt (if_neg (by decide)) ?_)
  refine wpAny_pure ?_
  unfold newFields
  exact wpAny_bind (wpAny_newObj_type (wpAny_pure hq))
theorem super_ga_b {l₀ l : List Value} {name : Str} {tk : Tok} {Q : Fin → Shared → Prop}
    (hso : h.get? so = some { cls := .type "super", dict := none, data := .fields #[.ref D, .ref x, .ref C], slots := #[] }) (hno : Looks (model prog w) h (opaqueClassAbove (.ref C)) none)
    (hC : Looks (model prog w) h (mroOf (.ref C)) l₀) (hl : (l₀.dropWhile (· != .ref D)).drop 1 = l) (X : K.In h)
    (hf : alongIn K name l = some (some (.builtin "Exception.__init__"))) (hi : Looks (model prog w) h (isInstance (.ref x) (.type "Exception")) true) (hxC : x ≠ C) (hn : (name == ("__class__" : Str)) = false)
    (hq : Q (.done (.ret (.ref h.objs.size))) ⟨h.push (boundInit x), g, d, t, os⟩) :
    wpAny (model prog w) A (Builtin.«super.__getattribute__» ⟨[.ref so, .str name tk], []⟩) Q E ⟨h, g, d, t, os⟩ := by
  have hlk := slot_wd_get.lookup
  have hty := typeOf_ei
  have hne : (Value.ref x == Value.ref C) = false := by simp [hxC]
  have hTf : (⟨h, g, d, t, os⟩ : Shared).TypeIs (.builtin "Exception.__init__") "wrapper_descriptor" := typeOf_ei
  have hdt : ({ cls := .type "super", dict := none, data := .fields #[.ref D, .ref x, .ref C], slots := #[] } : Obj).data = .fields #[.ref D, .ref x, .ref C] := rfl
  have f0 : (#[.ref D, .ref x, .ref C] : Array Value)[0]? = some (.ref D) := rfl
  have f1 : (#[.ref D, .ref x, .ref C] : Array Value)[1]? = some (.ref x) := rfl
  have f2 : (#[.ref D, .ref x, .ref C] : Array Value)[2]? = some (.ref C) := rfl
  unfold Builtin.«super.__getattribute__»
  repeat (first
    | (with_reducible refine wpAny_field hso hdt f0 ?_) | (with_reducible refine wpAny_field hso hdt f1 ?_) | (with_reducible refine wpAny_field hso hdt f2 ?_)
    | (with_reducible refine ks_wpAny_notOpaque hno ?_)
    | (with_reducible refine Looks.at hC ?_; (refine rwt hl ?_))
    | (refine ks_forIn_along X (fun _ _ => rfl) rfl ?_ hf)
    | (with_reducible refine wpAny_typeOf hTf ?_)
    | (with_reducible refine wpAny_call_entry slot_wd_get hTf entry_wd_get ?_ (args_wd_get _ _ _))
    | (with_reducible refine run_wd_get hi ?_)
    | (with_reducible refine ⟨_, rfl, ?_⟩)
    | (simp only [hn, hne, Bool.or_false, Bool.false_eq_true, if_false])
    | wp_step
    | dsimp only)
  all_goals exact hq
theorem getMethod_super_b {l₀ l : List Value} {name : Str} {pl : Sem Bool} {Q : Value × List Value → Shared → Prop}
    (hso : h.get? so = some { cls := .type "super", dict := none, data := .fields #[.ref D, .ref x, .ref C], slots := #[] }) (hno : Looks (model prog w) h (opaqueClassAbove (.ref C)) none)
    (hC : Looks (model prog w) h (mroOf (.ref C)) l₀) (hl : (l₀.dropWhile (· != .ref D)).drop 1 = l) (X : K.In h)
    (hf : alongIn K name l = some (some (.builtin "Exception.__init__"))) (hi : Looks (model prog w) h (isInstance (.ref x) (.type "Exception")) true) (hxC : x ≠ C) (hn : (name == ("__class__" : Str)) = false)
    (hq : Q (.ref h.objs.size, []) ⟨h.push (boundInit x), g, d, t + 1, os⟩) :
    wpAny (model prog w) A (getMethod (.ref so) name pl) Q E ⟨h, g, d, t, os⟩ := by
  have hlk := F.ks_slot_super_ga.lookup
  have hcan := F.ks_canon_super_ga
  have hT : ∀ t', (⟨h, g, d, t', os⟩ : Shared).TypeIs (.ref so) "super" := fun _ => ⟨_, hso, rfl⟩
  unfold getMethod
  refine wpAny_bind (wpAny_specialOf (hT _) hlk ?_)
  show wpAny _ _ (if (Manifest.canonical "super.__getattribute__" != "object.__getattribute__") = true then _ else _) _ _ _
  (refine rwt (if_pos hcan) ?_)
  unfold getAttr getAttrBy
  refine wpAny_bind (wpAny_bind (wpAny_mkText (wpAny_holding (wpAny_bind (wpAny_typeOf (hT _) (wpAny_bind (wpAny_of_eq hlk ?_)))))))
  show wpAny _ _ (getAttrByItsOwn (.ref so) (.str name t) (.type "super") (.builtin "super.__getattribute__") true false) _ _ _
  unfold getAttrByItsOwn hookBefore callGetattribute boundAndCalled
  refine wpAny_bind (wpAny_of_eq (show (if onTheHeap (.type "super") then typeLookup (.type "super") "__getattr__" else pure none) = pure none from rfl) ?_)
  refine wpAny_bind (wpAny_attempt (wpAny_holding ?_))
  show wpAny _ _ (bindSpecial (.builtin "super.__getattribute__") (.ref so) >>= _) _ _ _
  refine wpAny_bind (wpAny_of_eq (F.ks_slot_super_ga.bind _) ?_)
  refine wpAny_mono (Q := fun v s' => v = .ref h.objs.size ∧ s' = ⟨h.push (boundInit x), g, d, t + 1, os⟩) (E := fun _ _ => False)
    (wpAny_call_entry F.ks_slot_super_ga (hT _) F.ks_entry_super_ga (super_ga_b hso hno hC hl X hf hi hxC hn ⟨_, rfl, rfl, rfl⟩) (F.ks_gaArgs_super _ _)) (fun v s' hv => ?_) fun _ _ z => z.elim
  obtain ⟨rfl, rfl⟩ := hv
  exact wpAny_pure (wpAny_pure hq)
theorem check_boundInit {e : Addr} {oe : Obj} {a : Value} {Q : Unit → Shared → Prop} (he : h.get? e = some oe) (hcls : oe.cls = .ref C) {cd : ClassData} (hcd : Looks (model prog w) h (classData C) cd) (hq : Q () ⟨h, g, d, t, os⟩) :
    wpAny (model prog w) A (checkBoundCall "Exception.__init__" ⟨[.ref e, a], []⟩) Q E ⟨h, g, d, t, os⟩ := by
  have FB := F.excBase_Exception
  simp only [checkBoundCall, FB.initKind, FB.initRow]
  (refine rwt (if_pos (by decide)) ?_)
  repeat (first | (with_reducible refine wpAny_loadPart_at he ?_; (refine rwt hcls ?_)) | (with_reducible refine hcd.at ?_) | wp_step)

  all_goals exact hq
/-- the bound slot called with one argument -/
theorem call_boundInit {b e : Addr} {oe : Obj} {vs : Array Value} {a : Value} {t0 : Addr} {Q : Value → Shared → Prop} (hb : h.get? b = some (boundInit e)) (he : h.get? e = some oe) (hd : oe.data = .fields vs) (h0 : vs[0]? = some (.ref t0)) (hcls : oe.cls = .ref C) {cd : ClassData} (hcd : Looks (model prog w) h (classData C) cd)
    (hq : ∀ h', h'.get? e = some { oe with data := .fields (vs.setIfInBounds 0 (.ref h.objs.size)) } → (∀ y o, y ≠ e → h.get? y = some o → h'.get? y = some o) → Q .none ⟨h', g, d, t, os⟩) :
    wpAny (model prog w) A (call (.ref b) [a]) Q E ⟨h, g, d, t, os⟩ := by
  refine wpAny_call (codeAny_of_tree ?_)
  show wpAny _ A.in1 (callAny (.ref b) ⟨[a], []⟩) _ _ _
  simp only [callAny]
  refine wpAny_bind (wpAny_load hb ?_)
  simp only [show (Value.type "method-wrapper" == Value.type "method" || Value.type "method-wrapper" == Value.type "builtin_function_or_method" || Value.type "method-wrapper" == Value.type "method-wrapper") = true by decide, if_true]
  show wpAny _ A.in1 (if (Value.type "method-wrapper" != Value.type "method") = true then (do
              checkBoundCall "Exception.__init__" { pos := [.ref e, a] }
              again (Code.builtin "Exception.__init__" { pos := [.ref e, a] })) else _) _ _ _
  (refine rwt (if_pos (by decide)) ?_)
  refine wpAny_bind (check_boundInit he hcls hcd ?_)
  refine wpAny_bind (wpAny_pure (wpAny_pure ?_))
  refine ⟨Code.quiet_builtin _ (by decide +kernel), codeAny_builtin F.excBase_Exception.initEntry ?_⟩
  unfold Builtin.«BaseException.__init__»
  refine wpAny_bind (wpAny_newTuple ?_)
  unfold Builtin.BaseException.bexcPut
  have he1 := Heap.get?_push_of_some { cls := .type "tuple", data := .seq [a].toArray } he
  refine wpAny_bind (wpAny_bind (wpAny_field he1 hd h0 (wpAny_bind (wpAny_setField he1 hd (Array.getElem?_eq_some_iff.mp h0).1 ?_))))
  refine wpAny_letGo ?_
  refine wpAny_pure (hq _ ?_ fun y o hy ho => ?_)
  · refine (Heap.get?_update_self _ he1 (Obj.isFreed_of_fields (Obj.data_mapFields hd _))).trans ?_
    obtain ⟨c1, c2, c3, c4⟩ := oe
    dsimp only at hd
    subst hd
    rfl
  · exact (Heap.get?_update_other _ _ (Ne.symm hy)).trans (Heap.get?_push_of_some _ ho)
end
end
section
set_option maxHeartbeats 1000000
set_option maxRecDepth 100000
open PySem PySem.W PySem.Calls PyProof.Rows PySem.Spec PySem.Builtin.ObjectAttr
section
variable {w : World} {p : Program} {loose : List Str} {mg mb : Str → Option Value}
theorem callWith_mw {M : Model} {A : Around} {E : Value → Shared → Prop} {s : Shared} {pos : Pos} {u x : Addr} {first : List Value} {args : List (Bool × Sem Value)} {Q : Value → Shared → Prop} (hplain : args.any (·.1) = false)
    (h : wpAny M A (evalArgs (.ref u) true args []) (fun y s₁ => s₁.heap.get? u = some (boundInit x) ∧ wpAny M A (call (.ref u) (first ++ y.pos) y.kw) Q E s₁) E s) : wpAny M A (callWith pos (.ref u) first args []) Q E s := by
  unfold callWith
  refine wpAny_bind (wpAny_holding (wpAny_mono h (fun y s₁ h₁ => wpAny_bind (wpAny_standAt ?_)) fun _ _ x => x))
  refine xe0_2 h₁ fun ho hcall => ?_
  try clear h₁
  simp only [hplain, List.any_nil, Bool.or_false]
  refine wpAny_bind (m := keeperOf (.ref u)) ?_
  unfold keeperOf
  refine wpAny_bind (wpAny_load ho ?_)
  simp only [show (Value.type "method-wrapper" != Value.type "method") = true by decide, show (Value.type "method-wrapper" == Value.type "builtin_function_or_method" || Value.type "method-wrapper" == Value.type "method-wrapper") = true by decide, if_true]
  refine wpAny_pure ?_
  exact wpAny_bind (wpAny_mono hcall (fun r s₂ hr => wpAny_bind (wpAny_holding (wpAny_point (wpAny_pure hr)))) fun _ _ x => x)
/-- BadText.__init__ -/
theorem init55 {A : Around} {E : Value → Shared → Prop} {s : Shared} {e t0 : Addr} {vs : Array Value} {v : Value} {Q : Value → Shared → Prop} (hroom : A.depth < recursionLimit) (hG : GlOk (GG w p loose mg mb) s.heap)
    (he : s.heap.get? e = some ⟨.ref 58, none, .fields vs, #[]⟩) (h0 : vs[0]? = some (.ref t0)) (heK : ∀ o, (GG w p loose mg mb).K.lookup e ≠ some o)
    (q : ∀ s' vs' od dx, Rest s s' → s'.heap.get? e = some ⟨.ref 58, some dx, .fields vs', #[]⟩ → vs'[1]? = vs[1]? → s.heap.get? dx = none → s'.heap.get? dx = some od → lookIn "at" od = some (some v) → (∀ b o, b ≠ e → s.heap.get? b = some o → s'.heap.get? b = some o) → Q .none s') :
    wpAny (GG w p loose mg mb).M A (call (.ref 55) [.ref e, v]) Q E s := by
  have heC : e ≠ 58 := fun z => heK _ (by (refine rwt z ?_); rfl)
  obtain ⟨hh, g, d, t, os⟩ := s
  refine wpAny_call (ks_codeAny_call_defAt (prog := PySem.Challenge.pw_nn0031_01) (binds := [(Str.ofString "self", Value.ref e), (Str.ofString "at", v)]) hroom (hG.k _ _ (show (GG w p loose mg mb).K.lookup 55 = some ⟨_, _, .func (ksFn _ _ _ _ _ _ _ _ _ _ _ _ 43), _⟩ from rfl)) rfl hG.t.nolimit (codeRec_of hG.k (by with_unfolding_all rfl)) rfl (BindsTo.of_eq (by rfl)) (by decide) (fun x hx => by
    rcases List.mem_cons.mp hx with rfl | hx
    · rfl
    · rcases List.mem_cons.mp hx with rfl | hx
      · rfl
      · cases hx) (fun h₀ hns hk => ?_))
  have hG₀ := hG.keeps hk
  have X := hG₀.k
  have T := hG₀.t
  have he₀ := hk _ _ he
  refine ks_wpAt_execs_cons (ks_wpAt_Expr_any (ks_wpAt_MethodCall ?_))
  refine ks_wpAt_super_base rfl rfl (by decide) rfl (X _ _ (show (GG w p loose mg mb).K.lookup 55 = some ⟨_, _, .func _, _⟩ from rfl)) rfl rfl rfl (X _ _ (show (GG w p loose mg mb).K.lookup 54 = some ⟨_, _, .fields _, _⟩ from rfl)) rfl rfl (by with_unfolding_all rfl) (by with_unfolding_all rfl) ?_
  refine ks_loadName_global rfl rfl (loadGlobal_builtin T.g (mg_none_of X T.g (show nsIn (GG w p loose mg mb).K mainGlobals "super" = some none from rfl)) T.b ((T.builtins _ (by decide +kernel)).trans (by with_unfolding_all rfl)) ⟨rfl, ?_⟩)
  refine wpAny_loadName_free rfl rfl rfl ⟨_, X _ _ (show (GG w p loose mg mb).K.lookup 43 = some ⟨_, _, .cell (some (.ref 58)), _⟩ from rfl), rfl⟩ ?_
  refine wpAny_loadName_local rfl rfl hns rfl ?_
  refine ks_wpAny_isType_cls (X _ _ (show (GG w p loose mg mb).K.lookup 58 = some ⟨_, _, .cls _, _⟩ from rfl)) rfl ⟨rfl, ?_⟩
  have hc58 : clsIn (GG w p loose mg mb).K 58 = some _ := rfl
  refine ks_wpAny_call_super (X _ _ (show (GG w p loose mg mb).K.lookup 58 = some ⟨_, _, .cls _, _⟩ from rfl)) rfl he₀ rfl (by intro c h; cases h) (looks_mroIn X (by with_unfolding_all rfl)) (fun h₁ e1 k1 => ?_)
  have X₁ := X.keeps k1
  have he₁ := k1 _ _ he₀
  have I₁ : W.InstAt h₁ e ⟨.ref 58, none, .fields vs, #[]⟩ 58 none := ⟨he₁, rfl, rfl, trivial⟩
  refine getMethod_super_b e1 (looks_opaque X₁ (by with_unfolding_all rfl)) ((looks_clsIn X₁ hc58).andThen .now) rfl X₁ (by with_unfolding_all rfl) (I₁.type.andThen (looks_mroIn X₁ (by with_unfolding_all rfl))) heC (by decide) ?_
  refine callWith_mw (x := e) rfl ?_
  refine Calls.evalArgs_plain ?_
  refine spliced_cons ?_
  refine wpAny_Constant_str (k := 0) (pos := { line := 9, col := 25, endLine := 9, endCol := 36 }) ?_
  refine spliced_nil ⟨Heap.get?_push_size _ rfl, ?_⟩
  have he₂ := Heap.get?_push_of_some (boundInit e) he₁
  refine call_boundInit (cd := _) (Heap.get?_push_size _ rfl) he₂ rfl h0 rfl ((looks_clsIn (X₁.keeps fun b o y => Heap.get?_push_of_some _ y) hc58)) (fun h₃ e3 k3 => ?_)
  have keep₃ : ∀ b o, b ≠ e → h₀.get? b = some o → h₃.get? b = some o := fun b o hb y => k3 b o hb (Heap.get?_push_of_some _ (k1 _ _ y))
  have X₃ : (GG w p loose mg mb).K.In h₃ := fun b o y => keep₃ b o (fun z => heK o (z ▸ y)) (X b o y)
  have hns₃ : h₃.Ns hh.objs.size (fun y => [(Str.ofString "self", Value.ref e), (Str.ofString "at", v)].reverse.lookup y) := by
    refine xe3_2 hns fun o es ep ho r => ?_
    try clear hns
    exact ⟨o, es, ep, keep₃ _ _ (Nat.ne_of_gt (Heap.lt_size he)) ho, r⟩
  refine ks_wpAt_execs_cons (ks_wpAt_Assign_Attr ?_)
  refine wpAt_of_wpAny (wpAny_Name (wpAny_loadName_local (v := v) rfl rfl hns₃ rfl ?_))
  refine wpAny_Name (wpAny_loadName_local (v := .ref e) rfl rfl hns₃ rfl ?_)
  have I₃ : W.InstAt h₃ e _ 58 none := ⟨e3, rfl, rfl, trivial⟩
  refine exc_setattr X₃ I₃ rfl rfl (by with_unfolding_all rfl) (by with_unfolding_all rfl) hc58 rfl rfl (fun h₄ tk od a1 a2 a3 a4 => ?_)
  refine wpAt_of_wpAny (wpAny_pure ?_)
  exact q _ _ od h₃.objs.size ⟨_, _, rfl⟩ a1 (by simp) (Heap.get?_none_of_le (Nat.le_of_lt hns₃.lt)) a2 a3 fun b o hb y => a4 b o hb (keep₃ b o hb (hk b o y))
end
end
section
set_option maxHeartbeats 1000000
set_option maxRecDepth 100000
open PySem PySem.W PySem.Calls PyProof.Rows PySem.Spec PySem.Builtin.ObjectAttr
abbrev bmE : List Value := [.type "Exception", .type "BaseException", .type "object"]
/-- a BadText with its place, just made -/
structure Bad (h h' : Heap) (e : Addr) (v : Value) : Prop where
  keep : ∀ b o, h.get? b = some o → h'.get? b = some o
  new : h.get? e = none
  there : ∃ vs dx od, h'.get? e = some ⟨.ref 58, some dx, .fields vs, #[]⟩ ∧ vs[1]? = some .none ∧ h.get? dx = none ∧ dx ≠ e ∧ h'.get? dx = some od ∧ lookIn "at" od = some (some v)
section
variable {w : World} {p : Program} {loose : List Str} {mg mb : Str → Option Value}
theorem obj58 {h : Heap} (X : (GG w p loose mg mb).K.In h) : ∃ nm q bs sn sub ab col dd k0 k1 k2 k3 k5, h.get? 58 = some (excClassObj nm q 58 57 bs (.ref 24 :: bmE) true sn sub ab col dd k0 k1 k2 k3 k5 "Exception.__new__") :=
  ⟨_, _, _, _, _, _, _, _, _, _, _, _, _, X _ _ rfl⟩
theorem tail58 {h : Heap} (X : (GG w p loose mg mb).K.In h) : OwnTail h bmE (.ref 24 :: bmE) := tail_of_in X (by with_unfolding_all rfl)
theorem type_call58 {A : Around} {E : Value → Shared → Prop} {s : Shared} {v : Value} {Q : Fin → Shared → Prop} (hroom : A.depth < recursionLimit) (hG : GlOk (GG w p loose mg mb) s.heap)
    (hq : ∀ s' e, Rest s s' → Bad s.heap s'.heap e v → Q (.done (.ret (.ref e))) s') : wpAny (GG w p loose mg mb).M A (Builtin.«type.__call__» ⟨[.ref 58, v], []⟩) Q E s := by
  refine wrapG fun W_ k_ => ?_
  obtain ⟨h, g, d, t, os⟩ := s
  refine k_ ?_
  clear k_ W_
  refine xe13_1 (obj58 hG.k) fun nm q bs sn sub ab col dd k0 k1 k2 k3 k5 hC => ?_
  have T := tail58 hG.k
  have F := F.excBase_Exception
  repeat (first | with_reducible refine wpAny_loadPart_at hC ?_ | with_reducible refine wpAny_madeBy_exc hC ?_ | wp_step)
  refine codeAny_call_builtin_code (Code.quiet_builtin _ F.quiet) (wpAny_check_new_subT F T hC ?_)
  refine codeAny_exc_new_subT F T hC ?_ (by show 1 ≤ sizeLine; (refine rwt sizeLine_eq ?_); exact oq216)
  show wpAny _ _ _ _ _ _
  have kp : ∀ b o, h.get? b = some o → ((h.push { cls := .type "tuple", data := .seq [v].toArray }).push { cls := .ref 58, data := .fields #[.ref h.objs.size, .none, .none, .none, .bool false, .none] }).get? b = some o :=
    fun b o y => Heap.get?_push_of_some _ (Heap.get?_push_of_some _ y)
  have hC₁ := kp _ _ hC
  have hG₁ := hG.keeps (h' := _) kp
  have hget : ((h.push { cls := .type "tuple", data := .seq [v].toArray }).push
      { cls := .ref 58, data := .fields #[.ref h.objs.size, .none, .none, .none, .bool false, .none] }).get? (h.objs.size + 1) = some
      { cls := .ref 58, data := .fields #[.ref h.objs.size, .none, .none, .none, .bool false, .none] } := by heap_get
  have hcC : (Value.ref 58 :: .ref 24 :: bmE).contains (.ref 58) = true := by simp
  unfold isInstance
  repeat (first | with_reducible refine wpAny_loadPart_at hget ?_ | (with_reducible refine wpAny_isSubtype_exc hC₁ ?_; (refine rwt hcC ?_)) | wp_step)
  show wpAny _ _ (typeLookup (.ref 58) _) _ _ _
  have X₁ := hG₁.k
  refine Looks.at (looks_findIn (M := model _ w) X₁ (show findIn (GG w p loose mg mb).K (.ref 58) "__init__" = some (some (.ref 55)) by with_unfolding_all rfl)) ?_
  refine wpAny_holding (wpAny_bind ?_)
  unfold bindSpecial
  refine wpAny_bind (wpAny_typeOf (T := "function") ⟨_, X₁ _ _ (show (GG w p loose mg mb).K.lookup 55 = some ⟨_, _, .func _, _⟩ from rfl), rfl⟩ ?_)
  (refine rwt (if_pos (by decide)) ?_)
  refine wpAny_pure (wpAny_bind (wpAny_mono (init55 (e := h.objs.size + 1) (Q := fun r s' => r = .none ∧ Q (.done (.ret (.ref (h.objs.size + 1)))) s') hroom hG₁ hget rfl (fun o z => absurd (Heap.lt_size (hG.k _ _ z)) (Nat.not_lt.mpr (Nat.le_succ _))) (fun s' vs' od dx rs a1 a2 a3 a4 a5 a6 => ?_)) (fun r s' hr => ?_) fun _ _ x => x))
  · have hne : ∀ b o, h.get? b = some o → b ≠ h.objs.size + 1 := fun b o y z => absurd (Heap.lt_size y) (by (refine rwt z ?_); exact Nat.not_lt.mpr (Nat.le_succ _))
    refine ⟨rfl, hq s' _ (Rest.trans ⟨_, _, rfl⟩ rs) ⟨fun b o y => a6 b o (hne b o y) (kp b o y), Heap.get?_none_of_le (Nat.le_succ _), vs', dx, od, a1, a2, ?_, ?_, a4, a5⟩⟩
    · cases z : h.get? dx with
      | none => rfl
      | some o => have := kp _ _ z; dsimp only at a3; rw [a3] at this; cases this
    · rintro rfl
      dsimp only at a3
      rw [hget] at a3; cases a3
  · refine xe0_2 hr fun e_1 hQ => ?_
    subst e_1
    try clear hr
    wp_walk
    exact hQ
theorem call58 {A : Around} {E : Value → Shared → Prop} {s : Shared} {v : Value} {Q : Value → Shared → Prop} (hroom : A.depth + 1 < recursionLimit) (hG : GlOk (GG w p loose mg mb) s.heap)
    (hq : ∀ s' e, Rest s s' → Bad s.heap s'.heap e v → Q (.ref e) s') : wpAny (GG w p loose mg mb).M A (call (.ref 58) [v]) Q E s := by
  refine wrapG fun W_ k_ => ?_
  obtain ⟨h, g, d, t, os⟩ := s
  refine k_ ?_
  clear k_ W_
  refine xe13_1 (obj58 hG.k) fun nm q bs sn sub ab col dd k0 k1 k2 k3 k5 hC => ?_
  have f1 := tc_lookup
  have f2 := tc_bind (.ref 58)
  have hT : (⟨h, g, d, t, os⟩ : Shared).TypeIs (.ref 58) "type" := ⟨_, hC, rfl⟩
  refine wpAny_call (codeAny_of_tree ?_)
  show wpAny _ _ (callAny (.ref 58) _) _ _ _
  repeat (any_goals (first | assumption | with_reducible refine wpAny_loadPart_at hC ?_ | wp_step))
  refine ⟨rfl, ?_⟩
  refine codeAny_call_builtin_at (Code.quiet_builtin _ (by decide +kernel)) entry_typeCall (wpAny_check_type_call_sub hC (type_call58 ?_ hG fun s' e rs hm => ?_))
  · exact hroom
  · exact hq s' e rs hm
/-- raise BadText(..) -/
theorem raise58 {A : Around} {E : Value → Shared → Prop} {s : Shared} {env : Env} {x : Sem Value} {Q : Flow → Shared → Prop} (hh : A.handled = none)
    (h : wpAny (GG w p loose mg mb).M A x (fun v s₁ => ∃ e od vs sl, v = .ref e ∧ (GG w p loose mg mb).K.In s₁.heap ∧ s₁.heap.get? e = some ⟨.ref 58, od, .fields vs, sl⟩ ∧ vs[1]? = some .none ∧ E (.ref e) s₁) E s) :
    wpAny (GG w p loose mg mb).M A (raiseStmt env (some x) none) Q E s := by
  have hcB : (Value.ref 58 :: .ref 24 :: bmE).contains (.type "BaseException") = true := by decide
  unfold raiseStmt
  refine wpAny_bind (wpAny_mono h (fun v s₁ h₁ => ?_) fun _ _ x => x)
  refine wrapG fun W_ k_ => ?_
  refine xe4_5 h₁ fun e od vs osl e_1 X he h1 hE => ?_
  subst e_1
  try clear h₁
  refine k_ ?_
  clear k_ W_
  refine xe13_1 (obj58 X) fun nm q bs sn sub ab col dd k0 k1 k2 k3 k5 hC => ?_
  refine wrapG fun W_ k_ => ?_
  obtain ⟨hp, g, d, tk, os⟩ := s₁
  refine k_ ?_
  clear k_ W_
  repeat (first | with_reducible refine wpAny_loadPart_at he ?_ | with_reducible refine wpAny_loadPart_at hC ?_ | (with_reducible refine wpAny_isSubtype_exc hC ?_; rw [hcB]) | (rw [h1]) | wp_step)
  all_goals exact wpAny_raiseNew_none hh hE
end
/-- an exception that bears the place n -/
abbrev payAt (n : Int) : Pay := fun B dd => ∃ dx od t, dd = some dx ∧ B.get? dx = some od ∧ lookIn "at" od = some (some (.int n t))
section
variable {g : Gl} {f : Fm} {n : Nat} {σ : Vars}
theorem thrown_bad {l : List Env} {R : Led} {h₁ h' : Heap} {e : Addr} {k : Int} {t : Tok} (S : St g f σ R h₁) (hFF : FF l f.h₀) (hf : f.env.frame = some f.env.locals) (hk : f.env.scope.kind = .function) (hm : Bad h₁ h' e (.int k t)) : Thrown (f.env :: l) f.h₀ e (.ref 58) (payAt k) h' := by
  have F := S.ff hFF hf hk
  refine xe1_1 S fun m S => ?_
  refine xe3_6 hm.there fun vs dx od he h1 hdx hne hod hl => ?_
  have hnf : ∀ b ∈ frs (f.env :: l), ∃ o, h₁.get? b = some o := fun b hb => by
    refine xe1_2 (List.mem_filterMap.mp hb) fun env he hb => ?_
    refine xe0_2 (F env he) fun _ r_0 => ?_
    refine xe2_3 r_0 fun L o b' c' _ => ?_
    rw [hb] at b'; cases b'
    exact ⟨o, c'⟩
  refine ⟨(Heap.UpToSlots.of_keeps S.fr.keep).trans (Heap.UpToSlots.of_keeps hm.keep), hideAll h' (e :: frs (f.env :: l)), some dx, fun b o hb hn => hideAll_get _ (hm.keep _ _ (S.fr.keep b o hb)) fun hm' => ?_, ⟨dx, od, t, rfl, hideAll_get _ hod fun hm' => ?_, hl⟩, ⟨fun b o hb => of_hideAll _ hb, hideAll_none _ (.head _), (F.keeps hm.keep).fun fun b hb => hideAll_none _ (.tail _ hb), .inl ⟨_, _, he, ⟨rfl, rfl⟩, rfl, h1⟩⟩⟩
  · rcases List.mem_cons.mp hm' with rfl | h
    · have := S.fr.keep _ _ hb
      rw [hm.new] at this; cases this
    · exact hn h
  · rcases List.mem_cons.mp hm' with h | h
    · exact hne h
    · refine xe1_1 (hnf _ h) fun o ho => ?_
      rw [hdx] at ho; cases ho
end
section
variable {w : World} {p : Program} {loose : List Str} {mg mb : Str → Option Value} {n : Nat} {σ : Vars}
theorem RP.raiseB {name : Str} {scope : Scope} {L a : Addr} {cd : Value} {h₀ : Heap} {R₀ : Led} {np cpos pos : Pos} {e₀ : Expr} {k : Int} {rest : List Stmt} (he₀ : EV (GG w p loose mg mb) ⟨envOf name scope L a cd, h₀, R₀⟩ n σ e₀ (.int k)) (hn : 1 ≤ n)
    (he : starEach [e₀] (envOf name scope L a cd) = (false, eval e₀ (envOf name scope L a cd)) :: starEach [] (envOf name scope L a cd) := by rfl)
    (hk : scope.kind = .function := by rfl) (hx : (envOf name scope L a cd).kindOf "BadText" = some .globalImplicit := by rfl) :
    RP (GG w p loose mg mb) ⟨envOf name scope L a cd, h₀, R₀⟩ n σ (.Raise (some (.Call (.Name "BadText" np) [e₀] [] cpos)) none pos :: rest) (.ref 58) (payAt k) :=
  fun A E s R Q l hA hfr hfl hFF hS q => by
    refine wpAny_execs_cons ?_
    rw [arm_exec_Raise]
    refine wpAny_bind (wpAny_standAt (raise58 hA.hd ?_))
    refine wpAny_bind (wpAny_mono (Q := fun v s₁ => ∃ e od vs sl, v = .ref e ∧ (GG w p loose mg mb).K.In s₁.heap ∧ s₁.heap.get? e = some ⟨.ref 58, od, .fields vs, sl⟩ ∧ vs[1]? = some .none ∧ E (.ref e) s₁) ?_ (fun v s₃ h₃ => wpAny_bind (wpAny_standAt (wpAny_pure h₃))) fun _ _ x => x)
    rw [eval_Call_eq (by intro _ _ _ h; cases h)]
    have ev : EV (GG w p loose mg mb) ⟨envOf name scope L a cd, h₀, R₀⟩ n σ (.Name "BadText" np) (.fn 58) := EV.glob rfl hk hx rfl (by decide)
    refine wpAny_bind (ev A E s R _ hA hS fun v R₁ s₁ r₁ i₁ => ?_)
    (first | refine Is.eInt i₁ fun _ => ?_ | refine Is.eFn i₁ ?_ | refine Is.eBool i₁ ?_ | refine Is.eStr i₁ fun _ => ?_ | refine Is.eNone i₁ ?_ | cases i₁)
    have S₁ := hS.gr r₁
    refine callWith_K (K := (GG w p loose mg mb).K) (h₀ := s₁.heap) S₁.glOk.k (show keepIn (GG w p loose mg mb).K (.ref 58) = true by with_unfolding_all rfl) ?_ he rfl
    refine wpAny_items_cons (he₀ A E s₁ R₁ _ hA S₁ fun v R₂ s₂ r₂ i₂ => ?_) he
    refine wpAny_items_nil ⟨(S₁.gr r₂).glOk.k, ?_⟩
    cases i₂ with
    | int t =>
      refine call58 (by have := hA.dp; exact oq217 hn this) (S₁.gr r₂).glOk fun s₃ e rs hb => ?_
      refine xe3_6 hb.there fun vs dx od a1 a2 a3 a4 a5 a6 => ?_
      refine ⟨e, _, vs, _, rfl, (S₁.gr r₂).glOk.k.keeps hb.keep, a1, a2, ?_⟩
      exact q e s₃ ((r₁.rest.trans r₂.rest).trans rs) (thrown_bad (S₁.gr r₂) hFF hfl hk hb)
end
end
section
set_option maxHeartbeats 1000000
set_option maxRecDepth 100000
open PySem PySem.W PySem.Calls PyProof.Rows PySem.Spec PySem.Builtin.ObjectAttr
section
variable {M : Model} {A : Around} {E : Value → Shared → Prop} {s : Shared}
theorem flightL {B : Heap} {l : List Env} {e L : Addr} {cls fl : Value} {dd : Option Addr} {Q : Unit → Shared → Prop} (kb : B.StaysIn s.heap) (hl : s.heap.FunFrames B l) (ht : Tr B e cls dd fl s.heap)
    (h : ∀ h', B.StaysIn h' → h'.FunFrames B l → Tr B e cls dd (rawInt L) h' → s.heap.UpToSlots h' → Q () { s with heap := h' }) : wpAny M A (setFlight (.ref e) (some L)) Q E s := by
  refine xe5_9 ht fun oe vs T oT ts he hcd hd h1 hnT hTe hT hdT h3 => ?_
  try clear ht
  have hsz : 3 < ts.size := (Array.getElem?_eq_some_iff.mp h3).1
  have other : ∀ b, b ≠ T → (s.heap.update T (Obj.mapFields (·.setIfInBounds 3 ((some L).elim Value.none fun f => rawInt f)))).get? b = s.heap.get? b := fun b hb => Heap.get?_update_other _ _ (Ne.symm hb)
  unfold setFlight
  refine wpAny_bind (wpAny_field he hd h1 ?_)
  (refine rwt (if_pos (show (Value.ref T != Value.none) = true from by simp)) ?_)
  refine wpAny_setField hT hdT hsz (h _ (fun b o hb => (other b fun q => by rw [q, hnT] at hb; cases hb).trans (kb b o hb)) (hl.of_keeps fun b o hb hnf => ⟨o, (other b (noFields hT hdT hb hnf)).trans hb, rfl⟩)
    ⟨oe, vs, T, _, _, (other e (Ne.symm hTe)).trans he, hcd, hd, h1, hnT, hTe, Heap.get?_update_self _ hT (Obj.isFreed_of_fields (Obj.data_mapFields hdT _)), Obj.data_mapFields hdT _, by simp [hsz]⟩ fun b o hb hnf => ⟨o.slots, (other b (noFields hT hdT hb hnf)).trans hb⟩)
/-- an exception goes up out of a loop's suite -/
theorem upLoop {env : Env} {l : List Env} {L e : Addr} {h₀ : Heap} {C : Value} {pay : Pay} (hfr : A.frames = some (env :: l)) (hf : env.frame = some L) (X : Thrown (env :: l) h₀ e C pay s.heap)
    (q : ∀ s', Rest s s' → Thrown (env :: l) h₀ e C pay s'.heap → E (.ref e) s') : notedBy M A env (cameBackBy M A env E) (.ref e) s := by
  refine wrapG fun W_ k_ => ?_
  obtain ⟨u, B, dd, a, p, x⟩ := X
  refine k_ ?_
  clear k_ W_
  unfold notedBy
  refine note_ hfr hf x fun h₁ k1 k2 k3 k4 => ?_
  unfold cameBackBy
  refine xe5_5 (id k3) fun oe vs T oT ts he hcd hd h1 r => ?_
  refine wpAny_bind (wpAny_field he hd h1 ?_)
  (refine rwt (if_neg (by simp)) ?_)
  show wpAny M A (setFlight (.ref e) env.frame) _ _ _
  (refine rwt hf ?_)
  refine flightL (s := { s with heap := h₁ }) k1 k2 k3 fun h₂ j1 j2 j3 j4 => ?_
  exact q _ .heap ⟨(u.trans k4).trans j4, B, dd, a, p, ⟨j1, x.new, j2, .inr (.inr ⟨env, l, L, rfl, hf, j3⟩)⟩⟩
end
/-- BadText at k, raised from the state s₁ -/
def XB (k : Int) : Shared → Value → Shared → Prop := fun s₁ e s₂ => Rest s₁ s₂ ∧ ∃ e' t, e = .ref e' ∧ Bad s₁.heap s₂.heap e' (.int k t)
section
variable {w : World} {p : Program} {loose : List Str} {mg mb : Str → Option Value} {n : Nat} {σ : Vars}
theorem LP.raiseB {name : Str} {scope : Scope} {L a : Addr} {cd : Value} {h₀ : Heap} {R₀ : Led} {np cpos pos : Pos} {e₀ : Expr} {k : Int} {rest : List Stmt} {Q : Out → Prop} (he₀ : EV (GG w p loose mg mb) ⟨envOf name scope L a cd, h₀, R₀⟩ n σ e₀ (.int k)) (hn : 1 ≤ n)
    (he : starEach [e₀] (envOf name scope L a cd) = (false, eval e₀ (envOf name scope L a cd)) :: starEach [] (envOf name scope L a cd) := by rfl)
    (hk : scope.kind = .function := by rfl) (hx : (envOf name scope L a cd).kindOf "BadText" = some .globalImplicit := by rfl) :
    LP (GG w p loose mg mb) ⟨envOf name scope L a cd, h₀, R₀⟩ n σ (.Raise (some (.Call (.Name "BadText" np) [e₀] [] cpos)) none pos :: rest) Q (XB k) :=
  fun A E s R K hA hS _ kx => by
    refine wpAny_execs_cons ?_
    (refine rwt (arm_exec_Raise ..) ?_)
    refine wpAny_bind (wpAny_standAt (raise58 hA.hd ?_))
    refine wpAny_bind (wpAny_mono (Q := fun v s₁ => ∃ e od vs sl, v = .ref e ∧ (GG w p loose mg mb).K.In s₁.heap ∧ s₁.heap.get? e = some ⟨.ref 58, od, .fields vs, sl⟩ ∧ vs[1]? = some .none ∧ E (.ref e) s₁) ?_ (fun v s₃ h₃ => wpAny_bind (wpAny_standAt (wpAny_pure h₃))) fun _ _ x => x)
    (refine rwt (eval_Call_eq (by intro _ _ _ h; cases h)) ?_)
    have ev : EV (GG w p loose mg mb) ⟨envOf name scope L a cd, h₀, R₀⟩ n σ (.Name "BadText" np) (.fn 58) := EV.glob rfl hk hx rfl (by decide)
    refine wpAny_bind (ev A E s R _ hA hS fun v R₁ s₁ r₁ i₁ => ?_)
    (first | refine Is.eInt i₁ fun _ => ?_ | refine Is.eFn i₁ ?_ | refine Is.eBool i₁ ?_ | refine Is.eStr i₁ fun _ => ?_ | refine Is.eNone i₁ ?_ | cases i₁)
    have S₁ := hS.gr r₁
    refine callWith_K (K := (GG w p loose mg mb).K) (h₀ := s₁.heap) S₁.glOk.k (show keepIn (GG w p loose mg mb).K (.ref 58) = true by with_unfolding_all rfl) ?_ he rfl
    refine wpAny_items_cons (he₀ A E s₁ R₁ _ hA S₁ fun v R₂ s₂ r₂ i₂ => ?_) he
    refine wpAny_items_nil ⟨(S₁.gr r₂).glOk.k, ?_⟩
    cases i₂ with
    | int t =>
      refine call58 (by have := hA.dp; exact oq217 hn this) (S₁.gr r₂).glOk fun s₃ e rs hb => ?_
      refine xe3_6 hb.there fun vs dx od a1 a2 a3 a4 a5 a6 => ?_
      refine ⟨e, _, vs, _, rfl, (S₁.gr r₂).glOk.k.keeps hb.keep, a1, a2, ?_⟩
      exact kx (.ref e) R₂ s₂ s₃ ((r₁.lres hS).trans (r₂.lres S₁)) ⟨σ, S₁.gr r₂⟩ ⟨rs, e, _, rfl, hb⟩
theorem RP.forB {f : Fm} {x y : Str} {k : Nat} {p₁ p₂ tp pos : Pos} {iter : Expr} {body : List Stmt} {items : List (D × D)} {rest : List Stmt} {z : Int}
    (hit : ITERP (GG w p loose mg mb) f n σ iter items) (J : Nat → Vars → Prop) (h0 : J 0 σ) (hno : ∀ i σ, J i σ → noOwn σ = true)
    (turn : ∀ i d₁ d₂ σ, items[i]? = some (d₁, d₂) → J i σ → ∃ σ₁, Upds [(x, d₁), (y, d₂)] σ σ₁ ∧ LP (GG w p loose mg mb) f n σ₁ body (fun o => ∃ σ', o = .next σ' ∧ J (i + 1) σ') (XB z))
    (done : ∀ σ, ¬ J items.length σ)
    (hk : f.env.scope.kind = .function := by rfl)
    (hs : ∀ x, foldedSetIterable iter f.env x = pure x := by intro _; rfl) (hl₁ : f.env.kindOf x = some .local := by rfl) (hl₂ : f.env.kindOf y = some .local := by rfl)
    (hp : (f.env.scope.kind == .class || (f.env.scope.kind == .module && f.env.locals != f.env.globals)) = false := by rfl) :
    RP (GG w p loose mg mb) f n σ (.For (.Tuple [.Name x p₁, .Name y p₂] k tp) iter body [] pos :: rest) (.ref 58) (payAt z) :=
  fun A E s R Q l hA hfr hfl hFF hS q => by
    refine wpAny_execs_cons ?_
    refine forP (Q := fun _ => False) (X := XB z) hit J h0 hno (fun i d₁ d₂ σ' hd hJ => ?_) (fun σ' hJ => done σ' hJ) hA hS (fun _ _ _ _ h => h.elim) (fun e R₁ s₁ s₂ r m S ext hx => ?_) hs hl₁ hl₂ hp
    · refine xe1_2 (turn i d₁ d₂ σ' hd hJ) fun σ₁ u hb => ?_
      refine ⟨σ₁, u, fun A E s R K hA hS k kx => hb A E s R K hA hS (fun o fl R' s' hq r ok => k o fl R' s' ?_ r ok) kx⟩
      refine xe1_2 hq fun σ'' e_1 hJ' => ?_
      subst e_1
      try clear hq
      exact hJ'
    · refine xe1_1 S fun σ₁ S₁ => ?_
      try clear S
      refine wrapG fun W_ k_ => ?_
      refine xe0_2 hx fun rs r_0 => ?_
      refine xe2_2 r_0 fun e' t e_1 hb => ?_
      subst e_1
      try clear hx
      refine k_ ?_
      clear k_ W_
      exact upLoop hfr hfl (thrown_bad S₁ hFF hfl hk hb) fun s' rs' T => q e' s' ((r.trans rs).trans rs') T
end
end
section
set_option maxHeartbeats 1000000
set_option maxRecDepth 100000
open PySem PySem.W PySem.Calls PyProof.Rows PySem.Spec PySem.Builtin.ObjectAttr
theorem RP.freeze {g : Gl} {f : Fm} {n : Nat} {σ : Vars} {C : Value} {pay : Pay} {x : Str} {ds : List D} {σ' : Vars} {ss : List Stmt} (u : Rp x (.own ds) (.val (.list ds)) σ σ') (h : RP g f n σ' ss C pay) : RP g f n σ ss C pay :=
  fun A E s R Q l hA hfr hfl hFF hS kk => by
    refine xe1_1 (id hS) fun m S => ?_
    refine xe3_6 (S.own x ds u.old) fun a vs k hm ho h0 hL hR iv => ?_
    refine h A E s ((a, lstO vs k) :: R) Q l hA hfr hfl hFF ⟨m, S.fr, S.gl, fun p hp => ?_, fun p hp => .tail _ (S.sub p hp), by (refine rwt u.keys ?_); exact S.nd, fun y d hy => ?_, fun y es hy => ?_, fun y es z es' hy hz => ?_⟩ kk
    · rcases List.mem_cons.mp hp with rfl | hp
      · exact ⟨ho, hL, .inr h0⟩
      · exact S.led p hp
    · rcases u.mem S.nd _ hy with ⟨h1, h2⟩ | e
      · refine xe1_2 (S.vars y d h1) fun v h3 h4 => ?_
        exact ⟨v, h3, h4.mono fun p hp => .tail _ hp⟩
      · cases e
        exact ⟨_, hm, .list (.head _) (iv.mono fun p hp => .tail _ hp)⟩
    · rcases u.mem S.nd _ hy with ⟨h1, h2⟩ | e
      · exact absurd (S.one y es x ds h1 u.old) h2
      · cases e
    · rcases u.mem S.nd _ hy with ⟨h1, h2⟩ | e
      · exact absurd (S.one y es x ds h1 u.old) h2
      · cases e
end
section
set_option maxHeartbeats 1000000
set_option maxRecDepth 100000
open PySem PySem.W PySem.Calls PyProof.Rows PySem.Spec PySem.Builtin.ObjectAttr
theorem REV.callT {g : Gl} {f : Fm} {n : Nat} {σ : Vars} {C : Value} {pay : Pay} {func : Expr} {args : List Expr} {pos : Pos} {a : Addr} {ds : List D} {k : Nat} {A : Around} {E : Value → Shared → Prop} {s : Shared} {R : Led} {Q : Value → Shared → Prop} {l : List Env} (hA : AOk n A) (hfr : A.frames = some (f.env :: l)) (hfl : f.env.frame = some f.env.locals) (hFF : FF l f.h₀) (hS : St g f σ R s.heap)
    (hf : EV g f n σ func (.fn a)) (ha : ES g f n σ pos args ds) (hF : RX g k a ds C pay) (hkn : k ≤ n) (hkeep : keepIn g.K (.ref a) = true)
    (q : ∀ (e' : Addr) (s₂ s' : Shared) (R₂ : Led), Rest s s' → St g f σ R₂ s₂.heap → Thrown (f.env :: l) s₂.heap e' C pay s'.heap → E (.ref e') s')
    (hk : f.env.scope.kind = .function := by rfl) (hne : ∀ o n p, func ≠ .Attribute o n p := by intro _ _ _ h; cases h) (hne' : args ≠ [] := by intro h; cases h)
    (he : ∀ e es, args = e :: es → starEach args f.env = (false, eval e f.env) :: starEach es f.env ∧ (backTo pos (starEach es f.env)).any (·.1) = false := by (intro _ _ h; cases h; exact ⟨rfl, rfl⟩)) : wpAny g.M A (eval (.Call func args [] pos) f.env) Q E s := by
  (refine rwt (eval_Call_eq hne) ?_)
  refine wpAny_bind (hf A E s R _ hA hS fun v R₁ s₁ r₁ i₁ => ?_)
  (first | refine Is.eInt i₁ fun _ => ?_ | refine Is.eFn i₁ ?_ | refine Is.eBool i₁ ?_ | refine Is.eStr i₁ fun _ => ?_ | refine Is.eNone i₁ ?_ | cases i₁)
  cases args with
  | nil => exact absurd rfl hne'
  | cons e es =>
    obtain ⟨h1, h2⟩ := he e es rfl
    have S₁ := hS.gr r₁
    refine callWith_K (h₀ := s₁.heap) S₁.glOk.k hkeep (ha A E s₁ R₁ _ hA S₁ fun vs R₂ s₂ r₂ i₂ => ⟨(S₁.gr r₂).glOk.k, ?_⟩) h1 h2
    have S₂ := S₁.gr r₂
    exact hF A E s₂ R₂ vs _ _ (hA.le hkn) hfr (S₂.ff hFF hfl hk) S₂.glOk r₂.led i₂ fun e' s' rs T => q e' s₂ s' R₂ ((r₁.rest.trans r₂.rest).trans rs) S₂ T
section
variable {w : World} {p : Program} {loose : List Str} {mg mb : Str → Option Value}
theorem find_at58 {od : Obj} {v : Value} (hl : lookIn "at" od = some (some v)) : findObj (GG w p loose mg mb).K 58 (some od) "at" = some (.value v) := by
  unfold findObj
  (refine rwt (show clsIn (GG w p loose mg mb).K 58 = some _ from rfl) ?_; refine rwt (Option.bind_some ..) ?_; refine rwt (show findIn (GG w p loose mg mb).K (.ref 58) "at" = some none by with_unfolding_all rfl) ?_; refine rwt (Option.bind_some ..) ?_)
  simp only [Option.bind_some]
  unfold W.ownOf
  (refine rwt (if_pos rfl) ?_)
  dsimp only
  (refine rwt hl ?_)
  rfl
/-- except BadText as e: return e.at -/
theorem caught58 {A : Around} {E : Value → Shared → Prop} {s : Shared} {l : List Env} {name : Str} {scope : Scope} {L a : Addr} {cd : Value} {e : Addr} {h₀ b₀ : Heap} {k : Int} {np p1 p2 p3 pos : Pos} {rest : List ExceptHandler} {Q : Flow → Shared → Prop} {m : Str → Option Value}
    (hfr : A.frames = some (envOf name scope L a cd :: l)) (X : Thrown (envOf name scope L a cd :: l) h₀ e (.ref 58) (payAt k) s.heap) (B : Base (GG w p loose mg mb) b₀ (envOf name scope L a cd :: l) h₀) (hN : s.heap.Ns L m)
    (q : ∀ s' t, Rest s s' → (∀ b o, b ≠ L → s.heap.get? b = some o → (∀ vs, o.data ≠ .fields vs) → ∃ sl, s'.heap.get? b = some { o with slots := sl }) → (∀ b o, h₀.get? b = some o → b ∉ frs (envOf name scope L a cd :: l) → s'.heap.get? b = some o) → Q (.ret (.int k t)) s')
    (hk : scope.kind = .function := by rfl) (hx : (envOf name scope L a cd).kindOf "BadText" = some .globalImplicit := by rfl) (hx2 : (envOf name scope L a cd).kindOf "e" = some .local := by rfl)
    (hp : ((envOf name scope L a cd).scope.kind == .class || ((envOf name scope L a cd).scope.kind == .module && (envOf name scope L a cd).locals != (envOf name scope L a cd).globals)) = false := by rfl) :
    wpAny (GG w p loose mg mb).M A (noteFrame (.ref e) (envOf name scope L a cd)) (fun _ s₂ => wpAny (GG w p loose mg mb).M A (setFlight (.ref e) none) (fun _ s₃ =>
      wpAny (GG w p loose mg mb).M A (handleBy (.ref e) (envOf name scope L a cd) (.ExceptHandler (some (.Name "BadText" np)) (some "e") [.Return (some (.Attribute (.Name "e" p1) "at" p2)) p3] pos :: rest)) Q E s₃) E s₂) E s := by
  refine wrapG fun W_ k_ => ?_
  obtain ⟨u, B', dd, hb, hpy, ec⟩ := X
  refine k_ ?_
  clear k_ W_
  refine note_ hfr rfl ec fun h₁ k1 k2 k3 k4 => flight_ (s := { s with heap := h₁ }) k1 k2 k3 fun h₂ j1 j2 j3 j4 => ?_
  have X₂ : Thrown (envOf name scope L a cd :: l) h₀ e (.ref 58) (payAt k) h₂ := ⟨(u.trans k4).trans j4, B', dd, hb, hpy, ⟨j1, ec.new, j2, .inr (.inl j3)⟩⟩
  have hG := (X₂.cgt.base B).glOk
  refine xe13_1 (obj58 hG.k) fun nm qq bs sn sub ab col cdd c0 c1 c2 c3 c5 hC => ?_
  refine wrapG fun W_ k_ => ?_
  refine xe5_9 (id j3) fun oe vs T oT ts he g_1 hdt h1 hnT hTe hT hdT h3 => ?_
  obtain ⟨hc, hdd⟩ := g_1
  refine k_ ?_
  clear k_ W_
  refine wpAny_handleBy_cons (codeAny_handlers_test (Name_function_global hk hx (loadGlobal_global hG.t.g (mg_of hG.k hG.t.g (show nsIn (GG w p loose mg mb).K mainGlobals "BadText" = some (some (.ref 58)) from rfl)) ?_) (by decide))) (by intro q; cases q)
  refine wpAny_excMatches_sub_self hC he hc (by decide) (codeAny_handlers_suite_as ?_)
  refine flight_ (s := { s with heap := h₂ }) j1 j2 j3 fun h₃ i1 i2 i3 i4 => ?_
  have up₃ := (k4.trans j4).trans i4
  have hN₃ : h₃.Ns L m := by
    refine xe3_3 hN fun o es ep ho hd hr => ?_
    try clear hN
    obtain ⟨sl, hy⟩ := up₃ L o ho (fun vs z => by rw [hd] at z; cases z)
    exact ⟨_, es, ep, hy, hd, hr⟩
  refine wpAny_storeName_local (s := { s with heap := h₃ }) hx2 hN₃ (fun h₄ hN₄ hs₄ => ?_) hp
  refine wrapG fun W_ k_ => ?_
  refine xe3_3 hpy fun dx od t e_1 hod hl => ?_
  subst e_1
  try clear hpy
  refine k_ ?_
  clear k_ W_
  have hBL : B'.get? L = none := (i2.mem (l := envOf name scope L a cd :: l) (b := L) (.head _)).1
  refine wrapG fun W_ k_ => ?_
  refine xe5_4 (id i3) fun oe₃ vs₃ T₃ oT₃ ts₃ he₃ g_1 hdt₃ _ => ?_
  obtain ⟨hc₃, hdd₃⟩ := g_1
  refine k_ ?_
  clear k_ W_
  have hoL : ∃ o, h₃.get? L = some o ∧ ∀ vs, o.data ≠ .fields vs := by
    refine xe3_3 hN₃ fun o es ep ho hd hr => ?_
    try clear hN₃
    exact ⟨o, ho, fun vs z => by rw [hd] at z; cases z⟩
  have hLe : e ≠ L := by
    refine xe1_2 hoL fun o ho hn => ?_
    try clear hoL
    exact fun z => noFields he₃ hdt₃ ho hn z.symm
  have hLd : dx ≠ L := fun z => by rw [z, hBL] at hod; cases hod
  have hod₄ : h₄.get? dx = some od := (hs₄.2 _ hLd).trans (i1 _ _ hod)
  have he₄ : h₄.get? e = some oe₃ := (hs₄.2 _ hLe).trans he₃
  have I₄ : W.InstAt h₄ e oe₃ 58 (some od) := ⟨he₄, hc₃, by unfold notCls; (refine rwt hdt₃ ?_; with_reducible rfl), by (refine rwt hdd₃ ?_); exact hod₄⟩
  have X₄ : (GG w p loose mg mb).K.In h₄ := fun b o y => (hs₄.2 b (fun z => by
    have h2 := B.gl.k _ _ y
    have h3 : b₀.get? L = none := B.out L (by (rewrite [frs]; refine rwt List.filterMap_cons ?_); exact .head _)
    have z : b = L := z
    rw [z, h3] at h2; cases h2)).trans (((⟨(u.trans up₃), B', some dx, hb, ⟨dx, od, t, rfl, hod, hl⟩, ⟨i1, ec.new, i2, .inr (.inl i3)⟩⟩ : Thrown (envOf name scope L a cd :: l) h₀ e (.ref 58) (payAt k) h₃).cgt.base B).glOk.k b o y)
  refine wpAny_execs_cons (wpAny_Return_some ?_)
  (refine rwt (arm_eval_Attribute ..) ?_)
  refine wpAny_bind (wpAny_Name (wpAny_loadName_local (v := .ref e) hk hx2 hN₄ (if_pos rfl) ?_))
  refine wpAny_bind (wpAny_standAt (wpAny_bind (wpAny_holding ?_)))
  refine exc_getattr X₄ I₄ (by with_unfolding_all rfl) (by with_unfolding_all rfl) (by with_unfolding_all rfl) (find_at58 hl) rfl ?_
  refine wpAny_bind (wpAny_pure (wpAny_pure ?_))
  refine wpAny_nameGoes hx2 hN₄ hp fun h₅ m₅ hN₅ hs₅ => ?_
  refine q _ t ⟨_, _, rfl⟩ (fun b o hbL ho hn => ?_) (fun b o ho hn => ?_)
  · refine xe1_1 (up₃ b o ho hn) fun sl hy => ?_
    exact ⟨sl, (hs₅.2 b hbL).trans ((hs₄.2 b hbL).trans hy)⟩
  · have hbL : b ≠ L := fun z => hn (z ▸ by (rewrite [frs]; refine rwt List.filterMap_cons ?_); exact .head _)
    exact (hs₅.2 b hbL).trans ((hs₄.2 b hbL).trans (i1 _ _ (hb b o ho hn)))
end
end
section
set_option maxHeartbeats 1000000
set_option maxRecDepth 100000
open PySem PySem.W PySem.Calls PyProof.Rows PySem.Spec
/-- the box: a list of the ints still to give, and a state -/
structure Bx (h : Heap) (q pp : Addr) (ns : List Int) (z : Int) : Prop where
  ne : q ≠ pp
  top : ∃ n t, h.get? q = some (lstO [.ref pp, .int z t] n)
  its : ∃ vs n, h.get? pp = some (lstO vs n) ∧ IsAll [] vs (ns.map .int)
theorem Bx.keeps {h h' : Heap} {q pp : Addr} {ns : List Int} {z : Int} (x : Bx h q pp ns z) (k1 : h'.get? q = h.get? q) (k2 : h'.get? pp = h.get? pp) : Bx h' q pp ns z := by
  obtain ⟨a, b, c⟩ := x
  exact ⟨a, by (refine rwt k1 ?_); exact b, by (refine rwt k2 ?_); exact c⟩
section
variable {g : Gl} {f : Fm} {n : Nat} {σ : Vars}
theorem EV.box0 {v i : Expr} {pos : Pos} {q pp : Addr} {x : Value} {k : Nat} (ho : f.h₀.get? q = some (lstO [.ref pp, x] k)) (hv : EV g f n σ v (.fn q)) (hi : EV g f n σ i (.int 0))
    (hs : ∀ o j, subscripted i false o j = operate [o, j] (getItem o j) := by intro _ _; rfl) : EV g f n σ (.Subscript v i pos) (.fn pp) :=
  fun A E s R Q hA hS q' => Subscript_ (hv A E s R _ hA hS fun v₁ R₁ s₁ r₁ i₁ => hi A E s₁ R₁ _ hA (hS.gr r₁) fun v₂ R₂ s₂ r₂ i₂ => by
    (first | refine Is.eInt i₂ fun _ => ?_ | refine Is.eFn i₂ ?_ | refine Is.eBool i₂ ?_ | refine Is.eStr i₂ fun _ => ?_ | refine Is.eNone i₂ ?_ | cases i₂); (first | refine Is.eInt i₁ fun _ => ?_ | refine Is.eFn i₁ ?_ | refine Is.eBool i₁ ?_ | refine Is.eStr i₁ fun _ => ?_ | refine Is.eNone i₁ ?_ | cases i₁)
    have hk : s₂.heap.get? q = _ := ((let ⟨m, S⟩ := (hS.gr r₁).gr r₂; S.fr.keep) _ _ ho)
    have hl : s₂.heap.IsList q #[.ref pp, x] := ⟨_, hk, rfl, _, rfl⟩
    exact tail_any hl.typeIs slot_list_getitem.lookup (wpAny_getItem_list hl (by decide) (by decide) rfl (q' _ R₂ s₂ (r₁.trans r₂) (.fn pp))) (hs _ _))
theorem EV.box1 {v i : Expr} {pos : Pos} {q : Addr} {x : Value} {z : Int} {t : Tok} {k : Nat} (ho : f.h₀.get? q = some (lstO [x, .int z t] k)) (hv : EV g f n σ v (.fn q)) (hi : EV g f n σ i (.int 1))
    (hs : ∀ o j, subscripted i false o j = operate [o, j] (getItem o j) := by intro _ _; rfl) : EV g f n σ (.Subscript v i pos) (.int z) :=
  fun A E s R Q hA hS q' => Subscript_ (hv A E s R _ hA hS fun v₁ R₁ s₁ r₁ i₁ => hi A E s₁ R₁ _ hA (hS.gr r₁) fun v₂ R₂ s₂ r₂ i₂ => by
    (first | refine Is.eInt i₂ fun _ => ?_ | refine Is.eFn i₂ ?_ | refine Is.eBool i₂ ?_ | refine Is.eStr i₂ fun _ => ?_ | refine Is.eNone i₂ ?_ | cases i₂); (first | refine Is.eInt i₁ fun _ => ?_ | refine Is.eFn i₁ ?_ | refine Is.eBool i₁ ?_ | refine Is.eStr i₁ fun _ => ?_ | refine Is.eNone i₁ ?_ | cases i₁)
    have hk : s₂.heap.get? q = _ := ((let ⟨m, S⟩ := (hS.gr r₁).gr r₂; S.fr.keep) _ _ ho)
    have hl : s₂.heap.IsList q #[x, .int z t] := ⟨_, hk, rfl, _, rfl⟩
    exact tail_any hl.typeIs slot_list_getitem.lookup (wpAny_getItem_list hl (by decide) (by decide) rfl (q' _ R₂ s₂ (r₁.trans r₂) (.int z t))) (hs _ _))
theorem EV.boxLen {e : Expr} {p pos : Pos} {pp : Addr} {vs : List Value} {k : Nat} (ho : f.h₀.get? pp = some (lstO vs k)) (he : EV g f n σ e (.fn pp)) (hz : vs.length ≤ 1000000) (hg : nsIn g.K mainGlobals "len" = some none)
    (hs : starEach [e] f.env = [(false, eval e f.env)] := by rfl) (hk : f.env.scope.kind = .function := by rfl) (hx : f.env.kindOf "len" = some .globalImplicit := by rfl)
    (hgl : f.env.globals = mainGlobals := by rfl) (hb : f.env.builtins = builtinsNs := by rfl) : EV g f n σ (.Call (.Name "len" p) [e] [] pos) (.int vs.length) :=
  fun A E s R Q hA hS q => Call_Name1 (name_bi hS hg (show bootBuiltins "len" = some (.builtin "len") by decide +kernel) (callWith_builtin1 (he A E s R _ hA hS fun v R₁ s₁ r₁ i₁ => by
    (first | refine Is.eInt i₁ fun _ => ?_ | refine Is.eFn i₁ ?_ | refine Is.eBool i₁ ?_ | refine Is.eStr i₁ fun _ => ?_ | refine Is.eNone i₁ ?_ | cases i₁)
    have hk' : s₁.heap.get? pp = _ := ((let ⟨m, S⟩ := hS.gr r₁; S.fr.keep) _ _ ho)
    have hl : s₁.heap.IsList pp vs.toArray := ⟨_, hk', rfl, _, rfl⟩
    refine len_list hl (by (refine rwt List.size_toArray ?_); exact oq16 hz) ?_
    (refine rwt List.size_toArray ?_)
    exact q _ R₁ _ (r₁.trans (.toks r₁.led)) (.int _ _))) (by decide) hk hx hgl hb) hs
end
/-- the state over a base in which one object differs -/
theorem StM.reheap {g : Gl} {env : Env} {h₀ hB : Heap} {R₀ R : Led} {σ : Vars} {h h' : Heap} {m : Str → Option Value} {q : Addr} (S : StM g ⟨env, h₀, R₀⟩ σ R h m) (no : noOwn σ = true) (hfl : ∀ x d, (x, Sl.val d) ∈ σ → ∀ R v, Is R v d → Is [] v d)
    (hs : Heap.SameBut q h h') (hqL : env.locals ≠ q) (hG : GlOk g hB) (hk : ∀ b o, hB.get? b = some o → h'.get? b = some o) (hz : hB.objs.size = h₀.objs.size) : St g ⟨env, hB, []⟩ σ [] h' := by
  refine ⟨m, ⟨S.fr.ns.sameBut hs hqL, hk, by (refine rwt hz ?_); exact S.fr.above⟩, hG, (fun _ h => nomatch h), (fun _ h => nomatch h), S.nd, fun x d hx => ?_, fun x ds hx => ?_, S.one⟩
  · refine xe1_2 (S.vars x d hx) fun v hv i => ?_
    exact ⟨v, hv, hfl x d hx _ _ i⟩
  · have := List.all_eq_true.mp no _ hx
    cases this
/-- a test, from a state -/
theorem TR.at {g : Gl} {env : Env} {h₀ : Heap} {R₀ : Led} {n : Nat} {σ : Vars} {A : Around} {E : Value → Shared → Prop} {s : Shared} {R : Led} {t : Expr} {body orelse : List Stmt} {pos : Pos} {K : Flow → Shared → Prop} {b : Bool} (hA : AOk n A) (S : St g ⟨env, h₀, R₀⟩ σ R s.heap) (h : TR g ⟨env, h₀, R₀⟩ n σ t b)
    (ht : b = true → ∀ R₁ s₁, Gr R s R₁ s₁ → St g ⟨env, h₀, R₀⟩ σ R₁ s₁.heap → wpAny g.M A (execs body env) K E s₁) (hf : b = false → ∀ R₁ s₁, Gr R s R₁ s₁ → St g ⟨env, h₀, R₀⟩ σ R₁ s₁.heap → wpAny g.M A (execs orelse env) K E s₁) : wpAny g.M A (exec (.If t body orelse pos) env) K E s :=
  wpAny_If (h A E s R _ hA S fun R₁ s₁ r₁ => by
    cases b with
    | true => exact ht rfl R₁ s₁ r₁ (S.gr r₁)
    | false => exact hf rfl R₁ s₁ r₁ (S.gr r₁))
theorem EV.at {g : Gl} {env : Env} {h₀ : Heap} {R₀ : Led} {n : Nat} {σ : Vars} {A : Around} {E : Value → Shared → Prop} {s : Shared} {R : Led} {e : Expr} {d : D} {Q : Value → Shared → Prop} (hA : AOk n A) (S : St g ⟨env, h₀, R₀⟩ σ R s.heap) (h : EV g ⟨env, h₀, R₀⟩ n σ e d)
    (q : ∀ v R₁ s₁, Gr R s R₁ s₁ → Is R₁ v d → St g ⟨env, h₀, R₀⟩ σ R₁ s₁.heap → Q v s₁) : wpAny g.M A (eval e env) Q E s := h A E s R Q hA S fun v R₁ s₁ r₁ i₁ => q v R₁ s₁ r₁ i₁ (S.gr r₁)
section
variable {prog : Program} {w : World} {A : Around} {E : Value → Shared → Prop} {s : Shared}
theorem pop0 {D : Addr} {v : Value} {vs : List Value} {n : Nat} {u : Tok} {Q : Value → Shared → Prop} (ho : s.heap.get? D = some (lstO (v :: vs) n)) (hz : vs.length ≤ 10000)
    (h : ∀ h' n', Heap.SameBut D s.heap h' → h'.get? D = some (lstO vs n') → Q v { s with heap := h' }) : wpAny (model prog w) A (call (.builtin "list.pop") [.ref D, .int 0 u]) Q E s := by
  have hi : PySem.IsL s.heap D (v :: vs).toArray n := ho
  have e : (v :: vs).toArray.eraseIdxIfInBounds 0 = vs.toArray := kl_erase [] vs v
  refine call_meets PySem.F.slot_list_pop ⟨_, ho, rfl⟩ PySem.F.entry_list_pop (PySem.F.args_list_pop_2 _ _) (PySem.MeetsSeq.list_pop_at D (v :: vs).toArray n 0 u 0 v (by decide) ?_ rfl (by (refine rwt List.size_toArray ?_; refine rwt List.length_cons ?_; refine rwt sizeLine_eq ?_); exact oq218 hz)) ⟨ho, h _ _ (Heap.SameBut.update ..) (by
    have := hi.update (fun xs => xs.eraseIdxIfInBounds 0)
    rw [e] at this
    exact this)⟩
  unfold seqIndex?
  (refine rwt List.size_toArray ?_; refine rwt List.length_cons ?_)
  simp
theorem setBox {q : Addr} {a b v : Value} {n : Nat} {t : Tok} {Q : Unit → Shared → Prop} (ho : s.heap.get? q = some (lstO [a, b] n))
    (h : ∀ h' n', Heap.SameBut q s.heap h' → h'.get? q = some (lstO [a, v] n') → Q () { s with heap := h' }) : wpAny (model prog w) A (setItem (.ref q) (.int 1 t) v) Q E s := by
  have hi : PySem.IsL s.heap q [a, b].toArray n := ho
  refine ki_setAt (items := #[a, b]) (n := n) ho (by decide) (by decide) (by show (1 : Int) < (2 : Nat); decide) (h _ _ (Heap.SameBut.update ..) (hi.update (fun xs => xs.setIfInBounds 1 v)))
end
end
section
set_option maxHeartbeats 1000000
set_option maxRecDepth 100000
open PySem PySem.W PySem.Calls PyProof.Rows PySem.Spec
/-- what holds in a frame at L, made at s's end, whatever was raised and taken below it -/
structure TI (l : List Env) (P L : Addr) (s : Shared) (R' : Led) (s' : Shared) : Prop where
  rest : Rest s s'
  ff : FF l s'.heap
  tab : s'.heap.get? P = some (tabObj #[])
  loc : ∃ o, s'.heap.get? L = some o
  led : ∀ p ∈ R', p.1 ≠ P ∧ p.1 ∉ (L :: frs l)
theorem FF.but {l : List Env} {h h' : Heap} {L : Addr} (x : FF l h) (hL : L ∉ frs l) (k : ∀ b o, b ≠ L → h.get? b = some o → h'.get? b = some o) : FF l h' := fun env he => by
  refine xe0_2 (x env he) fun a r_0 => ?_
  refine xe2_3 r_0 fun L' o b c d => ?_
  exact ⟨a, L', o, b, k _ _ (fun e => hL (e ▸ List.mem_filterMap.mpr ⟨env, he, b⟩)) c, d⟩
theorem TI.there {l : List Env} {P L : Addr} {s : Shared} {R' : Led} {s' : Shared} (i : TI l P L s R' s') : ∀ b, b = P ∨ b ∈ (L :: frs l) → ∃ o, s'.heap.get? b = some o := fun b hb => by
  rcases hb with rfl | hb
  · exact ⟨_, i.tab⟩
  · rcases List.mem_cons.mp hb with rfl | hb
    · exact i.loc
    · exact frs_old i.ff _ hb
theorem TI.fresh {l : List Env} {P L : Addr} {s : Shared} {R' : Led} {s' : Shared} (i : TI l P L s R' s') {b : Addr} (hb : s'.heap.get? b = none) : b ≠ P ∧ b ∉ (L :: frs l) := by
  refine ⟨fun e => ?_, fun e => ?_⟩
  · obtain ⟨o, ho⟩ := i.there b (.inl e)
    rw [hb] at ho; cases ho
  · obtain ⟨o, ho⟩ := i.there b (.inr e)
    rw [hb] at ho; cases ho
theorem TI.lres {l : List Env} {P L : Addr} {s : Shared} {R' R'' : Led} {s' s'' : Shared} {f : Fm} (hL : f.env.locals = L) (hLl : L ∉ frs l) (hLP : L ≠ P) (r : LRes f R' s' R'' s'') (i : TI l P L s R' s') : TI l P L s R'' s'' := by
  subst hL
  refine ⟨i.rest.trans r.rest, i.ff.but hLl r.but, r.but _ _ (Ne.symm hLP) i.tab, r.loc, fun p hp => ?_⟩
  rcases r.new p hp with h | h
  · exact i.led p h
  · exact i.fresh h
/-- after a call that raised and took -/
theorem TI.cgt {g : Gl} {f : Fm} {σ : Vars} {l : List Env} {P : Addr} {s : Shared} {R' : Led} {s' s'' : Shared} (S : St g f σ R' s'.heap) (hfl : f.env.frame = some f.env.locals) (hLP : f.env.locals ≠ P) (hPl : P ∉ frs l) (rs : Rest s' s'') (c : Cgt (f.env :: l) s'.heap s''.heap) (i : TI l P f.env.locals s R' s') : TI l P f.env.locals s R' s'' := by
  have e : frs (f.env :: l) = f.env.locals :: frs l := by (rewrite [frs]; refine rwt List.filterMap_cons ?_; refine rwt hfl ?_; with_reducible rfl)
  refine ⟨i.rest.trans rs, i.ff.slots c.up, c.keep _ _ i.tab fun hm => ?_, ?_, i.led⟩
  · rw [e] at hm
    rcases List.mem_cons.mp hm with h | h
    · exact hLP h.symm
    · exact hPl h
  · refine xe1_1 S fun m S => ?_
    refine xe3_3 S.fr.ns fun o es ep ho hd _ => ?_
    obtain ⟨sl, hy⟩ := c.up _ _ ho (fun vs z => by rw [hd] at z; cases z)
    exact ⟨_, hy⟩
theorem St.cgt {g : Gl} {f : Fm} {σ : Vars} {R : Led} {h h' : Heap} {l : List Env} {P : Addr} (S : St g f σ R h) (no : noOwn σ = true) (c : Cgt (f.env :: l) h h') (h0 : ∀ b, b = P ∨ b ∈ frs (f.env :: l) → f.h₀.get? b = none) (hR : ∀ p ∈ R, p.1 ≠ P ∧ p.1 ∉ frs (f.env :: l)) (hL : f.env.locals ≠ P) : St g f σ R h' :=
  S.lam no (l := f.env :: l) (P := P) ⟨fun b o _ e hn => c.up b o e hn, fun b o _ e hm => c.keep b o e hm⟩ h0 hR hL
/-- a suite that falls through -/
def BP (g : Gl) (f : Fm) (n : Nat) (l : List Env) (σ : Vars) (ss : List Stmt) (I : Led → Shared → Prop) (J : Vars → Prop) : Prop :=
  ∀ (A : Around) (E : Value → Shared → Prop) (s : Shared) (R : Led) (K : Flow → Shared → Prop), AOk n A → A.frames = some (f.env :: l) → St g f σ R s.heap → I R s →
    (∀ s' R' σ', J σ' → St g f σ' R' s'.heap → I R' s' → (∀ p ∈ R, p ∈ R') → Rest s s' → K .next s') → wpAny g.M A (execs ss f.env) K E s
section
variable {g : Gl} {f : Fm} {n : Nat} {σ : Vars}
/-- what a for runs over: an iterator I of its own whose items stand on the ledger -/
def ITERT (g : Gl) (f : Fm) (n : Nat) (σ : Vars) (e : Expr) (items : List D) : Prop :=
  ∀ (A : Around) (E : Value → Shared → Prop) (s : Shared) (R : Led) (K : Value → Shared → Prop), AOk n A → St g f σ R s.heap →
    (∀ I fp P J R' s', Gr R s R' s' → Walks g.prog g.w A I fp [I] items.length P J → J 0 s'.heap → (∀ b ∈ fp, b = I ∨ ∃ o, (b, o) ∈ R') → (∀ i h, J i h → ∃ o, h.get? I = some o ∧ (noSeq' o ∧ o.cls = .type "tuple_iterator")) → s.heap.get? I = none →
      (∀ p ∈ R', p.1 ≠ I) → (∀ i v, P i v → ∃ d, items[i]? = some d ∧ Is R' v d) → K (.ref I) s') →
    wpAny g.M A (eval e f.env) (fun x s₁ => wpAny g.M A (pyIter x) K E s₁) E s

theorem ITERT.tup {e : Expr} {items : List D} (h : EV g f n σ e (.tup items)) : ITERT g f n σ e items :=
  fun A E s R K hA hS kk => h A E s R _ hA hS fun v R₁ s₁ r₁ i₁ => by
    cases i₁ with
    | tup hm ha =>
      rename_i a vs k
      have hl : s₁.heap.IsTuple a vs.toArray := ⟨_, r₁.led _ hm, rfl, _, rfl⟩
      have hlt : a < s₁.heap.objs.size := Heap.lt_size (r₁.led _ hm)
      refine wpAny_pyIter_tuple hl ?_
      have W := Walks.tuple (prog := g.prog) (w := g.w) (A := A) hA.hd s₁.heap.objs.size a (Nat.ne_of_lt hlt) vs.toArray
      have hlen : vs.toArray.size = items.length := by (refine rwt List.size_toArray ?_; refine rwt ha.length ?_; with_reducible rfl)
      rw [hlen] at W
      have r₂ : Gr R₁ s₁ R₁ { s₁ with heap := s₁.heap.push { cls := .type "tuple_iterator", data := .fields #[.ref a, .int 0 0] } } := .grow r₁.led fun b o e => Heap.get?_push_of_some _ e
      refine kk _ _ _ _ R₁ _ (r₁.trans r₂) W ⟨⟨_, Heap.get?_push_size _ rfl, rfl, rfl⟩, hl.at fun o e => Heap.get?_push_of_some _ e⟩ (fun b hb => ?_) (fun i h hJ => ?_) ?_ (fun p hp => Nat.ne_of_lt (Heap.lt_size (r₁.led p hp))) fun i v hv => ?_
      · rcases List.mem_cons.mp hb with rfl | hb
        · exact .inl rfl
        · (refine rwt (List.mem_singleton.mp hb) ?_); exact .inr ⟨_, hm⟩
      · refine wrapG fun W_ k_ => ?_
        refine xe0_2 hJ fun g_1 _ => ?_
        obtain ⟨o, ho, hc, _⟩ := g_1
        try clear hJ
        refine k_ ?_
        clear k_ W_
        exact ⟨o, ho, by (rewrite [noSeq']; refine rwt hc ?_); decide, hc⟩
      · cases q : s.heap.get? s₁.heap.objs.size with
        | none => rfl
        | some o => exact absurd (Heap.lt_size (r₁.ext _ _ q)) (Nat.lt_irrefl _)
      · exact ha.getV (by simpa using hv)
end
theorem letGo_plain {M : Model} {A : Around} {E : Value → Shared → Prop} {s : Shared} {elts : List Expr} {x1} {pos : Pos} {I T : Addr} {o : Obj} {Q : Unit → Shared → Prop} (ho : s.heap.get? I = some o) (hc : o.cls = .type "tuple_iterator") (hQ : Q () s) :
    wpAny M A (letOwnedTupleGo (.Tuple elts x1 pos) (.ref I) (.ref T)) Q E s := by
  unfold letOwnedTupleGo
  refine wpAny_bind (wpAny_load ho ?_)
  obtain ⟨c, d, dt, sl⟩ := o
  dsimp only at hc
  subst hc
  cases dt <;> first | exact wpAny_pure hQ | (dsimp only; rw [if_neg (by simp)]; exact wpAny_pure hQ)
/-- for x, y in ..: the suite may take what is raised below -/
theorem KP.forC {g : Gl} {f : Fm} {n : Nat} {l : List Env} {σ : Vars} {P : Addr} {s₀ : Shared} {x y : Str} {k : Nat} {p₁ p₂ tp pos : Pos} {iter : Expr} {body rest : List Stmt} {items : List D} {Post : Shared → Prop} (hLl : f.env.locals ∉ frs l) (hLP : f.env.locals ≠ P)
    (hit : ITERT g f n σ iter items) (J : Nat → Vars → Prop) (h0 : J 0 σ)
    (turn : ∀ i d σ, items[i]? = some d → J i σ → ∃ d₁ d₂ σ₁, d = .tup [d₁, d₂] ∧ Upds [(x, d₁), (y, d₂)] σ σ₁ ∧ BP g f n l σ₁ body (TI l P f.env.locals s₀) (fun σ' => J (i + 1) σ'))
    (done : ∀ σ, J items.length σ → KP g f n l σ rest (TI l P f.env.locals s₀) Post)
    (hs : ∀ x, foldedSetIterable iter f.env x = pure x := by intro _; rfl) (hl₁ : f.env.kindOf x = some .local := by rfl) (hl₂ : f.env.kindOf y = some .local := by rfl)
    (hp : (f.env.scope.kind == .class || (f.env.scope.kind == .module && f.env.locals != f.env.globals)) = false := by rfl) :
    KP g f n l σ (.For (.Tuple [.Name x p₁, .Name y p₂] k tp) iter body [] pos :: rest) (TI l P f.env.locals s₀) Post :=
  fun A E s R Q hA hfr hS hi q => by
    refine wpAny_execs_cons (wpAny_For (hit A E s R _ hA hS fun I fp PP W R₁ s₁ r₁ hW hW0 hfp hI hIn hIR hP => ?_) hs)
    have hI0 : f.h₀.get? I = none := by
      refine xe1_1 hS fun m S => ?_
      try clear hS
      cases q : f.h₀.get? I with
      | none => rfl
      | some o => rw [S.fr.keep _ _ q] at hIn; cases hIn
    have hIR₀ : ∀ p ∈ f.R₀, p.1 ≠ I := fun p hp e => by
      have hSl := hS.ledIn
      refine xe1_1 hS fun m S => ?_
      try clear hS
      have := hSl p (S.sub p hp)
      rw [e, hIn] at this; cases this
    have h0' : ∀ b ∈ [I], f.h₀.get? b = none ∧ ∀ p ∈ f.R₀, p.1 ≠ b := fun b hb => by (refine rwt (List.mem_singleton.mp hb) ?_); exact ⟨hI0, hIR₀⟩
    have hIfr := hi.fresh hIn
    refine xe1_3 (hI 0 _ hW0) fun oI hoI hnI _ => ?_
    have S₁ := hS.gr r₁
    have i₁ := hi.lres rfl hLl hLP (r₁.lres hS)
    have no : True := trivial
    have S₂ : St g f σ ((I, oI) :: R₁) s₁.heap := by
      refine xe1_1 S₁ fun m S₁ => ?_
      refine ⟨m, S₁.fr, S₁.gl, fun p hp => ?_, fun p hp => .tail _ (S₁.sub p hp), S₁.nd, fun x d hx => ?_, fun x ds hx => ?_, S₁.one⟩
      · rcases List.mem_cons.mp hp with rfl | hp
        · exact ⟨hoI, fun e => hIfr.2 (e ▸ .head _), .inr hI0⟩
        · exact S₁.led p hp
      · refine xe1_2 (S₁.vars x d hx) fun v hv i => ?_
        exact ⟨v, hv, i.mono fun p hp => .tail _ hp⟩
      · refine xe3_6 (S₁.own x ds hx) fun q vs k h1 h2 h3 h4 h5 h6 => ?_
        refine ⟨q, vs, k, h1, h2, h3, h4, fun p hp => ?_, h6.mono fun p hp => .tail _ hp⟩
        rcases List.mem_cons.mp hp with rfl | hp
        · intro e
          refine xe1_1 hS fun m' S => ?_
          try clear hS
          refine xe3_3 (S.own x ds hx) fun q' vs' k' g1 g2 _ => ?_
          refine xe3_4 S.fr.ns fun oL es ep hoL hdL hkL hfL => ?_
          refine xe3_4 S₁.fr.ns fun oL' es' ep' hoL' hdL' hkL' hfL' => ?_
          rw [r₁.ext _ _ hoL] at hoL'
          cases hoL'
          rw [hdL] at hdL'
          cases hdL'
          have : m' x = m x := (hfL x).symm.trans (hfL' x)
          rw [this, h1] at g1
          cases g1
          dsimp only at e
          rw [← e, hIn] at g2; cases g2
        · exact h5 p hp
    have i₂ : TI l P f.env.locals s₀ ((I, oI) :: R₁) s₁ := ⟨i₁.rest, i₁.ff, i₁.tab, i₁.loc, fun p hp => by
      rcases List.mem_cons.mp hp with rfl | hp
      · exact hIfr
      · exact i₁.led p hp⟩
    refine codeAny_forLoop_any (fun k s' => ∃ i σ' R' o', k = items.length + 1 - i ∧ i ≤ items.length ∧ J i σ' ∧ Rest s s' ∧ (∀ p ∈ R₁, p ∈ R') ∧ (I, o') ∈ R' ∧ noSeq' o' ∧ W i s'.heap ∧ St g f σ' R' s'.heap ∧ TI l P f.env.locals s₀ R' s') ?_ (items.length + 1)
      ⟨0, σ, (I, oI) :: R₁, oI, rfl, Nat.zero_le _, h0, r₁.rest, fun p hp => .tail _ hp, .head _, hnI, hW0, S₂, i₂⟩
    intro k s' hh_
    refine wrapG fun W_ k_ => ?_
    refine xe4_10 hh_ fun i σ' R' o' e_1 hi' hJ r' m' hIm hno hWi S' t' => ?_
    subst e_1
    try clear hh_
    refine k_ ?_
    clear k_ W_
    have hw' : ∀ b ∈ [I], ∃ o, (b, o) ∈ R' ∧ noSeq' o := fun b hb => by (refine rwt (List.mem_singleton.mp hb) ?_); exact ⟨o', hIm, hno⟩
    have hturn : ∀ {h' : Heap} {tk : Nat} {Nw : Led}, (∀ b o, b ∉ [I] → s'.heap.get? b = some o → h'.get? b = some o) → (∀ p ∈ Nw, p.1 = I) → TI l P f.env.locals s₀ (Nw ++ R'.filter fun p => decide (p.1 ∉ [I])) { s' with heap := h', toks := tk } := fun {h' tk Nw} hk hN => by
      have hk' : ∀ b o, b ≠ I → s'.heap.get? b = some o → h'.get? b = some o := fun b o hb => hk b o fun hm => hb (List.mem_singleton.mp hm)
      refine ⟨t'.rest.trans .mk', t'.ff.but (L := I) (fun hm => hIfr.2 (.tail _ hm)) hk', hk' _ _ (Ne.symm hIfr.1) t'.tab, ?_, fun p hp => ?_⟩
      · refine xe1_1 t'.loc fun o ho => ?_
        exact ⟨o, hk' _ _ (fun e => hIfr.2 (e ▸ .head _)) ho⟩
      · rcases List.mem_append.mp hp with hp | hp
        · (refine rwt (hN p hp) ?_); exact hIfr
        · exact t'.led p (List.mem_filter.mp hp).1
    by_cases hlt : i < items.length
    · refine hW.item i s' _ _ hlt hWi fun v h' tk hPv hW' hk => ?_
      refine xe1_2 (hP i v hPv) fun d hd iv => ?_
      refine xe1_3 (hI _ _ hW') fun o₂ ho₂ hn₂ hc₂ => ?_
      refine wrapG fun W_ k_ => ?_
      refine xe3_3 (turn i d σ' hd hJ) fun d₁ d₂ σ₁ e_1 u hbody => ?_
      subst e_1
      refine k_ ?_
      clear k_ W_
      have S₃ := S'.turn (h' := h') (Nw := [(I, o₂)]) hw' h0' hk (fun p hp => by (refine rwt (List.mem_singleton.mp hp) ?_); exact ⟨ho₂, .inr (.head _)⟩)
      have t₃ := hturn (tk := tk) (Nw := [(I, o₂)]) hk (fun p hp => by (refine rwt (List.mem_singleton.mp hp) ?_; with_reducible rfl))
      have sub₃ : ∀ p ∈ R₁, p ∈ [(I, o₂)] ++ R'.filter fun p => decide (p.1 ∉ [I]) := fun p hp => List.mem_append.mpr (.inr (List.mem_filter.mpr ⟨m' p hp, decide_eq_true fun hm => hIR p hp (List.mem_singleton.mp hm)⟩))
      cases iv with
      | tup hmT haT =>
      rename_i aT vsT nT
      have hT₃ : IsTup h' aT vsT.toArray := ⟨_, S₃.ledIn _ (sub₃ _ hmT), rfl, _, rfl⟩
      have hsz : vsT.toArray.size = 2 := by (refine rwt List.size_toArray ?_; refine rwt haT.length ?_); rfl
      dsimp only
      refine letGo_plain (s := { s' with heap := h', toks := tk }) ho₂ hc₂ ?_
      refine assign_Tuple_tuple (s := { s' with heap := h', toks := tk }) hA.hd hT₃ (by (refine rwt hsz ?_); rfl) rfl fun h₄ he₄ => ?_
      have ex₄ : ∀ b o, h'.get? b = some o → h₄.get? b = some o := fun b o e => he₄ b o (Nat.ne_of_lt (Heap.lt_size e)) e
      have S₄ := S₃.grow ex₄
      have t₄ : TI l P f.env.locals s₀ ([(I, o₂)] ++ R'.filter fun p => decide (p.1 ∉ [I])) { s' with heap := h₄, toks := tk } :=
        ⟨t₃.rest.trans ⟨_, _, rfl⟩, t₃.ff.keeps ex₄, ex₄ _ _ t₃.tab, (let ⟨o, ho⟩ := t₃.loc; ⟨o, ex₄ _ _ ho⟩), t₃.led⟩
      refine u.eTwo fun σ₀ u₁ u₂ => ?_
      clear hsz hT₃ hmT
      refine IsAll.eTwo haT fun v₁ v₂ i₁' i₂' => ?_
      refine assignInOrder_cons (wpAny_assign_Name (storeL_ (s := { s' with heap := h₄, toks := tk }) S₄ (i₁'.mono sub₃) u₁ (fun s₅ r₅ S₅ => ?_) hl₁ hp))
      refine assignInOrder_cons (wpAny_assign_Name (storeL_ S₅ (i₂'.mono sub₃) u₂ (fun s₆ r₆ S₆ => ?_) hl₂ hp))
      refine assignInOrder_nil ?_
      have t₆ := (t₄.lres rfl hLl hLP r₅).lres rfl hLl hLP r₆
      refine hbody A _ s₆ _ _ hA hfr S₆ t₆ fun s₇ R₇ σ₇ hJ₇ S₇ t₇ m₇ rs₇ => ?_
      have sub₇ : ∀ p ∈ R₁, p ∈ R₇ := fun p hp => m₇ p (sub₃ p hp)
      have hIm₇ : (I, o₂) ∈ R₇ := m₇ _ (.head _)
      refine ⟨items.length + 1 - (i + 1), by exact oq21 hi', i + 1, σ₇, R₇, o₂, rfl, hlt, hJ₇, (((r'.trans .mk').trans r₅.rest).trans r₆.rest).trans rs₇, sub₇, hIm₇, hn₂, hW.frame _ _ _ hW' fun b hb o e => ?_, S₇, t₇⟩
      rcases hfp b hb with rfl | ⟨o₆, h₆⟩
      · rw [ho₂] at e; cases e; exact S₇.ledIn _ hIm₇
      · have e1 := S₃.ledIn _ (sub₃ _ h₆)
        dsimp only at e1
        rw [e1] at e; cases e
        exact S₇.ledIn _ (sub₇ _ h₆)
    · have hin : i = items.length := by exact oq22 hlt hi'
      subst hin
      refine hW.done s' _ _ hWi fun h' tk hk => wpAny_execs_nil ?_
      have S₃ := S'.turn (h' := h') (Nw := []) hw' h0' hk (fun p hp => nomatch hp)
      have t₃ := hturn (tk := tk) (Nw := []) hk (fun p hp => nomatch hp)
      exact done σ' hJ A E { s' with heap := h', toks := tk } _ Q hA hfr S₃ t₃ q
end
section
set_option maxHeartbeats 400000
set_option maxRecDepth 100000
open PySem PySem.W PySem.Calls PyProof.Rows PySem.Spec
section
variable {g : Gl} {f : Fm} {n : Nat} {σ : Vars}
/-- x, y = (e₁, e₂), the parts raw -/
theorem swap2_ {A : Around} {E : Value → Shared → Prop} {s : Shared} {K : Flow → Shared → Prop} {e₁ e₂ : Expr} {k k' : Nat} {tp vp pos p₁ p₂ : Pos} {x y : Str} (hA : AOk n A)
    (h : wpAny g.M A (eval e₁ f.env) (fun v₁ s₁ => wpAny g.M A (eval e₂ f.env) (fun v₂ s₂ => ∃ R d₁ d₂ σ', Is R v₁ d₁ ∧ Is R v₂ d₂ ∧ St g f σ R s₂.heap ∧ Upds [(y, d₂), (x, d₁)] σ σ' ∧ (∀ R₃ s₃, LRes f R s₂ R₃ s₃ → St g f σ' R₃ s₃.heap → K .next s₃)) E s₁) E s)
    (hs : swapsWithSole [.Tuple [.Name x p₁, .Name y p₂] k tp] (.Tuple [e₁, e₂] k' vp) pos.line f.env = pure false := by rfl)
    (hw : swappedStores [.Tuple [.Name x p₁, .Name y p₂] k tp] (.Tuple [e₁, e₂] k' vp) f.env = pure (some [x, y]) := by rfl)
    (hl₁ : f.env.kindOf x = some .local := by rfl) (hl₂ : f.env.kindOf y = some .local := by rfl)
    (hp : (f.env.scope.kind == .class || (f.env.scope.kind == .module && f.env.locals != f.env.globals)) = false := by rfl)
    (h1 : starEach [e₁, e₂] f.env = (false, eval e₁ f.env) :: starEach [e₂] f.env := by rfl) (h2 : starEach [e₂] f.env = (false, eval e₂ f.env) :: starEach [] f.env := by rfl) : wpAny g.M A (exec (.Assign [.Tuple [.Name x p₁, .Name y p₂] k tp] (.Tuple [e₁, e₂] k' vp) pos) f.env) K E s := by
  refine Assign_Tuple_swapped (wpAny_Tuple (wpAny_items_cons (wpAny_mono h (fun v₁ s₁ h₁ => wpAny_items_cons (wpAny_mono h₁ (fun v₂ s₂ h₂ => wpAny_items_nil ?_) fun _ _ z => z) h2) fun _ _ z => z) h1)) hs hw
  refine xe4_5 h₂ fun R d₁ d₂ σ' i₁ i₂ S u q => ?_
  try clear h₂
  refine ⟨by show 2 ≤ sizeLine; (refine rwt sizeLine_eq ?_); exact oq219, ?_⟩
  have r : Gr R s₂ _ _ := .push (o := { cls := .type "tuple", data := .seq [v₁, v₂].toArray }) S.ledIn
  have ht : IsTup (s₂.heap.push { cls := .type "tuple", data := .seq [v₁, v₂].toArray }) s₂.heap.objs.size [v₁, v₂].toArray := ⟨_, Heap.get?_push_size _ rfl, rfl, _, rfl⟩
  show wpAny _ _ (unpackItems (.ref s₂.heap.objs.size) [v₁, v₂].toArray.size none) _ _ _
  refine unpackItems_tuple (s := { s₂ with heap := s₂.heap.push { cls := .type "tuple", data := .seq [v₁, v₂].toArray } }) hA.hd ht fun h' he => ?_
  have r₂ := r.trans (.grow (h' := h') (tk := s₂.toks) r.led fun b o e => he b o (Nat.ne_of_lt (Heap.lt_size e)) e)
  have S₂ := S.gr r₂
  refine u.eTwo fun σ₀ u₁ u₂ => ?_
  refine assignInOrder_cons (bindName_ (storeL_ S₂ (i₂.mono r₂.sub) u₁ (fun s₅ r₅ S₅ => ?_) hl₂ hp))
  refine assignInOrder_cons (bindName_ (storeL_ S₅ (i₁.mono r₂.sub) u₂ (fun s₆ r₆ S₆ => ?_) hl₁ hp))
  exact assignInOrder_nil (q _ s₆ (((r₂.lres S).trans r₅).trans r₆) S₆)
theorem LX.swap2 {e₁ e₂ : Expr} {k k' : Nat} {tp vp pos p₁ p₂ : Pos} {x y : Str} {d₁ d₂ : D} {σ' : Vars} {Q : Out → Prop} {X} (h₁ : EV g f n σ e₁ d₁) (h₂ : EV g f n σ e₂ d₂) (u : Upds [(y, d₂), (x, d₁)] σ σ') (q : Q (.next σ'))
    (hs : swapsWithSole [.Tuple [.Name x p₁, .Name y p₂] k tp] (.Tuple [e₁, e₂] k' vp) pos.line f.env = pure false := by rfl)
    (hw : swappedStores [.Tuple [.Name x p₁, .Name y p₂] k tp] (.Tuple [e₁, e₂] k' vp) f.env = pure (some [x, y]) := by rfl)
    (hl₁ : f.env.kindOf x = some .local := by rfl) (hl₂ : f.env.kindOf y = some .local := by rfl)
    (hp : (f.env.scope.kind == .class || (f.env.scope.kind == .module && f.env.locals != f.env.globals)) = false := by rfl)
    (h1 : starEach [e₁, e₂] f.env = (false, eval e₁ f.env) :: starEach [e₂] f.env := by rfl) (h2 : starEach [e₂] f.env = (false, eval e₂ f.env) :: starEach [] f.env := by rfl) : LX g f n σ (.Assign [.Tuple [.Name x p₁, .Name y p₂] k tp] (.Tuple [e₁, e₂] k' vp) pos) Q X :=
  fun A E s R K hA hS kk kx => swap2_ hA (h₁ A E s R _ hA hS fun v₁ R₁ s₁ r₁ i₁ => h₂ A E s₁ R₁ _ hA (hS.gr r₁) fun v₂ R₂ s₂ r₂ i₂ => ⟨R₂, d₁, d₂, σ', i₁.mono r₂.sub, i₂, (hS.gr r₁).gr r₂, u, fun R₃ s₃ r₃ S₃ => kk _ _ R₃ s₃ q (((r₁.lres hS).trans (r₂.lres (hS.gr r₁))).trans r₃) ⟨rfl, S₃⟩⟩) hs hw hl₁ hl₂ hp h1 h2
/-- int(b) of a bool -/
theorem EV.intB {e : Expr} {p pos : Pos} {b : Bool} (he : EV g f n σ e (.bool b)) (hg : nsIn g.K mainGlobals "int" = some none)
    (hs : starEach [e] f.env = [(false, eval e f.env)] := by rfl) (hk : f.env.scope.kind = .function := by rfl) (hx : f.env.kindOf "int" = some .globalImplicit := by rfl)
    (hgl : f.env.globals = mainGlobals := by rfl) (hbu : f.env.builtins = builtinsNs := by rfl) : EV g f n σ (.Call (.Name "int" p) [e] [] pos) (.int (if b then 1 else 0)) :=
  fun A E s R Q hA hS q => Call_Name1 (name_bi hS hg (show bootBuiltins "int" = some (.type "int") by decide +kernel) (PyProof.Rows.callWith_type rfl (evalArgs_plain (spliced_cons (he A E s R _ hA hS fun v R₁ s₁ r₁ i₁ => spliced_nil (by
    (first | refine Is.eInt i₁ fun _ => ?_ | refine Is.eFn i₁ ?_ | refine Is.eBool i₁ ?_ | refine Is.eStr i₁ fun _ => ?_ | refine Is.eNone i₁ ?_ | cases i₁)
    exact call_int_bool (q _ R₁ _ (r₁.trans (.toks r₁.led)) (.int _ _))))))) (by decide) hk hx hgl hbu) hs
/-- a statement that changes what holds -/
theorem KP.raw {l : List Env} {st : Stmt} {rest : List Stmt} {I I' : Led → Shared → Prop} {Post : Shared → Prop} {J : Vars → Prop}
    (h : ∀ (A : Around) (E : Value → Shared → Prop) (s : Shared) (R : Led) (Q : Flow → Shared → Prop), AOk n A → A.frames = some (f.env :: l) → St g f σ R s.heap → I R s → (∀ s' R' σ', J σ' → St g f σ' R' s'.heap → I' R' s' → Q .next s') → wpAny g.M A (exec st f.env) Q E s)
    (hr : ∀ σ', J σ' → KP g f n l σ' rest I' Post) : KP g f n l σ (st :: rest) I Post :=
  fun A E s R Q hA hfr hS hi q => wpAny_execs_cons (h A E s R _ hA hfr hS hi fun s' R' σ' hJ S' i' => hr σ' hJ A E s' R' Q hA hfr S' i' q)
theorem KP.mono {l : List Env} {ss : List Stmt} {I I' : Led → Shared → Prop} {Post Post' : Shared → Prop} (h : KP g f n l σ ss I' Post') (hi : ∀ R s, I R s → I' R s) (hp : ∀ s, Post' s → Post s) : KP g f n l σ ss I Post :=
  fun A E s R Q hA hfr hS i q => h A E s R Q hA hfr hS (hi R s i) fun s' p => q s' (hp s' p)
theorem KP.ifJ {l : List Env} {t : Expr} {body : List Stmt} {pos : Pos} {rest : List Stmt} {I : Led → Shared → Prop} {Post : Shared → Prop} {b : Bool} (J : Vars → Prop) (hI : ∀ R s R' s', LRes f R s R' s' → I R s → I R' s') (h : TR g f n σ t b)
    (ht : b = true → LP g f n σ body (fun o => ∃ σ', o = .next σ' ∧ J σ') (fun _ _ _ => False)) (he : b = false → J σ) (k : ∀ σ', J σ' → KP g f n l σ' rest I Post) : KP g f n l σ (.If t body [] pos :: rest) I Post :=
  fun A E s R Q hA hfr hS hi q => wpAny_execs_cons (LX.if_ (Q := fun o => ∃ σ', o = .next σ' ∧ J σ') (X := fun _ _ _ => False) h ht (fun e => LP.nil ⟨_, rfl, he e⟩) A E s R _ hA hS (fun o fl R₁ s₁ hq r₁ ok => by
    obtain ⟨σ', rfl, hJ⟩ := hq
    obtain ⟨rfl, S₁⟩ := ok
    exact k σ' hJ A E s₁ R₁ Q hA hfr S₁ (hI _ _ _ _ r₁ hi) q) fun _ _ _ _ _ _ h => h.elim)
theorem BP.cons {l : List Env} {st : Stmt} {rest : List Stmt} {I : Led → Shared → Prop} {J : Vars → Prop} (hI : ∀ R s R' s', LRes f R s R' s' → I R s → I R' s') (h : LX g f n σ st (fun o => ∃ σ', o = .next σ' ∧ BP g f n l σ' rest I J) (fun _ _ _ => False)) : BP g f n l σ (st :: rest) I J :=
  fun A E s R Q hA hfr hS hi q => wpAny_execs_cons (h A E s R _ hA hS (fun o fl R₁ s₁ hq r₁ ok => by
    obtain ⟨σ', rfl, hk⟩ := hq
    obtain ⟨rfl, S₁⟩ := ok
    exact hk A E s₁ R₁ Q hA hfr S₁ (hI _ _ _ _ r₁ hi) fun s' R' σ' hJ S' i' m' rs' => q s' R' σ' hJ S' i' (fun p hp => m' p (r₁.sub p hp)) (r₁.rest.trans rs')) fun _ _ _ _ _ _ h => h.elim)
theorem BP.nil {l : List Env} {I : Led → Shared → Prop} {J : Vars → Prop} (h : J σ) : BP g f n l σ [] I J := fun A E s R Q hA hfr hS hi q => wpAny_execs_nil (q s R σ h hS hi (fun _ h => h) (.refl s))
end
end
section
set_option maxHeartbeats 1000000
set_option maxRecDepth 100000
open PySem PySem.W PySem.Calls PyProof.Rows PySem.Spec
section
variable {g : Gl} {f : Fm} {n : Nat} {σ : Vars}
/-- l[:b] of a list of the base -/
theorem EV.sliceFn {v : Expr} {hi : Expr} {p pos : Pos} {a : Addr} {vs : List Value} {ds : List D} {b : Nat} (hv : EV g f n σ v (.fn a)) (hl : f.h₀.IsList a vs.toArray) (iv : IsAll [] vs ds) (hu : EV g f n σ hi (.int (b : Int))) (hz : ds.length ≤ 1000000)
    (ht : ∀ o r, letTemporaryGo v o r = pure () := by intro _ _; rfl) : EV g f n σ (.Subscript v (.Slice none (some hi) none p) pos) (.list (ds.take b)) :=
  fun A E s R Q hA hS q => wpAny_Subscript_list_slice (hv A E s R _ hA hS fun v₁ R₁ s₁ r₁ i₁ => (PT.none (g := g) (f := f) (n := n) (σ := σ)).eval hA (hS.gr r₁) fun v₂ R₂ s₂ r₂ i₂ => (PT.some hu).eval hA (hS.gr (r₁.trans r₂)) fun v₃ R₃ s₃ r₃ i₃ => by
    (first | refine Is.eInt i₁ fun _ => ?_ | refine Is.eFn i₁ ?_ | refine Is.eBool i₁ ?_ | refine Is.eStr i₁ fun _ => ?_ | refine Is.eNone i₁ ?_ | cases i₁)
    have r₄ := ((r₁.trans r₂).trans r₃)
    have hl₃ : s₃.heap.IsList a vs.toArray := by
      refine xe1_2 hl fun o ho r => ?_
      try clear hl
      exact ⟨o, (let ⟨m, S⟩ := hS.gr r₄; S.fr.keep) _ _ ho, r⟩
    refine ⟨a, vs.toArray, none, some (b : Int), rfl, hl₃, by (refine rwt List.size_toArray ?_; refine rwt iv.length ?_; refine rwt sizeLine_eq ?_); exact oq15 hz, part_of i₂, part_of i₃, ?_⟩
    have r₅ : Gr R₃ s₃ R₃ { s₃ with heap := s₃.heap.push { cls := .type "slice", data := .fields #[v₂, v₃, .none] } } := .grow r₃.led fun b o e => Heap.get?_push_of_some _ e
    have r₆ := r₄.trans r₅
    have r₇ := r₆.trans (.push r₆.led (o := { cls := .type "list", data := .seq (slicePick vs.toArray none (some (b : Int)) none) }))
    rw [Heap.size_push] at r₇
    refine q _ _ _ r₇ (.list (vs := (slicePick vs.toArray none (some (b : Int)) none).toList) (n := 0) ?_ ?_)
    · show (_, lstO (slicePick vs.toArray none (some (b : Int)) none).toList 0) ∈ _
      simp only [lstO, Array.toArray_toList]
      exact .head _
    · (refine rwt (slicePick_upto' ..) ?_)
      have h2 := (iv.take b).mono (R' := (s₃.heap.objs.size + 1, ({ cls := .type "list", data := .seq (List.take b vs.toArray.toList).toArray } : Obj)) :: R₃) nil_sub
      simpa using h2) ht
theorem St.flat {env : Env} {h₀ : Heap} {σ : Vars} {R : Led} {h : Heap} (S : St g ⟨env, h₀, []⟩ σ R h) (no : noOwn σ = true) (hfl : ∀ x d, (x, Sl.val d) ∈ σ → ∀ R v, Is R v d → Is [] v d) : St g ⟨env, h₀, []⟩ σ [] h := by
  refine xe1_1 S fun m S => ?_
  refine ⟨m, S.fr, S.gl, (fun _ h => nomatch h), (fun _ h => nomatch h), S.nd, fun x d hx => ?_, fun x ds hx => ?_, S.one⟩
  · refine xe1_2 (S.vars x d hx) fun v hv i => ?_
    exact ⟨v, hv, hfl x d hx _ _ i⟩
  · have := List.all_eq_true.mp no _ hx
    cases this
/-- box[1] off the heap -/
theorem box1R {env : Env} {h₀ : Heap} {R₀ R : Led} {A : Around} {E : Value → Shared → Prop} {s : Shared} {Q : Value → Shared → Prop} {v i : Expr} {pos : Pos} {q : Addr} {x : Value} {z : Int} {t : Tok} {k : Nat} (hA : AOk n A) (S : St g ⟨env, h₀, R₀⟩ σ R s.heap) (ho : s.heap.get? q = some (lstO [x, .int z t] k)) (hv : EV g ⟨env, h₀, R₀⟩ n σ v (.fn q)) (hi : EV g ⟨env, h₀, R₀⟩ n σ i (.int 1))
    (q' : ∀ R' s', Gr R s R' s' → St g ⟨env, h₀, R₀⟩ σ R' s'.heap → Q (.int z t) s')
    (hs : ∀ o j, subscripted i false o j = operate [o, j] (getItem o j) := by intro _ _; rfl) : wpAny g.M A (eval (.Subscript v i pos) env) Q E s :=
  Subscript_ (hv A E s R _ hA S fun v₁ R₁ s₁ r₁ i₁ => hi A E s₁ R₁ _ hA (S.gr r₁) fun v₂ R₂ s₂ r₂ i₂ => by
    (first | refine Is.eInt i₂ fun _ => ?_ | refine Is.eFn i₂ ?_ | refine Is.eBool i₂ ?_ | refine Is.eStr i₂ fun _ => ?_ | refine Is.eNone i₂ ?_ | cases i₂); (first | refine Is.eInt i₁ fun _ => ?_ | refine Is.eFn i₁ ?_ | refine Is.eBool i₁ ?_ | refine Is.eStr i₁ fun _ => ?_ | refine Is.eNone i₁ ?_ | cases i₁)
    have hk : s₂.heap.get? q = _ := r₂.ext _ _ (r₁.ext _ _ ho)
    have hl : s₂.heap.IsList q #[x, .int z t] := ⟨_, hk, rfl, _, rfl⟩
    exact tail_any hl.typeIs slot_list_getitem.lookup (wpAny_getItem_list hl (by decide) (by decide) rfl (q' R₂ s₂ (r₁.trans r₂) ((S.gr r₁).gr r₂))) (hs _ _))
/-- for x in ..: the suite changes the box's state -/
theorem forBox {A : Around} {E : Value → Shared → Prop} {s : Shared} {R : Led} {K : Flow → Shared → Prop} {x : Str} {px pos : Pos} {iter : Expr} {body : List Stmt} {items : List D} {q pp : Addr} {as : List Int} {z₀ : Int} (hA : AOk n A) (hit : ITER g f n σ iter items) (hS : St g f σ R s.heap)
    (hb : Bx s.heap q pp as z₀) (hz₀ : 0 ≤ z₀ ∧ z₀ < 1000003) (hq0 : f.h₀.get? q = none) (hLq : f.env.locals ≠ q) (hLp : f.env.locals ≠ pp) (hRq : ∀ p ∈ R, p.1 ≠ q)
    (J : Nat → Vars → Prop) (h0 : J 0 σ) (hno : ∀ i σ, J i σ → noOwn σ = true)
    (turn : ∀ i d σ, items[i]? = some d → J i σ → ∃ σ₁, Upd x (.val d) σ σ₁ ∧ J (i + 1) σ₁ ∧ ∀ (A : Around) (E : Value → Shared → Prop) (s' : Shared) (R' : Led) (K : Flow → Shared → Prop) (z : Int), AOk n A → St g f σ₁ R' s'.heap → Bx s'.heap q pp as z → (0 ≤ z ∧ z < 1000003) →
      (∀ s'' z', Rest s' s'' → Bx s''.heap q pp as z' → (0 ≤ z' ∧ z' < 1000003) → (∀ b o, b ≠ q → s'.heap.get? b = some o → s''.heap.get? b = some o) → K .next s'') → wpAny g.M A (execs body f.env) K E s')
    (done : ∀ σ' R' s' z', J items.length σ' → St g f σ' R' s'.heap → Bx s'.heap q pp as z' → (0 ≤ z' ∧ z' < 1000003) → Rest s s' → K .next s')
    (hs : ∀ x, foldedSetIterable iter f.env x = pure x := by intro _; rfl) (hl : f.env.kindOf x = some .local := by rfl)
    (hp : (f.env.scope.kind == .class || (f.env.scope.kind == .module && f.env.locals != f.env.globals)) = false := by rfl) : wpAny g.M A (exec (.For (.Name x px) iter body [] pos) f.env) K E s := by
  refine wpAny_For (hit A E s R _ hA hS fun I fp P W R₁ s₁ r₁ hW hW0 hfp hI hIn hIR hP => ?_) hs
  refine xe2_1 hb.top fun nq tq hqo => ?_
  refine xe2_2 hb.its fun vsq np hpo ivq => ?_
  have hqI : q ≠ I := fun e => by rw [← e, hqo] at hIn; cases hIn
  have hpI : pp ≠ I := fun e => by rw [← e, hpo] at hIn; cases hIn
  have hI0 : f.h₀.get? I = none := by
    refine xe1_1 hS fun m S => ?_
    try clear hS
    cases q : f.h₀.get? I with
    | none => rfl
    | some o => rw [S.fr.keep _ _ q] at hIn; cases hIn
  have hIR₀ : ∀ p ∈ f.R₀, p.1 ≠ I := fun p hp e => by
    have hSl := hS.ledIn
    refine xe1_1 hS fun m S => ?_
    try clear hS
    have := hSl p (S.sub p hp)
    rw [e, hIn] at this; cases this
  have h0' : ∀ b ∈ [I], f.h₀.get? b = none ∧ ∀ p ∈ f.R₀, p.1 ≠ b := fun b hb => by (refine rwt (List.mem_singleton.mp hb) ?_); exact ⟨hI0, hIR₀⟩
  refine xe1_2 (hI 0 _ hW0) fun oI hoI hnI => ?_
  have S₁ := hS.gr r₁
  have hR₁ : ∀ p ∈ R₁, p.1 ≠ q := fun p hp e => by
    rcases r₁.new p hp with h | h
    · exact hRq p h e
    · rw [e, hqo] at h; cases h
  have S₂ : St g f σ ((I, oI) :: R₁) s₁.heap := by
    have hn := hno 0 σ h0
    refine xe1_1 S₁ fun m S₁ => ?_
    refine ⟨m, S₁.fr, S₁.gl, fun p hp => ?_, fun p hp => .tail _ (S₁.sub p hp), S₁.nd, fun x d hx => ?_, fun x ds hx => ?_, S₁.one⟩
    · rcases List.mem_cons.mp hp with rfl | hp
      · refine ⟨hoI, fun e => ?_, .inr hI0⟩
        refine xe1_1 hS.loc fun o ho => ?_
        dsimp only at e
        rw [← e, hIn] at ho; cases ho
      · exact S₁.led p hp
    · refine xe1_2 (S₁.vars x d hx) fun v hv i => ?_
      exact ⟨v, hv, i.mono fun p hp => .tail _ hp⟩
    · have := List.all_eq_true.mp hn _ hx
      cases this
  refine codeAny_forLoop (fun k s' => ∃ i σ' R' o' z', k = items.length + 1 - i ∧ i ≤ items.length ∧ J i σ' ∧ Rest s s' ∧ (∀ p ∈ R₁, p ∈ R') ∧ (I, o') ∈ R' ∧ noSeq' o' ∧ W i s'.heap ∧ St g f σ' R' s'.heap ∧ (∀ p ∈ R', p.1 ≠ q) ∧ Bx s'.heap q pp as z' ∧ (0 ≤ z' ∧ z' < 1000003)) ?_ (items.length + 1)
    ⟨0, σ, (I, oI) :: R₁, oI, z₀, rfl, Nat.zero_le _, h0, r₁.rest, fun p hp => .tail _ hp, .head _, hnI, hW0, S₂, fun p hp => ?_, hb.keeps ((r₁.ext _ _ hqo).trans hqo.symm) ((r₁.ext _ _ hpo).trans hpo.symm), hz₀⟩
  · intro k s' hh_
    refine wrapG fun W_ k_ => ?_
    refine xe5_12 hh_ fun i σ' R' o' z' e_1 hi hJ r' m' hIm hnoo hWi S' hRq' hb' hz' => ?_
    subst e_1
    try clear hh_
    refine k_ ?_
    clear k_ W_
    have hw' : ∀ b ∈ [I], ∃ o, (b, o) ∈ R' ∧ noSeq' o := fun b hb => by (refine rwt (List.mem_singleton.mp hb) ?_); exact ⟨o', hIm, hnoo⟩
    refine xe2_1 hb'.top fun nq' tq' hqo' => ?_
    refine xe2_2 hb'.its fun vsq' np' hpo' ivq' => ?_
    by_cases hlt : i < items.length
    · refine hW.item i s' _ _ hlt hWi fun v h' tk hPv hW' hk => ?_
      refine xe1_2 (hP i v hPv) fun d hd iv => ?_
      refine xe1_2 (hI _ _ hW') fun o₂ ho₂ hn₂ => ?_
      refine xe1_3 (turn i d σ' hd hJ) fun σ₁ u hJ₁ hbody => ?_
      have S₃ := S'.turn (h' := h') (Nw := [(I, o₂)]) hw' h0' hk (fun p hp => by (refine rwt (List.mem_singleton.mp hp) ?_); exact ⟨ho₂, .inr (.head _)⟩)
      have sub₃ : ∀ p ∈ R₁, p ∈ [(I, o₂)] ++ R'.filter fun p => decide (p.1 ∉ [I]) := fun p hp => List.mem_append.mpr (.inr (List.mem_filter.mpr ⟨m' p hp, decide_eq_true fun hm => hIR p hp (List.mem_singleton.mp hm)⟩))
      have hR₃ : ∀ p ∈ [(I, o₂)] ++ R'.filter fun p => decide (p.1 ∉ [I]), p.1 ≠ q := fun p hp => by
        rcases List.mem_append.mp hp with hp | hp
        · (refine rwt (List.mem_singleton.mp hp) ?_); exact Ne.symm hqI
        · exact hRq' p (List.mem_filter.mp hp).1
      have hk' : ∀ b o, b ≠ I → s'.heap.get? b = some o → h'.get? b = some o := fun b o hbI => hk b o fun hm => hbI (List.mem_singleton.mp hm)
      refine wpAny_assign_Name (storeL_ (s := { s' with heap := h', toks := tk }) S₃ (iv.mono sub₃) u (fun s₄ r₄ S₄ => ?_) hl hp)
      have hb₄ : Bx s₄.heap q pp as z' := hb'.keeps ((r₄.but _ _ (Ne.symm hLq) (hk' _ _ hqI hqo')).trans hqo'.symm) ((r₄.but _ _ (Ne.symm hLp) (hk' _ _ hpI hpo')).trans hpo'.symm)
      refine hbody A _ s₄ _ _ z' hA S₄ hb₄ hz' fun s₅ z₅ r₅ hb₅ hz₅ k₅ => ?_
      have S₅ : St g f σ₁ _ s₅.heap := S₄.but (wr := [q]) (hno _ _ hJ₁) (fun b o hb' => k₅ b o fun e => hb' (e ▸ .head _)) (fun p hp hm => hR₃ p hp (List.mem_singleton.mp hm)) (fun b hb' => by (refine rwt (List.mem_singleton.mp hb') ?_); exact hq0) (fun hm => hLq (List.mem_singleton.mp hm))
      refine ⟨items.length + 1 - (i + 1), by exact oq21 hi, i + 1, σ₁, _, o₂, z₅, rfl, hlt, hJ₁, ((r'.trans .mk').trans r₄.rest).trans r₅, sub₃, .head _, hn₂, hW.frame _ _ _ hW' fun b hb' o e => ?_, S₅, hR₃, hb₅, hz₅⟩
      rcases hfp b hb' with rfl | ⟨o₆, h₆⟩
      · rw [ho₂] at e; cases e; exact S₅.ledIn _ (.head _)
      · have e1 := S₃.ledIn _ (sub₃ _ h₆)
        dsimp only at e1
        rw [e1] at e; cases e
        exact S₅.ledIn _ (sub₃ _ h₆)
    · have hin : i = items.length := by exact oq22 hlt hi
      subst hin
      refine hW.done s' _ _ hWi fun h' tk hk => wpAny_execs_nil ?_
      have S₃ := S'.turn (h' := h') (Nw := []) hw' h0' hk (fun p hp => nomatch hp)
      have hk' : ∀ b o, b ≠ I → s'.heap.get? b = some o → h'.get? b = some o := fun b o hbI => hk b o fun hm => hbI (List.mem_singleton.mp hm)
      exact done σ' _ { s' with heap := h', toks := tk } z' hJ S₃ (hb'.keeps ((hk' _ _ hqI hqo').trans hqo'.symm) ((hk' _ _ hpI hpo').trans hpo'.symm)) hz' (r'.trans .mk')
  · rcases List.mem_cons.mp hp with rfl | hp
    · exact Ne.symm hqI
    · exact hR₁ p hp
end
end
open PySem PySem.W PySem.Calls PyProof.Rows PySem.Spec
local macro_rules | `(tactic| wtm_at $s:str) => wkM (s.getString ++ ":") ("l:lkH  ;lkT a al|u:Upd.here a ar;Upd.tail a au|U:Upds.nil  ;Upds.cons ab aubU|p:Rp.here  ;Rp.tail a ap|O:OP.addN  ;OP.mask  ;OP.andN  ;OP.shrN  ;OP.shl1 a as;OP.shlN ab asbs;OP.mulN a as;OP.divN ab asbs;OP.modN a as;OP.add  ;OP.sub  ;OP.and  ;OP.subB  ;OP.mul a as;OP.div ab asbs;OP.mod a as;OP.shl abc asbscs;OP.shr a as;OP.addS a as|I:IOP.addN  ;IOP.shrN  ;IOP.add  ;IOP.sub  ;IOP.shr a as|C:CMP.eqI  ;CMP.neI  ;CMP.ltI  ;CMP.leI  ;CMP.gtI  ;CMP.geI  ;CMP.neB  ;CMP.eqB  ;CMP.isN  ;CMP.eqS  ;CMP.inS  ;CMP.eqR a ak;CMP.neR a ak;CMP.neR a aj|S:ES.nil  ;ES.cons abc aEbScr|E:EV.int  ;EV.str  ;EV.bool  ;EV.nul  ;EV.name abcd albrcrdd;EV.bin abc aEbEcO;EV.cmp abcd aEbEcCdr;EV.neg a aE;EV.and2 ab aEbe;EV.not a aE;EV.iteI abc aTbece;EV.ite abc aTbece;EV.tup ab aSbb;EV.list ab aSbb;EV.lenN abcdefgh aEbscrdrerfrgrhr;EV.abs acdefgh aEcrdrerfrgrhr;EV.glob abcde arbrcrdred;EV.callM abcdefg frgraEbScFdder;EV.itemT abcdefg aEbEcrdredfdgR;EV.itemN abcdef aEbEcsdsesfR;EV.cellAt abcd aAbrcrdd|T:TR.cmp abcd aEbEcCdr;TR.and2 ab aTbt;TR.or2 ab aTbt;TR.not a aT;TR.value ab bRaE|W:WX.own abzhij hrirjraubrn;WX.own1 abcdzhijkl hrirjrkrlraSbUcudrn;WX.own2 abcdzhijkl hrirjrkrlraSbUcudrn;WX.swap2 abzhijk hrirjrkraSbUn;WX.swap3 abzhijk hrirjrkraSbUn;WX.unpack2 abzhijkl hrirjrkrlraEbUn;WX.assign abzhij hrirjraEbun;WX.aug abcdzhij hrirjralbEcIdun;WX.append abczhijklmn hrirjdkrlrmrnrapbEcsn;WX.ret az aEm|F:fn_normal _a_bc asbscs;fn_nat_from_text ____abcdefg asbscsdsesfsgs;fn_r_text ____abcdef asbscsdsesfs;fn_nat_text ___abcde asbscsdses;fn_nearest ____PQabcdefgh asbscsdsesfsgshs;fn_nearer _______abcdefghijk asbscsdsesfsgshsisjsks;fn_convergents ___abcde asbscsdses;fn_continued ___abcde asbscsdses;fn_law_whole __abc asbscs;fn_law_rational ___PQabcdefg asbscsdsesfsgs;fn_law_least __PQabcde asbscsdses;fn_law_signed __abc asbscs;fn_r_div _____PQabcdefghijk asbscsdsesfsgshsisjsks;fn_r_mul _____PQabcdefghij asbscsdsesfsgshsisjs;fn_r_sub _____PQabcdefghij asbscsdsesfsgshsisjs;fn_r_add _____PQabcdefghij asbscsdsesfsgshsisjs;fn_r_compare _____abcdef asbscsdsesfs;fn_r_inverse ___abcd asbscsds;fn_r_abs ___ ;fn_r_neg ___ab asbs;fn_r_make ___PQabcdefg asbscsdsesfsgs;fn_signed_of __ ;fn_cut_signed __Z_abcdef asbscsdsesfs;fn_common ___abcd asbscsds;fn_add_limb1 __abc asbscs;fn_fdiv ___abcde asbscsdses;fn_tdiv ___abcde asbscsdses;fn_s_mul ___abcde asbscsdses;fn_s_sub ___abcd asbscsds;fn_s_add ___abcd asbscsds;fn_s_compare ___abc asbscs;fn_s_neg __ab asbs;fn_signed ___ab asbs;fn_law_divrem ___abcde asbscsdses;fn_law_mul ___abcde asbscsdses;fn_add_limb ___abcd asbscsds;fn_sub ___abcd asbscsds;fn_add ___abcd asbscsds;fn_compare ___abc asbscs;fn_nat_of __abc asbscs;fn_plain_of __abc asbscs;fn_law_number __abc asbscs;fn_law_limbs __abc asbscs|b:ble a ar|n:Then.next z |k:okD_RT ___ |j:okD_ints _ |s:A;sd1 a aA;sd2 a aA;sd3 a aA;sd4 a aA;sd5 _ ;y;o;d|V:WP.cons t W|Z:WP.freeze az ap|h:hD1 a i;hD2 a i;hB1 a i;hB2 a i;hN1 a i;hN2 a i;i|R:ir|m:Then.ret z m;0|t:hT|e:hE".splitOn "|")
set_option maxRecDepth 100000
set_option maxHeartbeats 4000000
section
variable {w : World} {p : Program} {loose : List Str} {mg mb : Str → Option Value}

theorem fn_normal (wd : Nat) (hw : 1 ≤ wd) (xs : List Nat) (hd : Dig (2 ^ wd) xs) (hz : xs.length ≤ 1000000) : FN (GG w p loose mg mb) 1 79 [NI xs] (LM wd (num (2 ^ wd) xs)) := by
  refine FN.of ["a"] ["end"] rfl rfl (len1 fun _ => rfl) rfl (by decide) rfl (fun L h₀ R₀ => ?_)
  simp only [mkVars, List.zip_cons_cons, List.zip_nil_right, List.map_cons, List.map_nil, List.cons_append, List.nil_append]
  wtm_at "V"
  refine WP.cons (WX.while_ (fun k σ => ∃ e : Nat, k = e ∧ e ≤ xs.length ∧ num (2 ^ wd) xs = num (2 ^ wd) (xs.take e) ∧ σ = [V "a" (NI xs), V "end" (.int e)]) xs.length ⟨xs.length, rfl, Nat.le_refl _, by (refine rwt List.take_length ?_; with_reducible rfl), rfl⟩ ?_)
  intro k σ hh_
  refine wrapG fun W_ k_ => ?_
  refine xe1_4 hh_ fun e e_1 he hn e_2 => ?_
  subst e_1
  subst e_2
  try clear hh_
  refine k_ ?_
  clear k_ W_
  refine ⟨_, by wtm_at "T", fun hb => ?_, fun hb => Then.next ?_⟩
  · simp only [Bool.and_eq_true, decide_eq_true_eq, beq_iff_eq] at hb
    refine xe0_2 hb fun h1 h2 => ?_
    try clear hb
    wtm_at "V"
    refine WP.nil ⟨k - 1, by exact oq220 h1, k - 1, rfl, by exact oq221 he, ?_, ?_⟩
    · (refine rwt hn ?_)
      have e1 : k = (k - 1) + 1 := by exact oq222 h1
      rw [show ((k : Int) - 1).toNat = k - 1 by exact oq223] at h2
      conv => lhs; rw [e1]
      rw [num_take_succ (by exact oq224 h1 he)]
      rw [show xs.getD (k - 1) 0 = 0 by exact oq225 h2]
      simp
    · rw [show ((k : Int) - 1) = ((k - 1 : Nat) : Int) by exact oq226 h1]
  · refine WP.cons (WX.ret (EV.sliceTo (by wtm_at "E") (by wtm_at "E") (by exact oq83) hz) (Then.ret ?_))
    rw [hn]
    have hd' : Dig (2 ^ wd) (xs.take k) := fun x hx => hd x (List.mem_of_mem_take hx)
    rw [LM, dg_of (two_le_base hw) hd']
    · rfl
    · by_cases h0 : k = 0
      · left; rw [h0]; rfl
      · right
        rw [List.length_take, Nat.min_eq_left he]
        have e1 : k = (k - 1) + 1 := by exact oq227 h0
        conv => rhs; rw [e1]
        rw [num_take_succ (by exact oq228 h0 he)]
        have hk : 0 < xs.getD (k - 1) 0 := by
          rw [show ((k : Int) - 1).toNat = k - 1 by exact oq223] at hb
          have : decide ((0 : Int) < (k : Int)) = true := decide_eq_true (by exact oq229 h0)
          rw [this, Bool.true_and] at hb
          have := beq_eq_false_iff_ne.mp hb
          exact oq230 this
        have := Nat.mul_le_mul_left ((2 ^ wd) ^ (k - 1)) hk
        simp only [Nat.succ_eq_add_one, Nat.zero_add, Nat.mul_one] at this
        exact oq231 this

theorem fn_nat_of (wd n : Nat) (hw : 1 ≤ wd) (hw2 : wd ≤ 1000) (hn : n < 2 ^ 1000) : FN (GG w p loose mg mb) 1 86 [.int n, .int wd] (LM wd n) := by
  refine FN.of ["number", "w"] ["found", "mask"] rfl rfl (len2 fun _ _ => rfl) rfl (by decide) rfl (fun L h₀ R₀ => ?_)
  simp only [mkVars, List.zip_cons_cons, List.zip_nil_right, List.map_cons, List.map_nil, List.cons_append, List.nil_append]
  refine WP.cons (WX.if_ (b := decide ((n : Int) < 0)) (by wtm_at "T") (fun h => absurd (of_decide_eq_true h) (by exact oq213)) (fun _ => WP.nil (Then.next ?_)))
  wtm_at "V"
  have hB := two_le_base hw
  have hL : (dg (2 ^ wd) n).length ≤ 1000 := dg_len_small hw hn
  refine WP.cons (WX.while_ (fun k σ => ∃ ys m, k = m ∧ ys ++ dg (2 ^ wd) m = dg (2 ^ wd) n ∧ σ = [V "number" (.int (m : Nat)), V "w" (.int wd), O "found" (N' ys), V "mask" (.int ((2 ^ wd - 1 : Nat) : Int))]) n ⟨[], n, rfl, rfl, rfl⟩ ?_)
  intro k σ hh_
  refine wrapG fun W_ k_ => ?_
  refine xe2_3 hh_ fun ys m e_1 hy e_2 => ?_
  subst e_1
  subst e_2
  try clear hh_
  refine k_ ?_
  clear k_ W_
  refine ⟨_, by wtm_at "T", fun hb => ?_, fun hb => Then.next ?_⟩
  · have hk : 0 < k := by have := of_decide_eq_true hb; exact oq232 this
    have hys : (N' ys).length ≤ 1000000 := by
      have := congrArg List.length hy
      rw [List.length_append] at this
      (refine rwt (N'_length ..) ?_); exact oq233 this hL
    wtm_at "V"
    wtm_at "V"
    refine WP.nil ⟨k / 2 ^ wd, Nat.div_lt_self hk (by exact oq33 hB), ys ++ [k % 2 ^ wd], k / 2 ^ wd, rfl, ?_, ?_⟩
    · (refine rws hy ?_; refine rwt (dg_pos hB hk) ?_; refine rwt (List.append_assoc ..) ?_); rfl
    · (refine rwt (N'_snoc ..) ?_; with_reducible rfl)
  · have hk : k = 0 := by have := of_decide_eq_false hb; exact oq234 this
    wtm_at "Z"
    wtm_at "V"
    subst hk
    rw [dg_zero, List.append_nil] at hy
    (rewrite [LM]; refine rws hy ?_; with_reducible rfl)
end

set_option maxRecDepth 100000
set_option maxHeartbeats 4000000
section
variable {w : World} {p : Program} {loose : List Str} {mg mb : Str → Option Value}

theorem getD_rev {xs : List Nat} {i : Nat} (h : i < xs.length) : xs.reverse.getD i 0 = xs.getD (xs.length - (i + 1)) 0 := by
  (refine rwt List.getD_eq_getElem?_getD ?_; refine rwt (List.getElem?_reverse h) ?_; refine rws List.getD_eq_getElem?_getD ?_; refine rwt (show xs.length - 1 - i = xs.length - (i + 1) by exact oq235) ?_; with_reducible rfl)

theorem fn_law_limbs (wd n : Nat) (hw : 1 ≤ wd) (hw2 : wd ≤ 1000) (hn : n < 2 ^ 64) : FN (GG w p loose mg mb) 1 324 [.int n, .int wd] (LM wd n) := by
  refine FN.of ["number", "w"] ["found"] rfl rfl (len2 fun _ _ => rfl) rfl (by decide) rfl (fun L h₀ R₀ => ?_)
  simp only [mkVars, List.zip_cons_cons, List.zip_nil_right, List.map_cons, List.map_nil, List.cons_append, List.nil_append]
  wtm_at "V"
  have hB := two_le_base hw
  have hL : (dg (2 ^ wd) n).length ≤ 64 := dg_len_small hw hn
  refine WP.cons (WX.while_ (fun k σ => ∃ ys m, k = m ∧ ys ++ dg (2 ^ wd) m = dg (2 ^ wd) n ∧ σ = [V "number" (.int (m : Nat)), V "w" (.int wd), O "found" (N' ys)]) n ⟨[], n, rfl, rfl, rfl⟩ ?_)
  intro k σ hh_
  refine wrapG fun W_ k_ => ?_
  refine xe2_3 hh_ fun ys m e_1 hy e_2 => ?_
  subst e_1
  subst e_2
  try clear hh_
  refine k_ ?_
  clear k_ W_
  refine ⟨_, by wtm_at "T", fun hb => ?_, fun hb => Then.next ?_⟩
  · have hk : 0 < k := by have := of_decide_eq_true hb; exact oq232 this
    have hys : (N' ys).length ≤ 1000000 := by
      have := congrArg List.length hy
      rw [List.length_append] at this
      (refine rwt (N'_length ..) ?_); exact oq236 this hL
    wtm_at "V"
    wtm_at "V"
    refine WP.nil ⟨k / 2 ^ wd, Nat.div_lt_self hk (by exact oq33 hB), ys ++ [k % 2 ^ wd], k / 2 ^ wd, rfl, ?_, ?_⟩
    · (refine rws hy ?_; refine rwt (dg_pos hB hk) ?_; refine rwt (List.append_assoc ..) ?_); rfl
    · (refine rwt (N'_snoc ..) ?_; with_reducible rfl)
  · have hk : k = 0 := by have := of_decide_eq_false hb; exact oq234 this
    wtm_at "Z"
    wtm_at "V"
    subst hk
    rw [dg_zero, List.append_nil] at hy
    (rewrite [LM]; refine rws hy ?_; with_reducible rfl)

theorem fn_law_number (wd n : Nat) (hw : 1 ≤ wd) (hw2 : wd ≤ 1000) (hn : n < 2 ^ 64) : FN (GG w p loose mg mb) 1 331 [LM wd n, .int wd] (.int n) := by
  refine FN.of ["limbs", "w"] ["found", "limb"] rfl rfl (len2 fun _ _ => rfl) rfl (by decide) rfl (fun L h₀ R₀ => ?_)
  simp only [mkVars, List.zip_cons_cons, List.zip_nil_right, List.map_cons, List.map_nil, List.cons_append, List.nil_append]
  wtm_at "V"
  have hB := two_le_base hw
  have hL : (dg (2 ^ wd) n).length ≤ 64 := dg_len_small hw hn
  refine WP.cons (WX.for_ (ITER.list (EV.revN (by wtm_at "E") (by wtm_at "E") (by exact oq237 hL))) (fun i σ => ∃ s, σ = [V "limbs" (LM wd n), V "w" (.int wd), V "found" (.int (num (2 ^ wd) ((dg (2 ^ wd) n).drop ((dg (2 ^ wd) n).length - i)) : Nat)), (PySem.Str.ofString "limb", s)] ∧ s.plain = true) ⟨.un, by simp [num], rfl⟩ ?_ ?_)
  · intro i d σ hd hh_
    refine xe1_2 hh_ fun s e_1 hs => ?_
    subst e_1
    try clear hh_
    refine xe0_2 (N'_getD hd) fun hi e_1 => ?_
    subst e_1
    rw [List.length_reverse] at hi
    refine ⟨_, .tail (.tail (.tail (.here hs))), ?_⟩
    have hlt : num (2 ^ wd) ((dg (2 ^ wd) n).drop ((dg (2 ^ wd) n).length - i)) < 2 ^ 64 := by
      have := num_le_drop (B := 2 ^ wd) (by exact oq238 hB) (dg (2 ^ wd) n) ((dg (2 ^ wd) n).length - i) (by exact oq239)
      rw [num_dg hB] at this
      exact oq240 hn this
    wtm_at "V"
    refine WP.nil ⟨.val (.int (((dg (2 ^ wd) n).reverse.getD i 0 : Nat) : Int)), ?_, rfl⟩
    suffices hnum : num (2 ^ wd) ((dg (2 ^ wd) n).drop ((dg (2 ^ wd) n).length - (i + 1))) = num (2 ^ wd) ((dg (2 ^ wd) n).drop ((dg (2 ^ wd) n).length - i)) * 2 ^ wd + (dg (2 ^ wd) n).reverse.getD i 0 by (refine rwt hnum ?_; with_reducible rfl)
    have e1 : (dg (2 ^ wd) n).length - i = (dg (2 ^ wd) n).length - (i + 1) + 1 := by exact oq241 hi
    (refine rwt (drop_getD (i := (dg (2 ^ wd) n).length - (i + 1)) (by exact oq242 hi)) ?_; rewrite [num]; refine rws e1 ?_; refine rwt (getD_rev hi) ?_; rewrite [Nat.mul_comm (2 ^ wd)]; refine rwt (Nat.add_comm ..) ?_; with_reducible rfl)
  · intro σ hh_
    refine xe1_2 hh_ fun s e_1 hs => ?_
    subst e_1
    try clear hh_
    refine Then.next ?_
    wtm_at "V"
    (refine rwt (N'_length ..) ?_; refine rwt List.length_reverse ?_; refine rwt (Nat.sub_self ..) ?_; refine rwt List.drop_zero ?_; rewrite [num_dg hB]; with_reducible rfl)

theorem fn_plain_of (wd n : Nat) (hw : 1 ≤ wd) (hw2 : wd ≤ 1000) (hn : n < 2 ^ 64) : FN (GG w p loose mg mb) 1 261 [LM wd n, .int wd] (.int n) := by
  refine FN.of ["a", "w"] ["found", "limb"] rfl rfl (len2 fun _ _ => rfl) rfl (by decide) rfl (fun L h₀ R₀ => ?_)
  simp only [mkVars, List.zip_cons_cons, List.zip_nil_right, List.map_cons, List.map_nil, List.cons_append, List.nil_append]
  wtm_at "V"
  have hB := two_le_base hw
  have hL : (dg (2 ^ wd) n).length ≤ 64 := dg_len_small hw hn
  refine WP.cons (WX.for_ (ITER.rev (by wtm_at "E") rfl) (fun i σ => ∃ s, σ = [V "a" (LM wd n), V "w" (.int wd), V "found" (.int (num (2 ^ wd) ((dg (2 ^ wd) n).drop ((dg (2 ^ wd) n).length - i)) : Nat)), (PySem.Str.ofString "limb", s)] ∧ s.plain = true) ⟨.un, by simp [num], rfl⟩ ?_ ?_)
  · rintro i d σ hd ⟨s, rfl, hs⟩
    rw [N'_reverse] at hd
    obtain ⟨hi, rfl⟩ := N'_getD hd
    rw [List.length_reverse] at hi
    refine ⟨_, .tail (.tail (.tail (.here hs))), ?_⟩
    have hlt : num (2 ^ wd) ((dg (2 ^ wd) n).drop ((dg (2 ^ wd) n).length - i)) < 2 ^ 64 := by
      have := num_le_drop (B := 2 ^ wd) (by exact oq238 hB) (dg (2 ^ wd) n) ((dg (2 ^ wd) n).length - i) (by exact oq239)
      rw [num_dg hB] at this
      exact oq240 hn this
    wtm_at "V"
    refine WP.nil ⟨.val (.int (((dg (2 ^ wd) n).reverse.getD i 0 : Nat) : Int)), ?_, rfl⟩
    suffices hnum : num (2 ^ wd) ((dg (2 ^ wd) n).drop ((dg (2 ^ wd) n).length - (i + 1))) = num (2 ^ wd) ((dg (2 ^ wd) n).drop ((dg (2 ^ wd) n).length - i)) * 2 ^ wd + (dg (2 ^ wd) n).reverse.getD i 0 by (refine rwt hnum ?_; with_reducible rfl)
    have e1 : (dg (2 ^ wd) n).length - i = (dg (2 ^ wd) n).length - (i + 1) + 1 := by exact oq241 hi
    (refine rwt (drop_getD (i := (dg (2 ^ wd) n).length - (i + 1)) (by exact oq242 hi)) ?_; rewrite [num]; refine rws e1 ?_; refine rwt (getD_rev hi) ?_; rewrite [Nat.mul_comm (2 ^ wd)]; refine rwt (Nat.add_comm ..) ?_; with_reducible rfl)
  · rintro σ ⟨s, rfl, hs⟩
    refine Then.next ?_
    wtm_at "V"
    (refine rwt List.length_reverse ?_; refine rwt (N'_length ..) ?_; refine rwt (Nat.sub_self ..) ?_; refine rwt List.drop_zero ?_; rewrite [num_dg hB]; with_reducible rfl)

theorem fn_compare (wd a b : Nat) (hw : 1 ≤ wd) (ha : a < 2 ^ 64) (hb : b < 2 ^ 64) : FN (GG w p loose mg mb) 1 93 [LM wd a, LM wd b] (.int (cmpI a b)) := by
  refine FN.of ["a", "b"] ["at"] rfl rfl (len2 fun _ _ => rfl) rfl (by decide) rfl (fun L h₀ R₀ => ?_)
  simp only [mkVars, List.zip_cons_cons, List.zip_nil_right, List.map_cons, List.map_nil, List.cons_append, List.nil_append]
  have hB := two_le_base hw
  have hLa : (dg (2 ^ wd) a).length ≤ 64 := dg_len_small hw ha
  have hLb : (dg (2 ^ wd) b).length ≤ 64 := dg_len_small hw hb
  refine WP.cons (WX.if_ (by wtm_at "T") (fun h => ?_) (fun h => WP.nil (Then.next ?_)))
  · have hne : (dg (2 ^ wd) a).length ≠ (dg (2 ^ wd) b).length := by have := bne_iff_ne.mp h; exact oq243 this
    wtm_at "V"
    by_cases hlt : (dg (2 ^ wd) a).length < (dg (2 ^ wd) b).length
    · (refine rwt (if_pos (decide_eq_true (by exact oq244 hlt))) ?_; refine rwt (cmpI_len_lt hB hlt) ?_; with_reducible rfl)
    · (refine rwt (if_neg (by simp; exact oq209 hlt)) ?_; refine rwt (cmpI_len_gt hB (by exact oq245 hlt hne)) ?_; with_reducible rfl)
  · have hl : (dg (2 ^ wd) a).length = (dg (2 ^ wd) b).length := by have := bne_eq_false_iff_eq.mp h; exact oq246 this
    refine WP.cons (WX.for_ (ITER.range3 (by wtm_at "E") (by wtm_at "E") (by wtm_at "E") (by exact oq247 hLa) (by exact oq248) (by exact oq249) (by exact oq250) rfl) (fun i σ => ∃ s, σ = [V "a" (LM wd a), V "b" (LM wd b), (PySem.Str.ofString "at", s)] ∧ s.plain = true ∧ i ≤ (dg (2 ^ wd) a).length ∧ (dg (2 ^ wd) a).drop ((dg (2 ^ wd) a).length - i) = (dg (2 ^ wd) b).drop ((dg (2 ^ wd) a).length - i)) ⟨.un, rfl, rfl, by exact oq251, by (refine rwt (Nat.sub_zero ..) ?_; refine rwt List.drop_length ?_; refine rwt hl ?_; refine rwt List.drop_length ?_; with_reducible rfl)⟩ ?_ ?_)
    · intro i d σ hd hh_
      refine xe1_4 hh_ fun s e_1 hs hi hdr => ?_
      subst e_1
      try clear hh_
      refine xe0_2 (downI_get hd) fun e_1 hi' => ?_
      subst e_1
      have e1 : (((dg (2 ^ wd) a).length : Int) - 1 - (i : Int)).toNat = (dg (2 ^ wd) a).length - (i + 1) := by exact oq252
      have e2 : (dg (2 ^ wd) a).length - i = (dg (2 ^ wd) a).length - (i + 1) + 1 := by exact oq253 hi'
      have hia : (dg (2 ^ wd) a).length - (i + 1) < (dg (2 ^ wd) a).length := by exact oq254 hi'
      have hib : (dg (2 ^ wd) a).length - (i + 1) < (dg (2 ^ wd) b).length := by exact oq255 hl hi'
      rw [e2] at hdr
      refine ⟨_, .tail (.tail (.here hs)), ?_⟩
      refine WP.cons (WX.if_ (by wtm_at "T") (fun h => ?_) (fun h => WP.nil (Then.next ?_)))
      · rw [e1] at h
        have hne := bne_iff_ne.mp h
        wtm_at "V"
        (refine rwt e1 ?_)
        by_cases hlt : (dg (2 ^ wd) a).getD ((dg (2 ^ wd) a).length - (i + 1)) 0 < (dg (2 ^ wd) b).getD ((dg (2 ^ wd) a).length - (i + 1)) 0
        · (refine rwt (if_pos (decide_eq_true (by exact oq244 hlt))) ?_)
          have := num_top hia hib hdr hlt (dg_dig hB a)
          rw [num_dg hB, num_dg hB] at this
          (rewrite [cmpI]; refine rwt (if_pos this) ?_; with_reducible rfl)
        · (refine rwt (if_neg (by simp only [decide_eq_true_eq]; exact oq256 hlt)) ?_)
          have := num_top hib hia hdr.symm (by exact oq257 hne hlt) (dg_dig hB b)
          rw [num_dg hB, num_dg hB] at this
          (rewrite [cmpI]; refine rwt (if_neg (by exact oq45 this)) ?_; refine rwt (if_pos this) ?_; with_reducible rfl)
      · rw [e1] at h
        have heq := bne_eq_false_iff_eq.mp h
        refine WP.nil ⟨.val _, rfl, rfl, by exact oq258 hi', ?_⟩
        (refine rwt (drop_getD hia) ?_; refine rwt (drop_getD hib) ?_; refine rwt hdr ?_)
        congr 1
        exact oq246 heq
    · intro σ hh_
      refine xe1_4 hh_ fun s e_1 hs hi hdr => ?_
      subst e_1
      try clear hh_
      refine Then.next ?_
      wtm_at "V"
      rw [downI_length] at hdr hi
      have e3 : (dg (2 ^ wd) a).length - (((dg (2 ^ wd) a).length : Int) - 1 - -1).toNat = 0 := by exact oq259
      rw [e3, List.drop_zero, List.drop_zero] at hdr
      have := dg_inj hB hdr
      (rewrite [cmpI]; refine rwt (if_neg (by exact oq260 this)) ?_; refine rwt (if_neg (by exact oq261 this)) ?_; with_reducible rfl)
end

set_option maxRecDepth 100000
set_option maxHeartbeats 4000000
theorem num_step {B : Nat} {fs xs ys : List Nat} {c i : Nat} (hf : fs.length = i) (h : num B fs + B ^ i * c = num B (xs.take i) + num B (ys.take i)) (hx : i < xs.length) (hy : i < ys.length) :
    num B (fs ++ [(c + (xs.getD i 0 + ys.getD i 0)) % B]) + B ^ (i + 1) * ((c + (xs.getD i 0 + ys.getD i 0)) / B) = num B (xs.take (i + 1)) + num B (ys.take (i + 1)) := by
  (refine rwt (num_snoc ..) ?_; refine rwt hf ?_; refine rwt (num_take_succ hx) ?_; refine rwt (num_take_succ hy) ?_; refine rwt (Nat.pow_succ ..) ?_; refine rwt (sum_step' h) ?_; refine rwt (Nat.mul_add ..) ?_)
  exact oq262
theorem num_step1 {B : Nat} {fs xs : List Nat} {c i k : Nat} (hf : fs.length = i) (h : num B fs + B ^ i * c = num B (xs.take i) + k) (hx : i < xs.length) :
    num B (fs ++ [(c + xs.getD i 0) % B]) + B ^ (i + 1) * ((c + xs.getD i 0) / B) = num B (xs.take (i + 1)) + k := by
  (refine rwt (num_snoc ..) ?_; refine rwt hf ?_; refine rwt (num_take_succ hx) ?_; refine rwt (Nat.pow_succ ..) ?_)
  (refine rwt (sum_step' h) ?_)
  exact oq263

section
variable {w : World} {p : Program} {loose : List Str} {mg mb : Str → Option Value}

theorem fn_add (wd a b : Nat) (hw : 1 ≤ wd) (hw2 : wd ≤ 1000) (ha : a < 2 ^ 64) (hb : b < 2 ^ 64) : FN (GG w p loose mg mb) 1 100 [LM wd a, LM wd b, .int wd] (LM wd (a + b)) := by
  refine FN.of ["a", "b", "w"] ["found", "carry", "mask", "at"] rfl rfl (len3 fun _ _ _ => rfl) rfl (by decide) rfl (fun L h₀ R₀ => ?_)
  simp only [mkVars, List.zip_cons_cons, List.zip_nil_right, List.map_cons, List.map_nil, List.cons_append, List.nil_append]
  have hB := two_le_base hw
  have hLa : (dg (2 ^ wd) a).length ≤ 64 := dg_len_small hw ha
  have hLb : (dg (2 ^ wd) b).length ≤ 64 := dg_len_small hw hb
  have hBp : 0 < 2 ^ wd := by exact oq32 hB
  refine WP.cons (WX.mono (Q := fun o => ∃ a' b', a' < 2 ^ 64 ∧ b' < 2 ^ 64 ∧ a' + b' = a + b ∧ (dg (2 ^ wd) b').length ≤ (dg (2 ^ wd) a').length ∧
    o = .next [V "a" (LM wd a'), V "b" (LM wd b'), V "w" (.int wd), U "found", U "carry", U "mask", U "at"]) (WX.if_ (by wtm_at "T") (fun h => ?_) (fun h => WP.nil ?_)) ?_)
  · have := of_decide_eq_true h
    wtm_at "V"
    exact WP.nil ⟨b, a, hb, ha, Nat.add_comm .., by exact oq264 this, rfl⟩
  · have := of_decide_eq_false h
    exact ⟨a, b, ha, hb, rfl, by exact oq265 this, rfl⟩
  intro o hh_
  refine wrapG fun W_ k_ => ?_
  refine xe2_5 hh_ fun x y hx hy hxy hl e_1 => ?_
  subst e_1
  try clear hh_
  refine k_ ?_
  clear k_ W_
  refine Then.next ?_
  (refine rws hxy ?_)
  clear hxy ha hb hLa hLb
  have hLx : (dg (2 ^ wd) x).length ≤ 64 := dg_len_small hw hx
  have hLy : (dg (2 ^ wd) y).length ≤ 64 := dg_len_small hw hy
  wtm_at "V"
  refine WP.cons (WX.for_ (ITER.range1 (by wtm_at "E") (by exact oq266 hLy) (by exact oq267) rfl) (fun i σ => ∃ s fs c, σ = [V "a" (LM wd x), V "b" (LM wd y), V "w" (.int wd), O "found" (N' fs), V "carry" (.int (c : Nat)), V "mask" (.int ((2 ^ wd - 1 : Nat) : Int)), (PySem.Str.ofString "at", s)] ∧ s.plain = true ∧
    fs.length = i ∧ Dig (2 ^ wd) fs ∧ num (2 ^ wd) fs + (2 ^ wd) ^ i * c = num (2 ^ wd) ((dg (2 ^ wd) x).take i) + num (2 ^ wd) ((dg (2 ^ wd) y).take i)) ⟨.un, [], 0, rfl, rfl, rfl, (fun _ h => nomatch h), by simp [num]⟩ ?_ ?_)
  · intro i d σ hd hh_
    refine wrapG fun W_ k_ => ?_
    refine xe3_5 hh_ fun s fs c e_1 hs hf hdig hn => ?_
    subst e_1
    try clear hh_
    refine k_ ?_
    clear k_ W_
    refine xe0_2 (upI_get hd) fun e_1 hi => ?_
    subst e_1
    have e1 : ((0 : Int) + (i : Int)).toNat = i := by exact oq268
    refine ⟨_, .tail (.tail (.tail (.tail (.tail (.tail (.here hs)))))), ?_⟩
    have hfl : (N' fs).length ≤ 1000000 := by (refine rwt (N'_length ..) ?_); exact oq269 hLy hf hi
    wtm_at "V"
    wtm_at "V"
    wtm_at "V"
    (refine rwt e1 ?_)
    refine WP.nil ⟨.val (.int (0 + (i : Int))), fs ++ [(c + ((dg (2 ^ wd) x).getD i 0 + (dg (2 ^ wd) y).getD i 0)) % 2 ^ wd], _, rfl, rfl, by (refine rwt List.length_append ?_; refine rwt hf ?_); rfl, hdig.snoc (Nat.mod_lt _ hBp), num_step hf hn (by exact oq270 hl hi) (by exact oq271 hi)⟩ |>.vars ?_
    (refine rws (N'_snoc ..) ?_; with_reducible rfl)
  intro σ hh_
  refine wrapG fun W_ k_ => ?_
  refine xe3_5 hh_ fun s fs c e_1 hs hf hdig hn => ?_
  subst e_1
  try clear hh_
  refine k_ ?_
  clear k_ W_
  rw [upI_length, Int.toNat_natCast] at hf hn
  rw [List.take_length (l := dg (2 ^ wd) y), num_dg hB] at hn
  refine Then.next ?_
  refine WP.cons (WX.for_ (ITER.range2 (by wtm_at "E") (by wtm_at "E") (by exact oq266 hLy) (by exact oq267) (by exact oq266 hLx) (by exact oq267) rfl) (fun i σ => ∃ s fs c, σ = [V "a" (LM wd x), V "b" (LM wd y), V "w" (.int wd), O "found" (N' fs), V "carry" (.int (c : Nat)), V "mask" (.int ((2 ^ wd - 1 : Nat) : Int)), (PySem.Str.ofString "at", s)] ∧ s.plain = true ∧
    fs.length = (dg (2 ^ wd) y).length + i ∧ Dig (2 ^ wd) fs ∧ num (2 ^ wd) fs + (2 ^ wd) ^ ((dg (2 ^ wd) y).length + i) * c = num (2 ^ wd) ((dg (2 ^ wd) x).take ((dg (2 ^ wd) y).length + i)) + y) ⟨s, fs, c, rfl, hs, hf, hdig, hn⟩ ?_ ?_)
  · clear hf hn hdig
    intro i d σ hd hh_
    refine wrapG fun W_ k_ => ?_
    refine xe3_5 hh_ fun s fs c e_1 hs hf hdig hn => ?_
    subst e_1
    try clear hh_
    refine k_ ?_
    clear k_ W_
    refine xe0_2 (upI_get hd) fun e_1 hi => ?_
    subst e_1
    have e1 : (((dg (2 ^ wd) y).length : Int) + (i : Int)).toNat = (dg (2 ^ wd) y).length + i := by exact oq272
    refine ⟨_, .tail (.tail (.tail (.tail (.tail (.tail (.here hs)))))), ?_⟩
    have hfl : (N' fs).length ≤ 1000000 := by (refine rwt (N'_length ..) ?_); exact oq273 hLx hf hi
    wtm_at "V"
    wtm_at "V"
    wtm_at "V"
    (refine rwt e1 ?_)
    refine WP.nil ⟨.val (.int (((dg (2 ^ wd) y).length : Int) + (i : Int))), fs ++ [(c + (dg (2 ^ wd) x).getD ((dg (2 ^ wd) y).length + i) 0) % 2 ^ wd], _, rfl, rfl, by (refine rwt List.length_append ?_; refine rwt hf ?_); rfl, hdig.snoc (Nat.mod_lt _ hBp), num_step1 hf hn (by exact oq274 hi)⟩ |>.vars ?_
    (refine rws (N'_snoc ..) ?_; with_reducible rfl)
  clear hf hn hdig
  intro σ hh_
  refine wrapG fun W_ k_ => ?_
  refine xe3_5 hh_ fun s fs c e_1 hs hf hdig hn => ?_
  subst e_1
  try clear hh_
  refine k_ ?_
  clear k_ W_
  rw [upI_length, show (dg (2 ^ wd) y).length + (((dg (2 ^ wd) x).length : Int) - ((dg (2 ^ wd) y).length : Int)).toNat = (dg (2 ^ wd) x).length by exact oq275 hl] at hf hn
  rw [List.take_length (l := dg (2 ^ wd) x), num_dg hB] at hn
  refine Then.next ?_
  have hfl : (N' fs).length ≤ 1000000 := by (refine rwt (N'_length ..) ?_); exact oq276 hLx hf
  refine xe0_2 (add_fin hB (Nat.lt_of_lt_of_le (dg_lt hB y) (Nat.pow_le_pow_right hBp hl)) hf hdig hn) fun f1 f2 => ?_
  refine WP.cons (WX.if_ (by wtm_at "T") (fun h => ?_) (fun h => WP.nil (Then.next ?_)))
  · have hc := of_decide_eq_true h
    wtm_at "V"
    refine WP.nil (Then.next ?_)
    (refine rwt (N'_snoc ..) ?_; refine rws (f1 (by exact oq232 hc)) ?_)
    wtm_at "Z"
    wtm_at "V"
    rfl
  · have hc := of_decide_eq_false h
    wtm_at "Z"
    wtm_at "V"
    (rewrite [LM]; refine rwt (f2 (by exact oq234 hc)) ?_; with_reducible rfl)

theorem fn_add_limb (wd a l : Nat) (hw : 1 ≤ wd) (hw2 : wd ≤ 1000) (ha : a < 2 ^ 64) (hl2 : l < 2 ^ wd) : FN (GG w p loose mg mb) 1 114 [LM wd a, .int l, .int wd] (LM wd (a + l)) := by
  refine FN.of ["a", "limb", "w"] ["found", "mask", "one"] rfl rfl (len3 fun _ _ _ => rfl) rfl (by decide) rfl (fun L h₀ R₀ => ?_)
  simp only [mkVars, List.zip_cons_cons, List.zip_nil_right, List.map_cons, List.map_nil, List.cons_append, List.nil_append]
  have hB := two_le_base hw
  have hLa : (dg (2 ^ wd) a).length ≤ 64 := dg_len_small hw ha
  have hBp : 0 < 2 ^ wd := by exact oq42 hl2
  wtm_at "V"
  refine WP.cons (WX.for_ (ITER.list (by wtm_at "E")) (fun i σ => ∃ s fs c, σ = [V "a" (LM wd a), V "limb" (.int (c : Nat)), V "w" (.int wd), O "found" (N' fs), V "mask" (.int ((2 ^ wd - 1 : Nat) : Int)), (PySem.Str.ofString "one", s)] ∧ s.plain = true ∧
    fs.length = i ∧ Dig (2 ^ wd) fs ∧ num (2 ^ wd) fs + (2 ^ wd) ^ i * c = num (2 ^ wd) ((dg (2 ^ wd) a).take i) + l) ⟨.un, [], l, rfl, rfl, rfl, (fun _ h => nomatch h), by simp [num]⟩ ?_ ?_)
  · intro i d σ hd hh_
    refine wrapG fun W_ k_ => ?_
    refine xe3_5 hh_ fun s fs c e_1 hs hf hdig hn => ?_
    subst e_1
    try clear hh_
    refine k_ ?_
    clear k_ W_
    refine xe0_2 (N'_getD hd) fun hi e_1 => ?_
    subst e_1
    refine ⟨_, .tail (.tail (.tail (.tail (.tail (.here hs))))), ?_⟩
    have hfl : (N' fs).length ≤ 1000000 := by (refine rwt (N'_length ..) ?_); exact oq277 hLa hf hi
    wtm_at "V"
    wtm_at "V"
    wtm_at "V"
    refine WP.nil ⟨.val (.int (((dg (2 ^ wd) a).getD i 0 : Nat) : Int)), fs ++ [(c + (dg (2 ^ wd) a).getD i 0) % 2 ^ wd], _, rfl, rfl, by (refine rwt List.length_append ?_; refine rwt hf ?_); rfl, hdig.snoc (Nat.mod_lt _ hBp), num_step1 hf hn (by exact oq278 hi)⟩ |>.vars ?_
    (refine rws (N'_snoc ..) ?_; with_reducible rfl)
  intro σ hh_
  refine wrapG fun W_ k_ => ?_
  refine xe3_5 hh_ fun s fs c e_1 hs hf hdig hn => ?_
  subst e_1
  try clear hh_
  refine k_ ?_
  clear k_ W_
  rw [N'_length] at hf hn
  rw [List.take_length (l := dg (2 ^ wd) a), num_dg hB] at hn
  refine Then.next ?_
  have hfl : (N' fs).length ≤ 1000000 := by (refine rwt (N'_length ..) ?_); exact oq276 hLa hf
  refine xe0_2 (add_limb_fin hB hl2 hf hdig hn) fun f1 f2 => ?_
  refine WP.cons (WX.if_ (by wtm_at "T") (fun h => ?_) (fun h => WP.nil (Then.next ?_)))
  · have hc := of_decide_eq_true h
    wtm_at "V"
    refine WP.nil (Then.next ?_)
    (refine rwt (N'_snoc ..) ?_; refine rws (f1 (by exact oq232 hc)) ?_)
    wtm_at "Z"
    wtm_at "V"
    rfl
  · have hc := of_decide_eq_false h
    wtm_at "Z"
    wtm_at "V"
    (rewrite [LM]; refine rwt (f2 (by exact oq234 hc)) ?_; with_reducible rfl)
end

set_option maxRecDepth 100000
set_option maxHeartbeats 4000000
theorem num_take_succ' {B : Nat} (xs : List Nat) (i : Nat) : num B (xs.take (i + 1)) = num B (xs.take i) + B ^ i * xs.getD i 0 := by
  by_cases h : i < xs.length
  · exact num_take_succ h
  · (refine rwt (List.take_of_length_le (by exact oq279 h)) ?_; refine rwt (List.take_of_length_le (by exact oq209 h)) ?_; refine rwt List.getD_eq_getElem?_getD ?_; refine rwt (List.getElem?_eq_none (by exact oq209 h)) ?_)
    simp
theorem sub_step {B A F C P x y r : Nat} (hx : x < B) (hy : y < B) (hr : r ≤ 1) (h : A + P * r = F + C) :
    (if x < r + y then x + B - (r + y) else x - (r + y)) < B ∧ (A + P * x) + P * B * (if x < r + y then 1 else 0) = (F + P * (if x < r + y then x + B - (r + y) else x - (r + y))) + (C + P * y) := by
  split
  · rename_i hl
    refine ⟨by exact oq280 hl hx, ?_⟩
    have e : x + B = (x + B - (r + y)) + (r + y) := by exact oq281 hy hr
    have e2 := congrArg (P * ·) e
    simp only [Nat.mul_add] at e2
    (refine rwt (Nat.mul_one ..) ?_)
    exact oq282 h e2
  · rename_i hl
    refine ⟨by exact oq283 hx, ?_⟩
    have e : x = (x - (r + y)) + (r + y) := by exact oq284 hl
    have e2 := congrArg (P * ·) e
    simp only [Nat.mul_add] at e2
    (refine rwt (Nat.mul_zero ..) ?_)
    exact oq285 h e2
theorem getD_lt {B : Nat} (hB : 2 ≤ B) (n i : Nat) : (dg B n).getD i 0 < B := by
  by_cases h : i < (dg B n).length
  · exact (dg_dig hB n).getD h
  · (refine rwt List.getD_eq_getElem?_getD ?_; refine rwt (List.getElem?_eq_none (by exact oq209 h)) ?_); simp; exact oq32 hB

section
variable {w : World} {p : Program} {loose : List Str} {mg mb : Str → Option Value}

theorem fn_sub (wd a b : Nat) (hw : 1 ≤ wd) (hw2 : wd ≤ 1000) (ha : a < 2 ^ 64) (hba : b ≤ a) : FN (GG w p loose mg mb) 2 107 [LM wd a, LM wd b, .int wd] (LM wd (a - b)) := by
  refine FN.of ["a", "b", "w"] ["found", "borrow", "base", "at", "limb"] rfl rfl (len3 fun _ _ _ => rfl) rfl (by decide) rfl (fun L h₀ R₀ => ?_)
  simp only [mkVars, List.zip_cons_cons, List.zip_nil_right, List.map_cons, List.map_nil, List.cons_append, List.nil_append]
  have hB := two_le_base hw
  have hb : b < 2 ^ 64 := by exact oq240 ha hba
  have hLa : (dg (2 ^ wd) a).length ≤ 64 := dg_len_small hw ha
  have hLb : (dg (2 ^ wd) b).length ≤ 64 := dg_len_small hw hb
  have hBp : 0 < 2 ^ wd := by exact oq32 hB
  have hcmp : ¬ cmpI a b < 0 := by (rewrite [cmpI]; refine rwt (if_neg (by exact oq286 hba)) ?_); split <;> decide
  refine WP.cons (WX.if_ (by wtm_at "T") (fun h => absurd (of_decide_eq_true h) hcmp) (fun h => WP.nil (Then.next ?_)))
  wtm_at "V"
  refine WP.cons (WX.for_ (ITER.range1 (by wtm_at "E") (by exact oq266 hLa) (by exact oq267) rfl) (fun i σ => ∃ s t fs r, σ = [V "a" (LM wd a), V "b" (LM wd b), V "w" (.int wd), O "found" (N' fs), V "borrow" (.int (r : Nat)), V "base" (.int ((2 ^ wd : Nat) : Int)), (PySem.Str.ofString "at", s), (PySem.Str.ofString "limb", t)] ∧ s.plain = true ∧ t.plain = true ∧
    fs.length = i ∧ Dig (2 ^ wd) fs ∧ r ≤ 1 ∧ num (2 ^ wd) ((dg (2 ^ wd) a).take i) + (2 ^ wd) ^ i * r = num (2 ^ wd) fs + num (2 ^ wd) ((dg (2 ^ wd) b).take i)) ⟨.un, .un, [], 0, rfl, rfl, rfl, rfl, (fun _ h => nomatch h), by decide, by simp [num]⟩ ?_ ?_)
  · intro i d σ hd hh_
    refine wrapG fun W_ k_ => ?_
    refine xe4_7 hh_ fun s t fs r e_1 hs ht hf hdig hr hn => ?_
    subst e_1
    try clear hh_
    refine k_ ?_
    clear k_ W_
    refine xe0_2 (upI_get hd) fun e_1 hi => ?_
    subst e_1
    rw [Int.toNat_natCast] at hi
    have e1 : ((0 : Int) + (i : Int)).toNat = i := by exact oq268
    refine ⟨_, .tail (.tail (.tail (.tail (.tail (.tail (.here hs)))))), ?_⟩
    have hfl : (N' fs).length ≤ 1000000 := by (refine rwt (N'_length ..) ?_); exact oq277 hLa hf hi
    refine WP.cons (WX.assign (d := .int (((dg (2 ^ wd) a).getD i 0 : Int) - r - ((dg (2 ^ wd) b).getD i 0 : Nat))) (EV.eq (by wtm_at "E") ?_) (.tail (.tail (.tail (.tail (.tail (.tail (.tail (.here ht)))))))) (Then.next ?_))
    · (refine rwt e1 ?_)
      congr 2
      split
      · rfl
      · rename_i hlt
        rw [decide_eq_true_eq] at hlt
        (refine rwt List.getD_eq_getElem?_getD ?_; refine rwt (List.getElem?_eq_none (by exact oq287 hlt)) ?_)
        rfl
    have hyB := getD_lt hB b i
    have hxB := getD_lt hB a i
    refine xe0_2 (sub_step (getD_lt hB a i) (getD_lt hB b i) hr hn) fun s1 s2 => ?_
    wtm_at "V"
    wtm_at "V"
    refine WP.nil ⟨.val (.int (0 + (i : Int))), .val (.int (((dg (2 ^ wd) a).getD i 0 : Int) - r - ((dg (2 ^ wd) b).getD i 0 : Nat))), fs ++ [_], if (dg (2 ^ wd) a).getD i 0 < r + (dg (2 ^ wd) b).getD i 0 then 1 else 0, ?_, rfl, rfl, by (refine rwt List.length_append ?_; refine rwt hf ?_); rfl, hdig.snoc s1, ?_, ?_⟩
    · (refine rws (N'_snoc ..) ?_)
      have e3 : decide (((dg (2 ^ wd) a).getD i 0 : Int) - r - ((dg (2 ^ wd) b).getD i 0 : Nat) < 0) = decide ((dg (2 ^ wd) a).getD i 0 < r + (dg (2 ^ wd) b).getD i 0) := by
        apply decide_eq_decide.mpr; exact oq288
      (refine rwt e3 ?_)
      simp only [decide_eq_true_eq]
      by_cases hlt : (dg (2 ^ wd) a).getD i 0 < r + (dg (2 ^ wd) b).getD i 0
      · simp only [if_pos hlt]
        (refine rwt (show (((dg (2 ^ wd) a).getD i 0 + 2 ^ wd - (r + (dg (2 ^ wd) b).getD i 0) : Nat) : Int) = ((dg (2 ^ wd) a).getD i 0 : Int) - r - ((dg (2 ^ wd) b).getD i 0 : Nat) + ((2 ^ wd : Nat) : Int) by exact oq289 hyB hr) ?_)
        rfl
      · simp only [if_neg hlt]
        (refine rwt (show (((dg (2 ^ wd) a).getD i 0 - (r + (dg (2 ^ wd) b).getD i 0) : Nat) : Int) = ((dg (2 ^ wd) a).getD i 0 : Int) - r - ((dg (2 ^ wd) b).getD i 0 : Nat) by exact oq290 hlt) ?_)
        rfl
    · split <;> decide
    · (refine rwt (num_snoc ..) ?_; refine rwt hf ?_; refine rwt (num_take_succ' ..) ?_; refine rwt (num_take_succ' ..) ?_; refine rwt (Nat.pow_succ ..) ?_)
      exact s2
  intro σ hh_
  refine wrapG fun W_ k_ => ?_
  refine xe4_7 hh_ fun s t fs r e_1 hs ht hf hdig hr hn => ?_
  subst e_1
  try clear hh_
  refine k_ ?_
  clear k_ W_
  rw [upI_length, Int.toNat_natCast] at hf hn
  rw [List.take_length (l := dg (2 ^ wd) a), num_dg hB, List.take_of_length_le (l := dg (2 ^ wd) b) (by
    rcases Nat.lt_or_ge a b with h | h
    · exact (oq291 h hba).elim
    · exact Nat.le_of_not_lt fun h' => by have := lt_of_len hB h'; exact oq291 this hba), num_dg hB] at hn
  have hlt := num_lt hdig
  rw [hf] at hlt
  have hr0 : r = 0 := by
    rcases Nat.lt_or_ge r 1 with h | h
    · exact oq292 h
    · have : r = 1 := by exact oq293 h hr
      rw [this] at hn
      exact (oq294 hn hlt hba).elim
  subst hr0
  refine Then.next ?_
  have hfl : fs.length ≤ 1000000 := by exact oq276 hLa hf
  wtm_at "Z"
  refine WP.cons (WX.ret (EV.callN (by wtm_at "E") (by wtm_at "S") (fn_normal _ hw _ hdig hfl) (by decide) rfl) (Then.ret ?_))
  (refine rwt (show num (2 ^ wd) fs = a - b by exact oq295 hn) ?_; with_reducible rfl)
end

set_option maxRecDepth 100000
set_option maxHeartbeats 4000000
/-- a signed number -/
abbrev SG (wd : Nat) (z : Int) : D := .tup [.bool (decide (z < 0)), LM wd z.natAbs]
theorem SG_of (wd : Nat) (b : Bool) (n : Nat) : D.tup [.bool (b && decide (0 < n)), LM wd n] = SG wd (sgv b n) := by (rewrite [SG]; refine rwt (sgv_neg ..) ?_; refine rwt (sgv_abs ..) ?_; with_reducible rfl)
theorem len_pos {wd n : Nat} (hw : 1 ≤ wd) : decide ((0 : Int) < ((dg (2 ^ wd) n).length : Int)) = decide (0 < n) := by
  have := dg_len_pos (n := n) (two_le_base hw)
  apply decide_eq_decide.mpr
  exact oq296 this
theorem len_zero {wd n : Nat} (hw : 1 ≤ wd) : (((dg (2 ^ wd) n).length : Int) == (0 : Int)) = decide (n = 0) := by
  have := dg_len_eq_zero (n := n) (two_le_base hw)
  by_cases h : n = 0
  · (refine rwt (decide_eq_true h) ?_); simp; exact List.length_eq_zero_iff.mp (this.mpr h)
  · (refine rwt (decide_eq_false h) ?_); simp
    intro e
    rw [e] at this
    exact h (this.mp rfl)
section
variable {w : World} {p : Program} {loose : List Str} {mg mb : Str → Option Value}
theorem fn_add_limb1 (wd a : Nat) (hw : 1 ≤ wd) (hw2 : wd ≤ 1000) (ha : a < 2 ^ 64) : FN (GG w p loose mg mb) 1 114 [LM wd a, .int 1, .int wd] (LM wd (a + 1)) := fn_add_limb wd a 1 hw hw2 ha (by have := two_le_base hw; exact oq33 this)
end
section
variable {w : World} {p : Program} {loose : List Str} {mg mb : Str → Option Value}

theorem fn_law_mul (wd a b : Nat) (hw : 1 ≤ wd) (hw2 : wd ≤ 1000) (ha : a < 2 ^ 64) (hb : b < 2 ^ 64) (hab : a * b < 2 ^ 64) : FN (GG w p loose mg mb) 2 338 [LM wd a, LM wd b, .int wd] (LM wd (a * b)) := by
  refine FN.of ["a", "b", "w"] [] rfl rfl (len3 fun _ _ _ => rfl) rfl (by decide) rfl (fun L h₀ R₀ => ?_)
  simp only [mkVars, List.zip_cons_cons, List.zip_nil_right, List.map_cons, List.map_nil, List.cons_append, List.nil_append]
  wtm_at "V"
  rfl

theorem fn_law_divrem (wd a b : Nat) (hw : 1 ≤ wd) (hw2 : wd ≤ 1000) (ha : a < 2 ^ 64) (hb : b < 2 ^ 64) (hb0 : 0 < b) : FN (GG w p loose mg mb) 2 345 [LM wd a, LM wd b, .int wd] (.tup [LM wd (a / b), LM wd (a % b)]) := by
  refine FN.of ["a", "b", "w"] ["one", "other"] rfl rfl (len3 fun _ _ _ => rfl) rfl (by decide) rfl (fun L h₀ R₀ => ?_)
  simp only [mkVars, List.zip_cons_cons, List.zip_nil_right, List.map_cons, List.map_nil, List.cons_append, List.nil_append]
  have h1 : a / b < 2 ^ 64 := Nat.lt_of_le_of_lt (Nat.div_le_self ..) ha
  have h2 : a % b < 2 ^ 64 := Nat.lt_of_le_of_lt (Nat.mod_le ..) ha
  wtm_at "V"
  wtm_at "V"
  rfl

theorem fn_signed (wd n : Nat) (b : Bool) (hw : 1 ≤ wd) (hn : n < 2 ^ 64) : FN (GG w p loose mg mb) 1 121 [.bool b, LM wd n] (SG wd (sgv b n)) := by
  refine FN.of ["is_below", "nat"] [] rfl rfl (len2 fun _ _ => rfl) rfl (by decide) rfl (fun L h₀ R₀ => ?_)
  simp only [mkVars, List.zip_cons_cons, List.zip_nil_right, List.map_cons, List.map_nil, List.cons_append, List.nil_append]
  have hL : (dg (2 ^ wd) n).length ≤ 64 := dg_len_small hw hn
  wtm_at "V"
  (refine rws (SG_of ..) ?_; refine rwt (len_pos hw) ?_; with_reducible rfl)

theorem fn_s_neg (wd : Nat) (z : Int) (hw : 1 ≤ wd) (hz : z.natAbs < 2 ^ 64) : FN (GG w p loose mg mb) 2 128 [SG wd z] (SG wd (-z)) := by
  refine FN.of ["x"] [] rfl rfl (len1 fun _ => rfl) rfl (by decide) rfl (fun L h₀ R₀ => ?_)
  simp only [mkVars, List.zip_cons_cons, List.zip_nil_right, List.map_cons, List.map_nil, List.cons_append, List.nil_append]
  wtm_at "V"
  (refine rwt (sgv_not ..) ?_; with_reducible rfl)

theorem fn_s_compare (wd : Nat) (x y : Int) (hw : 1 ≤ wd) (hx : x.natAbs < 2 ^ 64) (hy : y.natAbs < 2 ^ 64) : FN (GG w p loose mg mb) 2 135 [SG wd x, SG wd y] (.int (cmpZ x y)) := by
  refine FN.of ["x", "y"] [] rfl rfl (len2 fun _ _ => rfl) rfl (by decide) rfl (fun L h₀ R₀ => ?_)
  simp only [mkVars, List.zip_cons_cons, List.zip_nil_right, List.map_cons, List.map_nil, List.cons_append, List.nil_append]
  refine WP.cons (WX.if_ (by wtm_at "T") (fun h => ?_) (fun h => WP.nil (Then.next ?_)))
  · wtm_at "V"
    by_cases hx0 : x < 0 <;> by_cases hy0 : y < 0 <;> simp [hx0, hy0] at h ⊢
    · (rewrite [cmpZ]; refine rwt (if_pos (by exact oq297 hy0 hx0)) ?_; with_reducible rfl)
    · (rewrite [cmpZ]; refine rwt (if_neg (by exact oq298 hx0 hy0)) ?_; refine rwt (if_pos (by exact oq297 hx0 hy0)) ?_; with_reducible rfl)
  · wtm_at "V"
    by_cases hx0 : x < 0 <;> by_cases hy0 : y < 0 <;> simp [hx0, hy0] at h ⊢
    · unfold cmpI cmpZ
      split <;> split <;> first | (first | exact oq299 | exact (oq300 (by assumption) (by assumption) hx0).elim | omega) | (split <;> first | rfl | (first | lia | omega)) | rfl
    · unfold cmpI cmpZ
      split <;> split <;> first | (first | exact oq299 | exact (oq301 (by assumption) (by assumption) hy0).elim | lia) | (split <;> first | rfl | (first | lia | omega)) | rfl

theorem fn_s_add (wd : Nat) (x y : Int) (hw : 1 ≤ wd) (hw2 : wd ≤ 1000) (hx : x.natAbs < 2 ^ 62) (hy : y.natAbs < 2 ^ 62) : FN (GG w p loose mg mb) 3 142 [SG wd x, SG wd y, .int wd] (SG wd (x + y)) := by
  refine FN.of ["x", "y", "w"] [] rfl rfl (len3 fun _ _ _ => rfl) rfl (by decide) rfl (fun L h₀ R₀ => ?_)
  simp only [mkVars, List.zip_cons_cons, List.zip_nil_right, List.map_cons, List.map_nil, List.cons_append, List.nil_append]
  refine WP.cons (WX.if_ (by wtm_at "T") (fun h => ?_) (fun h => WP.nil (Then.next ?_)))
  · wtm_at "V"
    have h := beq_iff_eq.mp h
    have h := decide_eq_decide.mp h
    have : sgv (decide (x < 0)) (x.natAbs + y.natAbs) = x + y := by
      unfold sgv
      by_cases hx0 : x < 0
      · (refine rwt (if_pos (decide_eq_true hx0)) ?_); have := h.mp hx0; exact oq302 h hx0
      · (refine rwt (if_neg (by simpa using hx0)) ?_)
        have : ¬ y < 0 := fun h' => hx0 (h.mpr h')
        exact oq303 h hx0
    (refine rwt this ?_; with_reducible rfl)
  · have h : ¬ (x < 0 ↔ y < 0) := fun e => by have := beq_eq_false_iff_ne.mp h; exact this (decide_eq_decide.mpr e)
    refine WP.cons (WX.if_ (by wtm_at "T") (fun h' => ?_) (fun h' => WP.nil (Then.next ?_)))
    · have h' : x.natAbs < y.natAbs := by
        have := of_decide_eq_true h'
        unfold cmpI at this
        split at this
        · assumption
        · split at this <;> (first | exact (oq304 this).elim | exact (oq305 this).elim)
      wtm_at "V"
      have : sgv (decide (y < 0)) (y.natAbs - x.natAbs) = x + y := by
        unfold sgv
        by_cases hy0 : y < 0
        · (refine rwt (if_pos (decide_eq_true hy0)) ?_); exact oq306 h' h hy0
        · (refine rwt (if_neg (by simpa using hy0)) ?_); exact oq307 h' h hy0
      (refine rwt this ?_; with_reducible rfl)
    · have h' : y.natAbs ≤ x.natAbs := by
        have := of_decide_eq_false h'
        unfold cmpI at this
        split at this
        · exact (oq308 this).elim
        · exact oq309 (by assumption)
      wtm_at "V"
      have : sgv (decide (x < 0)) (x.natAbs - y.natAbs) = x + y := by
        unfold sgv
        by_cases hx0 : x < 0
        · (refine rwt (if_pos (decide_eq_true hx0)) ?_); exact oq310 h' h hx0
        · (refine rwt (if_neg (by simpa using hx0)) ?_); exact oq311 h' h hx0
      (refine rwt this ?_; with_reducible rfl)

theorem fn_s_sub (wd : Nat) (x y : Int) (hw : 1 ≤ wd) (hw2 : wd ≤ 1000) (hx : x.natAbs < 2 ^ 62) (hy : y.natAbs < 2 ^ 62) : FN (GG w p loose mg mb) 4 149 [SG wd x, SG wd y, .int wd] (SG wd (x - y)) := by
  refine FN.of ["x", "y", "w"] [] rfl rfl (len3 fun _ _ _ => rfl) rfl (by decide) rfl (fun L h₀ R₀ => ?_)
  simp only [mkVars, List.zip_cons_cons, List.zip_nil_right, List.map_cons, List.map_nil, List.cons_append, List.nil_append]
  wtm_at "V"
  (refine rwt (show x + -y = x - y by exact oq312) ?_; with_reducible rfl)

theorem fn_s_mul (wd : Nat) (x y : Int) (hw : 1 ≤ wd) (hw2 : wd ≤ 1000) (hx : x.natAbs < 2 ^ 64) (hy : y.natAbs < 2 ^ 64) (hxy : x.natAbs * y.natAbs < 2 ^ 64) : FN (GG w p loose mg mb) 3 156 [SG wd x, SG wd y, .int wd, .fn 338] (SG wd (x * y)) := by
  refine FN.of ["x", "y", "w", "mul"] [] rfl rfl (len4 fun _ _ _ _ => rfl) rfl (by decide) rfl (fun L h₀ R₀ => ?_)
  simp only [mkVars, List.zip_cons_cons, List.zip_nil_right, List.map_cons, List.map_nil, List.cons_append, List.nil_append]
  wtm_at "V"
  (refine rwt (sgv_mul ..) ?_; with_reducible rfl)

theorem fn_tdiv (wd : Nat) (x y : Int) (hw : 1 ≤ wd) (hw2 : wd ≤ 1000) (hx : x.natAbs < 2 ^ 64) (hy : y.natAbs < 2 ^ 64) (hy0 : y ≠ 0) : FN (GG w p loose mg mb) 3 163 [SG wd x, SG wd y, .int wd, .fn 345] (.tup [SG wd (x.tdiv y), SG wd (x.tmod y)]) := by
  refine FN.of ["x", "y", "w", "divrem"] ["quotient", "rest"] rfl rfl (len4 fun _ _ _ _ => rfl) rfl (by decide) rfl (fun L h₀ R₀ => ?_)
  simp only [mkVars, List.zip_cons_cons, List.zip_nil_right, List.map_cons, List.map_nil, List.cons_append, List.nil_append]
  have hL : (dg (2 ^ wd) y.natAbs).length ≤ 64 := dg_len_small hw hy
  have h1 : x.natAbs / y.natAbs < 2 ^ 64 := Nat.lt_of_le_of_lt (Nat.div_le_self ..) hx
  have h2 : x.natAbs % y.natAbs < 2 ^ 64 := Nat.lt_of_le_of_lt (Nat.mod_le ..) hx
  refine WP.cons (WX.if_ (by wtm_at "T") (fun h => ?_) (fun h => WP.nil (Then.next ?_)))
  · rw [len_zero hw] at h
    have := of_decide_eq_true h
    exact (oq313 this hy0).elim
  wtm_at "V"
  wtm_at "V"
  (refine rwt (sgv_tdiv ..) ?_; refine rwt (sgv_tmod ..) ?_; with_reducible rfl)

theorem fn_fdiv (wd : Nat) (x y : Int) (hw : 1 ≤ wd) (hw2 : wd ≤ 1000) (hx : x.natAbs < 2 ^ 60) (hy : y.natAbs < 2 ^ 60) (hy0 : y ≠ 0) : FN (GG w p loose mg mb) 4 170 [SG wd x, SG wd y, .int wd, .fn 345] (.tup [SG wd (x.fdiv y), SG wd (x.fmod y)]) := by
  refine FN.of ["x", "y", "w", "divrem"] ["quotient", "rest"] rfl rfl (len4 fun _ _ _ _ => rfl) rfl (by decide) rfl (fun L h₀ R₀ => ?_)
  simp only [mkVars, List.zip_cons_cons, List.zip_nil_right, List.map_cons, List.map_nil, List.cons_append, List.nil_append]
  have h1 : (x.tdiv y).natAbs < 2 ^ 60 := by (refine rwt (Int.natAbs_tdiv ..) ?_); exact Nat.lt_of_le_of_lt (Nat.div_le_self ..) hx
  have h2 : (x.tmod y).natAbs < 2 ^ 60 := by (refine rwt (Int.natAbs_tmod ..) ?_); exact Nat.lt_of_le_of_lt (Nat.mod_le ..) hx
  have hL : (dg (2 ^ wd) (x.tmod y).natAbs).length ≤ 60 := dg_len_small hw h2
  have hB := two_le_base hw
  refine xe0_2 (fdiv_of_tdiv (x := x) hy0) fun f1 f2 => ?_
  wtm_at "V"
  refine WP.cons (WX.if_ (by wtm_at "T") (fun h => ?_) (fun h => WP.nil (Then.next ?_)))
  · rw [len_pos hw, Bool.and_eq_true, decide_eq_true_eq] at h
    refine xe0_2 (f1 ⟨by omega, h.2⟩) fun g1 g2 => ?_
    wtm_at "V"
    (refine rwt g1 ?_; refine rwt g2 ?_)
    have hq : x.tdiv y ≤ 0 := by (refine rws (sgv_tdiv ..) ?_; refine rwt h.2 ?_; rewrite [sgv]; refine rwt (if_pos rfl) ?_); exact Int.neg_nonpos_of_nonneg (Int.natCast_nonneg _)
    (rewrite [SG, SG]; refine rwt (decide_eq_true (show x.tdiv y - 1 < 0 by exact oq314 hq)) ?_; refine rwt (show (x.tdiv y - 1).natAbs = (x.tdiv y).natAbs + 1 by exact oq315 hq) ?_; with_reducible rfl)
  · rw [len_pos hw] at h
    obtain ⟨g1, g2⟩ := f2 (fun h' => by
      rw [decide_eq_true (show 0 < (x.tmod y).natAbs by omega), h'.2] at h
      cases h)
    wtm_at "V"
    (refine rwt g1 ?_; refine rwt g2 ?_; with_reducible rfl)
end

set_option maxRecDepth 100000
set_option maxHeartbeats 4000000
/-- a fraction's datum -/
abbrev RT (wd : Nat) (P : Int) (Q : Nat) : D := .tup [SG wd P, LM wd Q]
theorem LM0 (wd : Nat) : LM wd 0 = .list [] := by (rewrite [LM]; refine rwt (dg_zero ..) ?_); rfl
theorem LM1 {wd : Nat} (hw : 1 ≤ wd) : LM wd 1 = .list [.int 1] := by
  have hB := two_le_base hw
  (rewrite [LM]; refine rwt (dg_pos hB (by decide)) ?_; refine rwt (Nat.mod_eq_of_lt (by exact oq33 hB)) ?_; refine rwt (Nat.div_eq_of_lt (by exact oq33 hB)) ?_; refine rwt (dg_zero ..) ?_); rfl
theorem SG0 (wd : Nat) : SG wd 0 = .tup [.bool false, .list []] := by (rewrite [SG]; refine rwt Int.natAbs_zero ?_; refine rwt (LM0 ..) ?_); rfl
theorem RT01 {wd : Nat} (hw : 1 ≤ wd) : RT wd 0 1 = .tup [.tup [.bool false, .list []], .list [.int 1]] := by (rewrite [RT]; refine rwt (SG0 ..) ?_; refine rwt (LM1 hw) ?_; with_reducible rfl)
theorem SG_nat (wd n : Nat) : SG wd (n : Int) = .tup [.bool false, LM wd n] := by (rewrite [SG]; refine rwt (Int.natAbs_natCast ..) ?_; refine rwt (decide_eq_false (by exact oq213)) ?_; with_reducible rfl)
section
variable {w : World} {p : Program} {loose : List Str} {mg mb : Str → Option Value}

theorem fn_signed_of (wd n : Nat) : FN (GG w p loose mg mb) 1 191 [LM wd n] (SG wd (n : Int)) := by
  refine FN.of ["nat"] [] rfl rfl (len1 fun _ => rfl) rfl (by decide) rfl (fun L h₀ R₀ => ?_)
  simp only [mkVars, List.zip_cons_cons, List.zip_nil_right, List.map_cons, List.map_nil, List.cons_append, List.nil_append]
  wtm_at "V"
  (refine rwt (SG_nat ..) ?_; with_reducible rfl)

theorem fn_common (wd a b : Nat) (hw : 1 ≤ wd) (hw2 : wd ≤ 1000) (ha : a < 2 ^ 64) (hb : b < 2 ^ 64) : FN (GG w p loose mg mb) 3 177 [LM wd a, LM wd b, .int wd, .fn 345] (LM wd (Nat.gcd a b)) := by
  refine FN.of ["a", "b", "w", "divrem"] [] rfl rfl (len4 fun _ _ _ _ => rfl) rfl (by decide) rfl (fun L h₀ R₀ => ?_)
  simp only [mkVars, List.zip_cons_cons, List.zip_nil_right, List.map_cons, List.map_nil, List.cons_append, List.nil_append]
  have hB := two_le_base hw
  refine WP.cons (WX.while_ (fun k σ => ∃ x y, k = y ∧ Nat.gcd x y = Nat.gcd a b ∧ x < 2 ^ 64 ∧ y < 2 ^ 64 ∧ σ = [V "a" (LM wd x), V "b" (LM wd y), V "w" (.int wd), V "divrem" (.fn 345)]) b ⟨a, b, rfl, rfl, ha, hb, rfl⟩ ?_)
  intro k σ hh_
  refine wrapG fun W_ k_ => ?_
  refine xe2_5 hh_ fun x y e_1 hg hx hy e_2 => ?_
  subst e_1
  subst e_2
  try clear hh_
  refine k_ ?_
  clear k_ W_
  have hL : (dg (2 ^ wd) k).length ≤ 64 := dg_len_small hw hy
  refine ⟨_, by wtm_at "T", fun hb => ?_, fun hb => Then.next ?_⟩
  · rw [len_pos hw] at hb
    have hk := of_decide_eq_true hb
    wtm_at "V"
    refine WP.nil ⟨x % k, Nat.mod_lt _ hk, k, x % k, rfl, ?_, hy, Nat.lt_trans (Nat.mod_lt _ hk) hy, rfl⟩
    (refine rws hg ?_; rewrite [Nat.gcd_comm k]; refine rws (Nat.gcd_rec ..) ?_; refine rwt (Nat.gcd_comm ..) ?_; with_reducible rfl)
  · rw [len_pos hw] at hb
    have hk := of_decide_eq_false hb
    have hk : k = 0 := by exact oq316 hk
    subst hk
    have hL : (dg (2 ^ wd) x).length ≤ 64 := dg_len_small hw hx
    rw [Nat.gcd_zero_right] at hg
    refine WP.cons (WX.ret (EV.callN (by wtm_at "E") (by wtm_at "S") (fn_normal _ hw _ (dg_dig hB x) (by exact oq237 hL)) (by decide) rfl) (Then.ret ?_))
    (rewrite [num_dg hB]; refine rwt hg ?_; with_reducible rfl)

theorem fn_cut_signed (wd : Nat) (x z : Int) (d : Nat) (hz : z * (d : Int) = x) (h0 : 0 < d) (hw : 1 ≤ wd) (hw2 : wd ≤ 1000) (hx : x.natAbs < 2 ^ 64) (hd : d < 2 ^ 64) : FN (GG w p loose mg mb) 3 184 [SG wd x, LM wd d, .int wd, .fn 345] (SG wd z) := by
  refine FN.of ["x", "d", "w", "divrem"] [] rfl rfl (len4 fun _ _ _ _ => rfl) rfl (by decide) rfl (fun L h₀ R₀ => ?_)
  simp only [mkVars, List.zip_cons_cons, List.zip_nil_right, List.map_cons, List.map_nil, List.cons_append, List.nil_append]
  wtm_at "V"
  obtain ⟨z', h1, h2, h3⟩ := exact_of (x := x) (d := d) (by (refine rws hz ?_; refine rwt (Int.natAbs_mul ..) ?_; rewrite [Int.natAbs_natCast]); exact Nat.dvd_mul_left ..) h0
  have : z' = z := Int.eq_of_mul_eq_mul_right (by exact oq76 h0) (h1.trans hz.symm)
  subst this
  (rewrite [SG]; refine rwt h2 ?_; refine rwt h3 ?_; with_reducible rfl)

theorem fn_r_make (wd : Nat) (a b P : Int) (Q : Nat) (he : P * b = a * (Q : Int)) (hl : Low P Q) (hb0 : b ≠ 0) (hw : 1 ≤ wd) (hw2 : wd ≤ 1000) (ha : a.natAbs < 2 ^ 64) (hb : b.natAbs < 2 ^ 64) :
    FN (GG w p loose mg mb) 4 198 [SG wd a, SG wd b, .int wd, .fn 345] (RT wd P Q) := by
  refine FN.of ["top", "bottom", "w", "divrem"] ["told"] rfl rfl (len4 fun _ _ _ _ => rfl) rfl (by decide) rfl (fun L h₀ R₀ => ?_)
  simp only [mkVars, List.zip_cons_cons, List.zip_nil_right, List.map_cons, List.map_nil, List.cons_append, List.nil_append]
  have hLa : (dg (2 ^ wd) a.natAbs).length ≤ 64 := dg_len_small hw ha
  have hLb : (dg (2 ^ wd) b.natAbs).length ≤ 64 := dg_len_small hw hb
  have hg : 0 < Nat.gcd a.natAbs b.natAbs := Nat.gcd_pos_of_pos_right _ (by exact oq68 hb0)
  have hg2 : Nat.gcd a.natAbs b.natAbs < 2 ^ 64 := Nat.lt_of_le_of_lt (Nat.le_of_dvd (by exact oq68 hb0) (Nat.gcd_dvd_right ..)) hb
  refine WP.cons (WX.if_ (by wtm_at "T") (fun h => ?_) (fun h => WP.nil (Then.next ?_)))
  · rw [len_zero hw] at h
    have := of_decide_eq_true h
    exact (oq313 this hb0).elim
  refine WP.cons (WX.if_ (by wtm_at "T") (fun h => ?_) (fun h => WP.nil (Then.next ?_)))
  · rw [len_zero hw] at h
    have h := of_decide_eq_true h
    refine xe0_2 (hl.isZero hb0 he (by exact oq317 h)) fun e_1 e_2 => ?_
    subst e_1
    subst e_2
    wtm_at "V"
    (refine rwt (RT01 hw) ?_; with_reducible rfl)
  wtm_at "V"
  wtm_at "V"
  refine xe0_2 (low_make (a := a) hb0) fun l1 l2 => ?_
  refine xe0_2 (hl.same l1 hb0 he l2) fun e_1 e_2 => ?_
  subst e_1
  subst e_2
  (rewrite [RT, SG]; refine rwt (sgv_abs ..) ?_; refine rwt (sgv_neg ..) ?_)
  rw [len_zero hw] at h
  have h := of_decide_eq_false h
  (refine rwt (decide_eq_true (show 0 < a.natAbs / Nat.gcd a.natAbs b.natAbs from Nat.div_pos (Nat.le_of_dvd (by exact oq318 h) (Nat.gcd_dvd_left ..)) hg)) ?_; refine rwt (Bool.and_true ..) ?_; with_reducible rfl)

theorem fn_r_neg (wd : Nat) (a : Int) (b : Nat) (hw : 1 ≤ wd) (ha : a.natAbs < 2 ^ 64) : FN (GG w p loose mg mb) 3 205 [RT wd a b] (RT wd (-a) b) := by
  refine FN.of ["x"] [] rfl rfl (len1 fun _ => rfl) rfl (by decide) rfl (fun L h₀ R₀ => ?_)
  simp only [mkVars, List.zip_cons_cons, List.zip_nil_right, List.map_cons, List.map_nil, List.cons_append, List.nil_append]
  wtm_at "V"
  rfl

theorem fn_r_abs (wd : Nat) (a : Int) (b : Nat) : FN (GG w p loose mg mb) 1 254 [RT wd a b] (RT wd (a.natAbs : Nat) b) := by
  refine FN.of ["x"] [] rfl rfl (len1 fun _ => rfl) rfl (by decide) rfl (fun L h₀ R₀ => ?_)
  simp only [mkVars, List.zip_cons_cons, List.zip_nil_right, List.map_cons, List.map_nil, List.cons_append, List.nil_append]
  wtm_at "V"
  (rewrite [RT]; refine rwt (SG_nat ..) ?_; with_reducible rfl)

theorem fn_r_inverse (wd : Nat) (a : Int) (b : Nat) (hb0 : 0 < b) (ha0 : a ≠ 0) (hw : 1 ≤ wd) (ha : a.natAbs < 2 ^ 64) : FN (GG w p loose mg mb) 1 233 [RT wd a b] (RT wd (sgv (decide (a < 0)) b) a.natAbs) := by
  refine FN.of ["x"] [] rfl rfl (len1 fun _ => rfl) rfl (by decide) rfl (fun L h₀ R₀ => ?_)
  simp only [mkVars, List.zip_cons_cons, List.zip_nil_right, List.map_cons, List.map_nil, List.cons_append, List.nil_append]
  have hLa : (dg (2 ^ wd) a.natAbs).length ≤ 64 := dg_len_small hw ha
  refine WP.cons (WX.if_ (by wtm_at "T") (fun h => ?_) (fun h => WP.nil (Then.next ?_)))
  · rw [len_zero hw] at h
    have := of_decide_eq_true h
    exact (oq313 this ha0).elim
  wtm_at "V"
  (rewrite [RT, SG]; refine rwt (sgv_abs ..) ?_; refine rwt (sgv_neg ..) ?_; refine rwt (decide_eq_true hb0) ?_; refine rwt (Bool.and_true ..) ?_; with_reducible rfl)

theorem fn_r_compare (wd : Nat) (a c : Int) (b d : Nat) (hw : 1 ≤ wd) (hw2 : wd ≤ 1000) (ha : a.natAbs < 2 ^ 30) (hb : b < 2 ^ 30) (hc : c.natAbs < 2 ^ 30) (hd : d < 2 ^ 30) : FN (GG w p loose mg mb) 4 247 [RT wd a b, RT wd c d, .int wd, .fn 338] (.int (cmpZ (a * d) (c * b))) := by
  refine FN.of ["x", "y", "w", "mul"] [] rfl rfl (len4 fun _ _ _ _ => rfl) rfl (by decide) rfl (fun L h₀ R₀ => ?_)
  simp only [mkVars, List.zip_cons_cons, List.zip_nil_right, List.map_cons, List.map_nil, List.cons_append, List.nil_append]
  have m1 := mul_lt_60 ha hd
  have m2 := mul_lt_60 hc hb
  have n1 : (a * (d : Int)).natAbs = a.natAbs * d := by (refine rwt (Int.natAbs_mul ..) ?_; rewrite [Int.natAbs_natCast]; with_reducible rfl)
  have n2 : (c * (b : Int)).natAbs = c.natAbs * b := by (refine rwt (Int.natAbs_mul ..) ?_; rewrite [Int.natAbs_natCast]; with_reducible rfl)
  have n3 : ((d : Int)).natAbs = d := Int.natAbs_natCast _
  have n4 : ((b : Int)).natAbs = b := Int.natAbs_natCast _
  have m3 : a.natAbs * ((d : Int)).natAbs < 2 ^ 64 := by (refine rwt n3 ?_); exact oq319 m1
  have m4 : c.natAbs * ((b : Int)).natAbs < 2 ^ 64 := by (refine rwt n4 ?_); exact oq319 m2
  have m5 : (a * (d : Int)).natAbs < 2 ^ 64 := by (refine rwt n1 ?_); exact oq319 m1
  have m6 : (c * (b : Int)).natAbs < 2 ^ 64 := by (refine rwt n2 ?_); exact oq319 m2
  have m7 : ((d : Int)).natAbs < 2 ^ 64 := by exact oq320 hd
  have m8 : ((b : Int)).natAbs < 2 ^ 64 := by exact oq320 hb
  have m9 : a.natAbs < 2 ^ 64 := by exact oq321 ha
  have m10 : c.natAbs < 2 ^ 64 := by exact oq321 hc
  wtm_at "V"
  rfl
end

set_option maxRecDepth 100000
set_option maxHeartbeats 4000000
theorem div_lt' {a g N : Nat} (h : a < N) : a / g < N := Nat.lt_of_le_of_lt (Nat.div_le_self ..) h
theorem gcd_lt_right {a b N : Nat} (hb : 0 < b) (h : b < N) : Nat.gcd a b < N := Nat.lt_of_le_of_lt (Nat.le_of_dvd hb (Nat.gcd_dvd_right ..)) h
theorem nab {n N : Nat} (h : n < N) : ((n : Int)).natAbs < N := by (refine rwt (Int.natAbs_natCast ..) ?_); exact h
section
variable {w : World} {p : Program} {loose : List Str} {mg mb : Str → Option Value}

theorem fn_r_add (wd : Nat) (a c : Int) (b d : Nat) (P : Int) (Q : Nat) (he : P * (b * d : Int) = (a * d + c * b) * (Q : Int)) (h : Low a b) (h' : Low c d) (hl : Low P Q) (hw : 1 ≤ wd) (hw2 : wd ≤ 1000)
    (ha : a.natAbs < 2 ^ 30) (hb : b < 2 ^ 30) (hc : c.natAbs < 2 ^ 30) (hd : d < 2 ^ 30) :
    FN (GG w p loose mg mb) 4 212 [RT wd a b, RT wd c d, .int wd, .fn 338, .fn 345] (RT wd P Q) := by
  refine FN.of ["x", "y", "w", "mul", "divrem"] ["told", "here", "there", "top", "out"] rfl rfl (len5 fun _ _ _ _ _ => rfl) rfl (by decide) rfl (fun L h₀ R₀ => ?_)
  simp only [mkVars, List.zip_cons_cons, List.zip_nil_right, List.map_cons, List.map_nil, List.cons_append, List.nil_append]
  have hg0 : 0 < Nat.gcd b d := Nat.gcd_pos_of_pos_left _ h.pos
  have hg1 : Nat.gcd b d < 2 ^ 30 := gcd_lt_right h'.pos hd
  have hb1 : b / Nat.gcd b d < 2 ^ 30 := div_lt' hb
  have hd1 : d / Nat.gcd b d < 2 ^ 30 := div_lt' hd
  have m1 := mul_lt_60 ha hd1
  have m2 := mul_lt_60 hc hb1
  have n1 : (a * ((d / Nat.gcd b d : Nat) : Int)).natAbs = a.natAbs * (d / Nat.gcd b d) := by (refine rwt (Int.natAbs_mul ..) ?_; rewrite [Int.natAbs_natCast]; with_reducible rfl)
  have n2 : (c * ((b / Nat.gcd b d : Nat) : Int)).natAbs = c.natAbs * (b / Nat.gcd b d) := by (refine rwt (Int.natAbs_mul ..) ?_; rewrite [Int.natAbs_natCast]; with_reducible rfl)
  have m3 : a.natAbs * (((d / Nat.gcd b d : Nat) : Int)).natAbs < 2 ^ 64 := by rw [Int.natAbs_natCast]; exact Nat.lt_trans m1 (by decide)
  have m4 : c.natAbs * (((b / Nat.gcd b d : Nat) : Int)).natAbs < 2 ^ 64 := by rw [Int.natAbs_natCast]; exact Nat.lt_trans m2 (by decide)
  have m5 : (a * ((d / Nat.gcd b d : Nat) : Int)).natAbs < 2 ^ 62 := by (refine rwt n1 ?_); exact Nat.lt_trans m1 (by decide)
  have m6 : (c * ((b / Nat.gcd b d : Nat) : Int)).natAbs < 2 ^ 62 := by (refine rwt n2 ?_); exact Nat.lt_trans m2 (by decide)
  have m7 : (((d / Nat.gcd b d : Nat) : Int)).natAbs < 2 ^ 64 := nab (Nat.lt_trans hd1 (by decide))
  have m8 : (((b / Nat.gcd b d : Nat) : Int)).natAbs < 2 ^ 64 := nab (Nat.lt_trans hb1 (by decide))
  have m9 : (a * ((d / Nat.gcd b d : Nat) : Int) + c * ((b / Nat.gcd b d : Nat) : Int)).natAbs < 2 ^ 64 := Nat.lt_of_le_of_lt (Int.natAbs_add_le ..) (by exact oq322 n1 n2 m1 m2)
  have hL : (dg (2 ^ wd) (a * ((d / Nat.gcd b d : Nat) : Int) + c * ((b / Nat.gcd b d : Nat) : Int)).natAbs).length ≤ 64 := dg_len_small hw m9
  have hbd : (b : Int) * d ≠ 0 := by
    have := Nat.mul_pos h.pos h'.pos
    have e : (b : Int) * d = ((b * d : Nat) : Int) := by (refine rwt (Int.natCast_mul ..) ?_; with_reducible rfl)
    (refine rwt e ?_); exact oq76 this
  wtm_at "V"
  wtm_at "V"
  wtm_at "V"
  refine WP.cons (WX.if_ (by wtm_at "T") (fun hz => ?_) (fun hz => WP.nil (Then.next ?_)))
  · rw [len_zero hw] at hz
    have hz := of_decide_eq_true hz
    have hz : a * ((d / Nat.gcd b d : Nat) : Int) + c * ((b / Nat.gcd b d : Nat) : Int) = 0 := Int.natAbs_eq_zero.mp hz
    have e1 : a * (d : Int) + c * b = 0 := by
      have q1 : (d : Int) = (Nat.gcd b d : Nat) * ((d / Nat.gcd b d : Nat) : Int) := by (refine rws (Int.natCast_mul ..) ?_; refine rwt (Nat.mul_div_cancel' (Nat.gcd_dvd_right b d)) ?_; with_reducible rfl)
      have q2 : (b : Int) = (Nat.gcd b d : Nat) * ((b / Nat.gcd b d : Nat) : Int) := by (refine rws (Int.natCast_mul ..) ?_; refine rwt (Nat.mul_div_cancel' (Nat.gcd_dvd_left b d)) ?_; with_reducible rfl)
      calc a * (d : Int) + c * b = (Nat.gcd b d : Nat) * (a * ((d / Nat.gcd b d : Nat) : Int) + c * ((b / Nat.gcd b d : Nat) : Int)) := by
            conv => lhs; rw [q1, q2]
            grind
        _ = 0 := by rw [hz, Int.mul_zero]
    refine xe0_2 (hl.isZero hbd he e1) fun e_1 e_2 => ?_
    subst e_1
    subst e_2
    wtm_at "V"
    rw [hz, RT, LM1 hw]
  · have ho0 : 0 < Nat.gcd (a * ((d / Nat.gcd b d : Nat) : Int) + c * ((b / Nat.gcd b d : Nat) : Int)).natAbs (Nat.gcd b d) := Nat.gcd_pos_of_pos_right _ hg0
    have ho1 : Nat.gcd (a * ((d / Nat.gcd b d : Nat) : Int) + c * ((b / Nat.gcd b d : Nat) : Int)).natAbs (Nat.gcd b d) < 2 ^ 64 := Nat.lt_trans (gcd_lt_right hg0 hg1) (by decide)
    refine xe1_3 (exact_of (Nat.gcd_dvd_left (a * ((d / Nat.gcd b d : Nat) : Int) + c * ((b / Nat.gcd b d : Nat) : Int)).natAbs (Nat.gcd b d)) ho0) fun z hz1 hz2 hz3 => ?_
    have k1 : d / Nat.gcd (a * ((d / Nat.gcd b d : Nat) : Int) + c * ((b / Nat.gcd b d : Nat) : Int)).natAbs (Nat.gcd b d) < 2 ^ 30 := div_lt' hd
    have k2 : b / Nat.gcd b d * (d / Nat.gcd (a * ((d / Nat.gcd b d : Nat) : Int) + c * ((b / Nat.gcd b d : Nat) : Int)).natAbs (Nat.gcd b d)) < 2 ^ 64 := Nat.lt_trans (mul_lt_60 hb1 k1) (by decide)
    wtm_at "V"
    wtm_at "V"
    refine xe0_2 (low_add h h' hz1) fun l1 l2 => ?_
    refine xe0_2 (hl.same l1 hbd he l2) fun e_1 e_2 => ?_
    subst e_1
    subst e_2
    rfl

theorem fn_r_sub (wd : Nat) (a c : Int) (b d : Nat) (P : Int) (Q : Nat) (he : P * (b * d : Int) = (a * d - c * b) * (Q : Int)) (h : Low a b) (h' : Low c d) (hl : Low P Q) (hw : 1 ≤ wd) (hw2 : wd ≤ 1000)
    (ha : a.natAbs < 2 ^ 30) (hb : b < 2 ^ 30) (hc : c.natAbs < 2 ^ 30) (hd : d < 2 ^ 30) :
    FN (GG w p loose mg mb) 5 219 [RT wd a b, RT wd c d, .int wd, .fn 338, .fn 345] (RT wd P Q) := by
  refine FN.of ["x", "y", "w", "mul", "divrem"] [] rfl rfl (len5 fun _ _ _ _ _ => rfl) rfl (by decide) rfl (fun L h₀ R₀ => ?_)
  simp only [mkVars, List.zip_cons_cons, List.zip_nil_right, List.map_cons, List.map_nil, List.cons_append, List.nil_append]
  have h'' := h'.neg
  have he' : P * (b * d : Int) = (a * d + -c * b) * (Q : Int) := by (refine rwt he ?_; refine rwt (Int.neg_mul ..) ?_; refine rwt Int.sub_eq_add_neg ?_; with_reducible rfl)
  wtm_at "V"
  rfl

theorem fn_r_mul (wd : Nat) (a c : Int) (b d : Nat) (P : Int) (Q : Nat) (he : P * (b * d : Int) = a * c * (Q : Int)) (h : Low a b) (h' : Low c d) (hl : Low P Q) (hw : 1 ≤ wd) (hw2 : wd ≤ 1000)
    (ha : a.natAbs < 2 ^ 30) (hb : b < 2 ^ 30) (hc : c.natAbs < 2 ^ 30) (hd : d < 2 ^ 30) :
    FN (GG w p loose mg mb) 4 226 [RT wd a b, RT wd c d, .int wd, .fn 338, .fn 345] (RT wd P Q) := by
  refine FN.of ["x", "y", "w", "mul", "divrem"] ["one", "other", "top"] rfl rfl (len5 fun _ _ _ _ _ => rfl) rfl (by decide) rfl (fun L h₀ R₀ => ?_)
  simp only [mkVars, List.zip_cons_cons, List.zip_nil_right, List.map_cons, List.map_nil, List.cons_append, List.nil_append]
  have hLa : (dg (2 ^ wd) a.natAbs).length ≤ 30 := dg_len_small hw ha
  have hLc : (dg (2 ^ wd) c.natAbs).length ≤ 30 := dg_len_small hw hc
  have hbd : (b : Int) * d ≠ 0 := by
    have := Nat.mul_pos h.pos h'.pos
    have e : (b : Int) * d = ((b * d : Nat) : Int) := by (refine rwt (Int.natCast_mul ..) ?_; with_reducible rfl)
    (refine rwt e ?_); exact oq76 this
  have ho0 : 0 < Nat.gcd a.natAbs d := Nat.gcd_pos_of_pos_right _ h'.pos
  have ho1 : Nat.gcd a.natAbs d < 2 ^ 30 := gcd_lt_right h'.pos hd
  have hp0 : 0 < Nat.gcd c.natAbs b := Nat.gcd_pos_of_pos_right _ h.pos
  have hp1 : Nat.gcd c.natAbs b < 2 ^ 30 := gcd_lt_right h.pos hb
  refine xe1_3 (exact_of (Nat.gcd_dvd_left a.natAbs d) ho0) fun x hx1 hx2 hx3 => ?_
  refine xe1_3 (exact_of (Nat.gcd_dvd_left c.natAbs b) hp0) fun y hy1 hy2 hy3 => ?_
  have k1 : x.natAbs < 2 ^ 30 := by (refine rwt hx2 ?_); exact div_lt' ha
  have k2 : y.natAbs < 2 ^ 30 := by (refine rwt hy2 ?_); exact div_lt' hc
  have k3 : x.natAbs * y.natAbs < 2 ^ 64 := Nat.lt_trans (mul_lt_60 k1 k2) (by decide)
  have k4 : b / Nat.gcd c.natAbs b < 2 ^ 30 := div_lt' hb
  have k5 : d / Nat.gcd a.natAbs d < 2 ^ 30 := div_lt' hd
  have k6 : b / Nat.gcd c.natAbs b * (d / Nat.gcd a.natAbs d) < 2 ^ 64 := Nat.lt_trans (mul_lt_60 k4 k5) (by decide)
  refine WP.cons (WX.if_ (by wtm_at "T") (fun hz => ?_) (fun hz => WP.nil (Then.next ?_)))
  · have hz : a * c = 0 := by
      rw [len_zero hw, len_zero hw] at hz
      rcases Bool.or_eq_true_iff.mp hz with q | q
      · (refine rwt (Int.natAbs_eq_zero.mp (of_decide_eq_true q)) ?_; refine rwt (Int.zero_mul ..) ?_; with_reducible rfl)
      · (refine rwt (Int.natAbs_eq_zero.mp (of_decide_eq_true q)) ?_; refine rwt (Int.mul_zero ..) ?_; with_reducible rfl)
    refine xe0_2 (hl.isZero hbd he hz) fun e_1 e_2 => ?_
    subst e_1
    subst e_2
    wtm_at "V"
    (refine rwt (RT01 hw) ?_; with_reducible rfl)
  · wtm_at "V"
    wtm_at "V"
    wtm_at "V"
    refine xe0_2 (low_mul h h' hx1 hy1) fun l1 l2 => ?_
    refine xe0_2 (hl.same l1 hbd he l2) fun e_1 e_2 => ?_
    subst e_1
    subst e_2
    rfl

theorem fn_r_div (wd : Nat) (a c : Int) (b d : Nat) (P : Int) (Q : Nat) (he : P * (b * c.natAbs : Int) = a * sgv (decide (c < 0)) d * (Q : Int)) (h : Low a b) (h' : Low c d) (hc0 : c ≠ 0) (hl : Low P Q) (hw : 1 ≤ wd) (hw2 : wd ≤ 1000)
    (ha : a.natAbs < 2 ^ 30) (hb : b < 2 ^ 30) (hc : c.natAbs < 2 ^ 30) (hd : d < 2 ^ 30) :
    FN (GG w p loose mg mb) 5 240 [RT wd a b, RT wd c d, .int wd, .fn 338, .fn 345] (RT wd P Q) := by
  refine FN.of ["x", "y", "w", "mul", "divrem"] [] rfl rfl (len5 fun _ _ _ _ _ => rfl) rfl (by decide) rfl (fun L h₀ R₀ => ?_)
  simp only [mkVars, List.zip_cons_cons, List.zip_nil_right, List.map_cons, List.map_nil, List.cons_append, List.nil_append]
  have h'' := h'.inv hc0
  have hd0 := h'.pos
  have hd' : (sgv (decide (c < 0)) d).natAbs < 2 ^ 30 := by (refine rwt (sgv_abs ..) ?_); exact hd
  wtm_at "V"
  rfl

theorem fn_law_signed (wd : Nat) (z : Int) (hw : 1 ≤ wd) (hw2 : wd ≤ 1000) (hz : z.natAbs < 2 ^ 64) : FN (GG w p loose mg mb) 2 371 [.int z, .int wd] (SG wd z) := by
  refine FN.of ["number", "w"] [] rfl rfl (len2 fun _ _ => rfl) rfl (by decide) rfl (fun L h₀ R₀ => ?_)
  simp only [mkVars, List.zip_cons_cons, List.zip_nil_right, List.map_cons, List.map_nil, List.cons_append, List.nil_append]
  wtm_at "V"
  rfl

theorem fn_law_whole (wd : Nat) (z : Int) (hw : 1 ≤ wd) (hw2 : wd ≤ 1000) (hz : z.natAbs < 2 ^ 64) : FN (GG w p loose mg mb) 2 385 [SG wd z, .int wd] (.int z) := by
  refine FN.of ["x", "w"] [] rfl rfl (len2 fun _ _ => rfl) rfl (by decide) rfl (fun L h₀ R₀ => ?_)
  simp only [mkVars, List.zip_cons_cons, List.zip_nil_right, List.map_cons, List.map_nil, List.cons_append, List.nil_append]
  wtm_at "V"
  by_cases h : z < 0
  · simp only [h]; simp; exact oq50 h
  · simp only [h]; simp; exact oq51 h
end

set_option maxRecDepth 100000
set_option maxHeartbeats 4000000
theorem low_least {a b P : Int} {Q : Nat} (hb : b ≠ 0) (he : P * b = a * (Q : Int)) (hl : Low P Q) :
    (if b < 0 then 0 - a else a).fdiv ((Nat.gcd a.natAbs b.natAbs : Nat) : Int) = P ∧ (if b < 0 then 0 - b else b).fdiv ((Nat.gcd a.natAbs b.natAbs : Nat) : Int) = (Q : Int) := by
  refine xe0_2 (low_make (a := a) hb) fun l1 l2 => ?_
  have hg : 0 < Nat.gcd a.natAbs b.natAbs := Nat.gcd_pos_of_pos_right _ (by exact oq68 hb)
  refine xe0_2 (hl.same l1 hb he l2) fun _ hQ => ?_
  have e2 : Q * Nat.gcd a.natAbs b.natAbs = b.natAbs := by (refine rwt hQ ?_); exact Nat.div_mul_cancel (Nat.gcd_dvd_right ..)
  generalize Nat.gcd a.natAbs b.natAbs = g at *
  have e3 : (Q : Int) * g = b.natAbs := by (refine rws (Int.natCast_mul ..) ?_; refine rwt e2 ?_; with_reducible rfl)
  have e4 : (if b < 0 then 0 - b else b) = Q * g := by (refine rwt e3 ?_); split <;> (first | exact oq323 (by assumption) | exact oq19 (by assumption))
  have e5 : (if b < 0 then 0 - a else a) = P * g := by
    refine Int.eq_of_mul_eq_mul_right hb ?_
    have : P * g * b = a * (Q * g : Int) := by
      calc P * g * b = P * b * g := by grind
        _ = _ := by (refine rwt he ?_); grind
    (refine rwt this ?_; refine rwt e3 ?_)
    split
    · (refine rwt (show ((b.natAbs : Nat) : Int) = -b by exact oq52 (by assumption)) ?_); grind
    · (refine rwt (show ((b.natAbs : Nat) : Int) = b by exact oq51 (by assumption)) ?_; with_reducible rfl)
  (refine rwt e4 ?_; refine rwt e5 ?_)
  exact ⟨Int.mul_fdiv_cancel _ (by exact oq76 hg), Int.mul_fdiv_cancel _ (by exact oq76 hg)⟩
section
variable {w : World} {p : Program} {loose : List Str} {mg mb : Str → Option Value}
theorem fn_law_least (a b : Int) (P : Int) (Q : Nat) (he : P * b = a * (Q : Int)) (hl : Low P Q) (hb : b ≠ 0) (ha : a.natAbs < 2 ^ 30) (hb2 : b.natAbs < 2 ^ 30) :
    FN (GG w p loose mg mb) 1 364 [.int a, .int b] (.tup [.int P, .int (Q : Int)]) := by
  refine FN.of ["top", "bottom"] ["a", "b"] rfl rfl (len2 fun _ _ => rfl) rfl (by decide) rfl (fun L h₀ R₀ => ?_)
  simp only [mkVars, List.zip_cons_cons, List.zip_nil_right, List.map_cons, List.map_nil, List.cons_append, List.nil_append]
  have hg : 0 < Nat.gcd a.natAbs b.natAbs := Nat.gcd_pos_of_pos_right _ (by exact oq68 hb)
  have hg1 : Nat.gcd a.natAbs b.natAbs < 2 ^ 30 := gcd_lt_right (by exact oq68 hb) hb2
  refine xe0_2 (low_least hb he hl) fun m1 m2 => ?_
  wtm_at "V"
  refine WP.cons (WX.while_ (fun k σ => ∃ x y : Nat, k = y ∧ Nat.gcd x y = Nat.gcd a.natAbs b.natAbs ∧ x < 2 ^ 30 ∧ y < 2 ^ 30 ∧ σ = [V "top" (.int a), V "bottom" (.int b), V "a" (.int x), V "b" (.int y)]) b.natAbs ⟨a.natAbs, b.natAbs, rfl, rfl, ha, hb2, rfl⟩ ?_)
  intro k σ hh_
  refine wrapG fun W_ k_ => ?_
  refine xe2_5 hh_ fun x y e_1 hgg hx hy e_2 => ?_
  subst e_1
  subst e_2
  try clear hh_
  refine k_ ?_
  clear k_ W_
  refine ⟨_, by wtm_at "T", fun hb => ?_, fun hb => Then.next ?_⟩
  · have hk := of_decide_eq_true hb
    have hk : 0 < k := by exact oq232 hk
    wtm_at "V"
    refine WP.nil ⟨x % k, Nat.mod_lt _ hk, k, x % k, rfl, ?_, hy, Nat.lt_trans (Nat.mod_lt _ hk) hy, rfl⟩
    (refine rws hgg ?_; rewrite [Nat.gcd_comm k]; refine rws (Nat.gcd_rec ..) ?_; refine rwt (Nat.gcd_comm ..) ?_; with_reducible rfl)
  · have hk := of_decide_eq_false hb
    have hk : k = 0 := by exact oq234 hk
    subst hk
    rw [Nat.gcd_zero_right] at hgg
    subst hgg
    have n0 : ((Nat.gcd a.natAbs b.natAbs : Nat) : Int) ≠ 0 := by exact oq76 hg
    have n1 : ((Nat.gcd a.natAbs b.natAbs : Nat) : Int).natAbs < 1073741824 := nab hg1
    refine WP.cons (WX.if_ (by wtm_at "T") (fun hz => ?_) (fun hz => WP.nil (Then.next ?_)))
    · have hz := of_decide_eq_true hz
      rw [if_pos hz] at m1 m2
      wtm_at "V"
      refine WP.nil (Then.next ?_)
      refine WP.cons (WX.ret (EV.eq (EV.tup (ES.cons (EV.bin (by wtm_at "E") (by wtm_at "E") (OP.div n0 n1)) (ES.cons (EV.bin (by wtm_at "E") (by wtm_at "E") (OP.div n0 n1)) ES.nil rfl) rfl) (Nat.le_of_ble_eq_true rfl)) (by (refine rwt m1 ?_; refine rwt m2 ?_; with_reducible rfl))) (Then.ret rfl))
    · have hz := of_decide_eq_false hz
      rw [if_neg hz] at m1 m2
      refine WP.cons (WX.ret (EV.eq (EV.tup (ES.cons (EV.bin (by wtm_at "E") (by wtm_at "E") (OP.div n0 n1)) (ES.cons (EV.bin (by wtm_at "E") (by wtm_at "E") (OP.div n0 n1)) ES.nil rfl) rfl) (Nat.le_of_ble_eq_true rfl)) (by (refine rwt m1 ?_; refine rwt m2 ?_; with_reducible rfl))) (Then.ret rfl))

theorem fn_law_rational (wd : Nat) (a b : Int) (P : Int) (Q : Nat) (he : P * b = a * (Q : Int)) (hl : Low P Q) (hb : b ≠ 0) (hw : 1 ≤ wd) (hw2 : wd ≤ 1000) (ha : a.natAbs < 2 ^ 30) (hb2 : b.natAbs < 2 ^ 30) :
    FN (GG w p loose mg mb) 3 378 [.int a, .int b, .int wd] (RT wd P Q) := by
  refine FN.of ["top", "bottom", "w"] ["one", "other"] rfl rfl (len3 fun _ _ _ => rfl) rfl (by decide) rfl (fun L h₀ R₀ => ?_)
  simp only [mkVars, List.zip_cons_cons, List.zip_nil_right, List.map_cons, List.map_nil, List.cons_append, List.nil_append]
  have hg : 0 < Nat.gcd a.natAbs b.natAbs := Nat.gcd_pos_of_pos_right _ (by exact oq68 hb)
  refine xe0_2 (low_make (a := a) hb) fun l1 l2 => ?_
  refine xe0_2 (hl.same l1 hb he l2) fun q1 q2 => ?_
  have hP : P.natAbs < 2 ^ 64 := by (refine rwt q1 ?_; refine rwt (sgv_abs ..) ?_); exact Nat.lt_trans (div_lt' ha) (by decide)
  have hQ : Q < 2 ^ 64 := by (refine rwt q2 ?_); exact Nat.lt_trans (div_lt' hb2) (by decide)
  clear l1 l2 q1 q2
  wtm_at "V"
  wtm_at "V"
  rfl

theorem fn_continued (wd : Nat) (P : Int) (Q : Nat) (hQ0 : 0 < Q) (hw : 1 ≤ wd) (hw2 : wd ≤ 1000) (hP : P.natAbs + 1 < 2 ^ 14) (hQ : Q < 2 ^ 14) :
    FN (GG w p loose mg mb) 5 296 [RT wd P Q, .int wd, .fn 345] (.list ((cf P Q).map (SG wd))) := by
  refine FN.of ["x", "w", "divrem"] ["found", "top", "bottom", "whole", "rest"] rfl rfl (len3 fun _ _ _ => rfl) rfl (by decide) rfl (fun L h₀ R₀ => ?_)
  simp only [mkVars, List.zip_cons_cons, List.zip_nil_right, List.map_cons, List.map_nil, List.cons_append, List.nil_append]
  wtm_at "V"
  refine WP.cons (WX.while_ (fun k σ => ∃ (T : Int) (ds : List D) (s₁ s₂ : Sl), ds ++ (cf T k).map (SG wd) = (cf P Q).map (SG wd) ∧ T.natAbs < 2 ^ 20 ∧ k < 2 ^ 20 ∧ ds.length + k < 2 ^ 19 ∧ s₁.plain = true ∧ s₂.plain = true ∧
    σ = [V "x" (RT wd P Q), V "w" (.int wd), V "divrem" (.fn 345), O "found" ds, V "top" (SG wd T), V "bottom" (SG wd (k : Int)), (PySem.Str.ofString "whole", s₁), (PySem.Str.ofString "rest", s₂)]) Q ⟨P, [], _, _, rfl, by exact oq324 hP, by exact oq325 hQ, by simp only [List.length_nil]; exact oq326 hQ, rfl, rfl, rfl⟩ ?_)
  intro k σ hh_
  refine wrapG fun W_ k_ => ?_
  refine xe4_7 hh_ fun T ds s₁ s₂ hds hT hk hlen p₁ p₂ e_1 => ?_
  subst e_1
  try clear hh_
  refine k_ ?_
  clear k_ W_
  have hk1 : ((k : Int)).natAbs < 2 ^ 64 := nab (Nat.lt_trans hk (by decide))
  have hL : (dg (2 ^ wd) ((k : Int)).natAbs).length ≤ 64 := dg_len_small hw hk1
  have hT1 : T.natAbs < 2 ^ 64 := Nat.lt_trans hT (by decide)
  refine ⟨_, by wtm_at "T", fun hb => ?_, fun hb => Then.next ?_⟩
  · rw [len_pos hw] at hb
    have hk0 := of_decide_eq_true hb
    rw [Int.natAbs_natCast] at hk0
    have hk2 : (k : Int) ≠ 0 := by exact oq76 hk0
    have hr := fmod_toNat T hk0
    refine WP.cons (WX.unpack2 (by wtm_at "E") (.cons (.tail (.tail (.tail (.tail (.tail (.tail (.here p₁))))))) (.cons (.tail (.tail (.tail (.tail (.tail (.tail (.tail (.here p₂)))))))) .nil)) (Then.next ?_) rfl rfl rfl rfl rfl)
    wtm_at "V"
    wtm_at "V"
    refine WP.nil ⟨(T.fmod k).toNat, fmod_toNat_lt T hk0, k, ds ++ [SG wd (T.fdiv k)], _, _, ?_, by exact oq327 hk, Nat.lt_trans (fmod_toNat_lt T hk0) hk, ?_, ?_, ?_, by (refine rwt hr ?_; with_reducible rfl)⟩
    · (refine rws hds ?_; refine rwt (cf_pos T hk0) ?_); simp
    · have := fmod_toNat_lt T hk0
      simp only [List.length_append, List.length_cons, List.length_nil]; exact oq328 this hlen
    · rfl
    · rfl
  · rw [len_pos hw] at hb
    have hk0 := of_decide_eq_false hb
    rw [Int.natAbs_natCast] at hk0
    have hk0 : k = 0 := by exact oq316 hk0
    subst hk0
    rw [cf_zero, List.map_nil, List.append_nil] at hds
    subst hds
    wtm_at "Z"
    wtm_at "V"
    rfl
theorem drop_cons {α : Type} {l t : List α} {i : Nat} {a : α} (h : l.drop i = a :: t) : l[i]? = some a ∧ l.drop (i + 1) = t := by
  constructor
  · have : (l.drop i)[0]? = some a := by (refine rwt h ?_); rfl
    simpa using this
  · (refine rws List.drop_drop ?_; refine rwt h ?_); rfl
theorem drop_get {α : Type} {l : List α} {i : Nat} {a : α} (h : l[i]? = some a) : l.drop i = a :: l.drop (i + 1) := by
  refine xe1_1 (List.getElem?_eq_some_iff.mp h) fun hi e_1 => ?_
  subst e_1
  exact List.drop_eq_getElem_cons hi
theorem cf_len (b : Nat) : ∀ t : Int, (cf t b).length ≤ b := by
  induction b using Nat.strongRecOn with
  | _ b ih =>
    intro t
    rcases Nat.eq_zero_or_pos b with h | h
    · subst h; (refine rwt (cf_zero ..) ?_); exact Nat.le_refl _
    · (refine rwt (cf_pos t h) ?_; refine rwt List.length_cons ?_)
      have := ih _ (fmod_toNat_lt t h) b
      have := fmod_toNat_lt t h
      exact oq329 this (by assumption)
theorem SG1 {wd : Nat} (hw : 1 ≤ wd) : SG wd 1 = .tup [.bool false, .list [.int 1]] := by (rewrite [SG]; refine rwt (show (1 : Int).natAbs = 1 from rfl) ?_; refine rwt (LM1 hw) ?_); rfl
/-- a pair of convergents' parts -/
abbrev PR (wd : Nat) (h k : Int) : D := .tup [SG wd h, SG wd k]
/-- what one turn of the recurrence needs -/
theorem turn_small {p : Int} {q : Nat} {h0 k0 h1 k1 T : Int} {B : Nat} (i : Inv p q h0 k0 h1 k1 T B) (hB : 0 < B) (hp : p.natAbs + 1 < 2 ^ 20) (hq : q < 2 ^ 20) :
    (T.fdiv B).natAbs < 2 ^ 64 ∧ h1.natAbs < 2 ^ 64 ∧ k1.natAbs < 2 ^ 64 ∧ (T.fdiv B).natAbs * h1.natAbs < 2 ^ 64 ∧ (T.fdiv B).natAbs * k1.natAbs < 2 ^ 64 ∧ (T.fdiv B * h1).natAbs < 2 ^ 62 ∧ (T.fdiv B * k1).natAbs < 2 ^ 62 ∧ h0.natAbs < 2 ^ 62 ∧ k0.natAbs < 2 ^ 62 := by
  refine xe0_6 (i.small hp hq) fun a1 a2 a3 a4 a5 a6 => ?_
  have f := fdiv_abs_le T hB
  have m1 := mul_lt_40 (Nat.lt_of_le_of_lt f a5) a3
  have m2 := mul_lt_40 (Nat.lt_of_le_of_lt f a5) a4
  (refine rwt (Int.natAbs_mul ..) ?_; refine rwt (Int.natAbs_mul ..) ?_)
  refine ⟨by exact oq330 a5 f, by exact oq331 a3, by exact oq331 a4, by exact oq332 m1, by exact oq332 m2, by exact oq333 m1, by exact oq333 m2, by exact oq334 a1, by exact oq334 a2⟩
theorem fn_convergents (wd : Nat) (P : Int) (Q : Nat) (hQ0 : 0 < Q) (hw : 1 ≤ wd) (hw2 : wd ≤ 1000) (hP : P.natAbs + 1 < 2 ^ 14) (hQ : Q < 2 ^ 14) :
    FN (GG w p loose mg mb) 4 303 [.list ((cf P Q).map (SG wd)), .int wd, .fn 338] (.list ((cv 0 1 1 0 (cf P Q)).map fun r => RT wd r.1 r.2.natAbs)) := by
  refine FN.of ["terms", "w", "mul"] ["found", "before", "here", "term", "top", "bottom"] rfl rfl (len3 fun _ _ _ => rfl) rfl (by decide) rfl (fun L h₀ R₀ => ?_)
  simp only [mkVars, List.zip_cons_cons, List.zip_nil_right, List.map_cons, List.map_nil, List.cons_append, List.nil_append]
  wtm_at "V"
  wtm_at "V"
  refine WP.cons (WX.for_ (ITER.list (by wtm_at "E")) (fun i σ => ∃ (h0 k0 h1 k1 T : Int) (B : Nat) (ds : List D) (s₁ s₂ s₃ : Sl), Inv P Q h0 k0 h1 k1 T B ∧ (cf P Q).drop i = cf T B ∧
      ds ++ (cv h0 k0 h1 k1 (cf T B)).map (fun r => RT wd r.1 r.2.natAbs) = (cv 0 1 1 0 (cf P Q)).map (fun r => RT wd r.1 r.2.natAbs) ∧ ds.length = i ∧ s₁.plain = true ∧ s₂.plain = true ∧ s₃.plain = true ∧
      σ = [V "terms" (.list ((cf P Q).map (SG wd))), V "w" (.int wd), V "mul" (.fn 338), O "found" ds, V "before" (PR wd h0 k0), V "here" (PR wd h1 k1), (PySem.Str.ofString "term", s₁), (PySem.Str.ofString "top", s₂), (PySem.Str.ofString "bottom", s₃)])
      ⟨0, 1, 1, 0, P, Q, [], _, _, _, Inv.start P hQ0, rfl, rfl, rfl, rfl, rfl, rfl, by (rewrite [PR, PR]; refine rwt (SG0 ..) ?_; refine rwt (SG1 hw) ?_; with_reducible rfl)⟩ ?_ ?_)
  · intro i d σ hd hh_
    refine wrapG fun W_ k_ => ?_
    refine xe10_8 hh_ fun h0 k0 h1 k1 T B ds s₁ s₂ s₃ hI hdr hds hlen p₁ p₂ p₃ e_1 => ?_
    subst e_1
    try clear hh_
    refine k_ ?_
    clear k_ W_
    rw [List.getElem?_map] at hd
    have hB : 0 < B := by
      rcases Nat.eq_zero_or_pos B with h | h
      · subst h
        rw [cf_zero] at hdr
        have : (cf P Q)[i]? = none := by
          rw [List.drop_eq_nil_iff] at hdr
          exact List.getElem?_eq_none hdr
        rw [this] at hd; cases hd
      · exact h
    rw [cf_pos T hB] at hdr hds
    refine xe0_2 (drop_cons hdr) fun g1 g2 => ?_
    rw [g1] at hd
    cases hd
    have hiL : i < 1000000 := by
      have := cf_len Q P
      have : i < (cf P Q).length := (List.getElem?_eq_some_iff.mp g1).1
      exact oq335 hQ this (by assumption)
    have hlen' : ds.length ≤ 1000000 := by exact oq336 hlen hiL
    refine xe0_2 (hI.step hB) fun hI' hk' => ?_
    refine xe0_9 (turn_small hI hB (by exact oq337 hP) (by exact oq325 hQ)) fun b1 b2 b3 b4 b5 b6 b7 b8 b9 => ?_
    have hr := fmod_toNat T hB
    refine ⟨_, .tail (.tail (.tail (.tail (.tail (.tail (.here p₁)))))), ?_⟩
    refine WP.cons (WX.assign (d := SG wd (T.fdiv B * h1 + h0)) (by wtm_at "E") (.tail (.tail (.tail (.tail (.tail (.tail (.tail (.here p₂)))))))) (Then.next ?_))
    refine WP.cons (WX.assign (d := SG wd (T.fdiv B * k1 + k0)) (by wtm_at "E") (.tail (.tail (.tail (.tail (.tail (.tail (.tail (.tail (.here p₃))))))))) (Then.next ?_))
    wtm_at "V"
    wtm_at "V"
    refine WP.nil ⟨h1, k1, T.fdiv B * h1 + h0, T.fdiv B * k1 + k0, B, _, _, _, _, _, hI', g2, ?_, ?_, ?_, ?_, ?_, rfl⟩
    · (refine rws hds ?_; rewrite [cv]; refine rwt List.map_cons ?_; refine rwt (List.append_assoc ..) ?_); rfl
    · (refine rwt List.length_append ?_; refine rwt hlen ?_); rfl
    · rfl
    · rfl
    · rfl
  · intro σ hh_
    refine wrapG fun W_ k_ => ?_
    refine xe10_8 hh_ fun h0 k0 h1 k1 T B ds s₁ s₂ s₃ hI hdr hds hlen p₁ p₂ p₃ e_1 => ?_
    subst e_1
    try clear hh_
    refine k_ ?_
    clear k_ W_
    refine Then.next ?_
    rw [List.length_map, List.drop_length] at hdr
    rw [← hdr, cv, List.map_nil, List.append_nil] at hds
    subst hds
    wtm_at "Z"
    wtm_at "V"
    rfl
end

set_option maxRecDepth 100000
set_option maxHeartbeats 4000000
theorem low_bound {P m n : Int} {Q : Nat} (h : Low P Q) (hn : n ≠ 0) (e : P * n = m * Q) : P.natAbs ≤ m.natAbs ∧ Q ≤ n.natAbs := by
  refine xe0_2 (low_make (a := m) hn) fun l1 l2 => ?_
  refine xe0_2 (h.same l1 hn e l2) fun q1 q2 => ?_
  (refine rwt q1 ?_; refine rwt q2 ?_; refine rwt (sgv_abs ..) ?_)
  exact ⟨Nat.div_le_self .., Nat.div_le_self ..⟩
theorem cmpZ_mul {x y n : Int} (hn : 0 < n) : cmpZ (x * n) (y * n) = cmpZ x y := by
  have h1 : ∀ a b : Int, a * n < b * n ↔ a < b := fun a b => ⟨fun h => Int.lt_of_mul_lt_mul_right h (by exact oq62 hn), fun h => Int.mul_lt_mul_of_pos_right h hn⟩
  unfold cmpZ
  simp only [h1]
theorem natAbs_eq_of {P m n : Int} {Q : Nat} (hn : 0 < n) (e : P * n = m * Q) : (P.natAbs : Int) * n = (m.natAbs : Int) * Q := by
  have := congrArg Int.natAbs e
  rw [Int.natAbs_mul, Int.natAbs_mul, Int.natAbs_natCast] at this
  have e2 : ((n.natAbs : Nat) : Int) = n := by exact oq140 hn
  (refine rws e2 ?_; refine rws (Int.natCast_mul ..) ?_; refine rws (Int.natCast_mul ..) ?_; refine rwt this ?_; with_reducible rfl)
theorem cmp_dist {p q h k H K P₁ P₂ : Int} {Q₁ Q₂ : Nat} (q0 : 0 < q) (k0 : 0 < k) (K0 : 0 < K) (h1 : 0 < Q₁) (h2 : 0 < Q₂) (e1 : P₁ * (q * k) = (p * k - h * q) * (Q₁ : Int)) (e2 : P₂ * (q * K) = (p * K - H * q) * (Q₂ : Int)) :
    cmpZ ((P₁.natAbs : Int) * Q₂) ((P₂.natAbs : Int) * Q₁) = cmpZ (er p q h k * K) (er p q H K * k) := by
  have f1 := natAbs_eq_of (Int.mul_pos q0 k0) e1
  have f2 := natAbs_eq_of (Int.mul_pos q0 K0) e2
  have n1 : ((p * k - h * q).natAbs : Int) = er p q h k := by unfold er; rw [Int.mul_comm h]
  have n2 : ((p * K - H * q).natAbs : Int) = er p q H K := by unfold er; rw [Int.mul_comm H]
  rw [n1] at f1
  rw [n2] at f2
  generalize er p q h k = x at *
  generalize er p q H K = y at *
  (refine rws (cmpZ_mul (n := q * k * K) (Int.mul_pos (Int.mul_pos q0 k0) K0)) ?_; refine rws (cmpZ_mul (x := x * K) (n := (Q₁ : Int) * Q₂) (Int.mul_pos (by exact oq81 h1) (by exact oq81 h2))) ?_)
  have g1 : (P₁.natAbs : Int) * Q₂ * (q * k * K) = x * K * (Q₁ * Q₂) := by
    calc (P₁.natAbs : Int) * Q₂ * (q * k * K) = (P₁.natAbs : Int) * (q * k) * (Q₂ * K) := by grind
      _ = _ := by (refine rwt f1 ?_); grind
  have g2 : (P₂.natAbs : Int) * Q₁ * (q * k * K) = y * k * (Q₁ * Q₂) := by
    calc (P₂.natAbs : Int) * Q₁ * (q * k * K) = (P₂.natAbs : Int) * (q * K) * (Q₁ * k) := by grind
      _ = _ := by (refine rwt f2 ?_); grind
  (refine rwt g1 ?_; refine rwt g2 ?_; with_reducible rfl)
theorem mul_lt_28 {a b : Nat} (ha : a < 2 ^ 14) (hb : b < 2 ^ 14) : a * b < 2 ^ 28 := by
  calc a * b ≤ a * 2 ^ 14 := Nat.mul_le_mul_left _ (by exact oq338 hb)
    _ < 2 ^ 14 * 2 ^ 14 := Nat.mul_lt_mul_of_pos_right ha (by decide)
    _ = 2 ^ 28 := by decide
/-- the difference of two small fractions -/
theorem dist_ex {p h : Int} {q k : Nat} (hl : Low p q) (hl' : Low h k) (hp : p.natAbs < 2 ^ 14) (hq : q < 2 ^ 14) (hh : h.natAbs < 2 ^ 14) (hk : k < 2 ^ 14) :
    ∃ (P : Int) (Q : Nat), P * (q * k : Int) = (p * k - h * q) * (Q : Int) ∧ Low P Q ∧ P.natAbs < 2 ^ 30 ∧ Q < 2 ^ 30 := by
  have q0 := hl.pos
  have k0 := hl'.pos
  have hn : (q : Int) * k ≠ 0 := by have := Int.mul_pos (show (0 : Int) < q by exact oq81 q0) (show (0 : Int) < k by exact oq81 k0); exact oq339 this
  refine xe2_2 (low_ex (p * k - h * q) hn) fun P Q l e => ?_
  refine xe0_2 (low_bound l hn e) fun b1 b2 => ?_
  have c1 := mul_lt_28 hp hk
  have c2 := mul_lt_28 hh hq
  have c3 := mul_lt_28 hq hk
  have d1 : (p * k - h * q).natAbs ≤ p.natAbs * k + h.natAbs * q := by
    have := Int.natAbs_sub_le (p * k) (h * q)
    rwa [Int.natAbs_mul, Int.natAbs_mul, Int.natAbs_natCast, Int.natAbs_natCast] at this
  have d2 : ((q : Int) * k).natAbs = q * k := by (refine rwt (Int.natAbs_mul ..) ?_; refine rwt (Int.natAbs_natCast ..) ?_; refine rwt (Int.natAbs_natCast ..) ?_; with_reducible rfl)
  exact ⟨P, Q, e, l, by exact oq340 d1 b1 c1 c2, by exact oq341 d2 b2 c3⟩
section
variable {w : World} {p : Program} {loose : List Str} {mg mb : Str → Option Value}
theorem fn_nearer (wd : Nat) (x : Int) (q : Nat) (h : Int) (k : Nat) (H : Int) (K : Nat) (hl : Low x q) (hl1 : Low h k) (hl2 : Low H K) (hw : 1 ≤ wd) (hw2 : wd ≤ 1000) (hx : x.natAbs < 2 ^ 14) (hq : q < 2 ^ 14) (hh : h.natAbs < 2 ^ 14) (hk : k < 2 ^ 14) (hH : H.natAbs < 2 ^ 14) (hK : K < 2 ^ 14) :
    FN (GG w p loose mg mb) 6 317 [RT wd x q, RT wd h k, RT wd H K, .int wd, .fn 338, .fn 345] (if pick (er x q h k) k (er x q H K) K = true then RT wd h k else RT wd H K) := by
  refine FN.of ["x", "one", "other", "w", "mul", "divrem"] ["here", "there", "order"] rfl rfl (len6 fun _ _ _ _ _ _ => rfl) rfl (by decide) rfl (fun L h₀ R₀ => ?_)
  simp only [mkVars, List.zip_cons_cons, List.zip_nil_right, List.map_cons, List.map_nil, List.cons_append, List.nil_append]
  have q0 := hl.pos
  have k0 := hl1.pos
  have K0 := hl2.pos
  have z1 : x.natAbs < 2 ^ 30 := by exact oq342 hx
  have z2 : q < 2 ^ 30 := by exact oq343 hq
  have z3 : h.natAbs < 2 ^ 30 := by exact oq342 hh
  have z4 : k < 2 ^ 30 := by exact oq343 hk
  have z5 : H.natAbs < 2 ^ 30 := by exact oq342 hH
  have z6 : K < 2 ^ 30 := by exact oq343 hK
  have z7 : k < 2 ^ 64 := by exact oq344 hk
  have z8 : K < 2 ^ 64 := by exact oq344 hK
  refine xe2_4 (dist_ex hl hl1 hx hq hh hk) fun P₁ Q₁ a1 a2 a3 a4 => ?_
  refine xe2_4 (dist_ex hl hl2 hx hq hH hK) fun P₂ Q₂ b1 b2 b3 b4 => ?_
  have c := cmp_dist (by exact oq81 q0) (by exact oq81 k0) (by exact oq81 K0) a2.pos b2.pos a1 b1
  have n1 : ((P₁.natAbs : Int)).natAbs < 2 ^ 30 := nab a3
  have n2 : ((P₂.natAbs : Int)).natAbs < 2 ^ 30 := nab b3
  refine WP.cons (WX.assign (d := RT wd (P₁.natAbs : Int) Q₁) (EV.callN (by wtm_at "E") (ES.cons (EV.callN (by wtm_at "E") (by wtm_at "S") (fn_r_sub wd _ _ _ _ P₁ Q₁ a1 hl hl1 a2 hw hw2 z1 z2 z3 z4) (by decide) rfl) ES.nil rfl) (fn_r_abs _ _ _) (by decide) rfl) (by wtm_at "u") (Then.next ?_) rfl rfl rfl)
  refine WP.cons (WX.assign (d := RT wd (P₂.natAbs : Int) Q₂) (EV.callN (by wtm_at "E") (ES.cons (EV.callN (by wtm_at "E") (by wtm_at "S") (fn_r_sub wd _ _ _ _ P₂ Q₂ b1 hl hl2 b2 hw hw2 z1 z2 z5 z6) (by decide) rfl) ES.nil rfl) (fn_r_abs _ _ _) (by decide) rfl) (by wtm_at "u") (Then.next ?_) rfl rfl rfl)
  wtm_at "V"
  (refine rwt c ?_)
  generalize er x q h k = X at *
  generalize er x q H K = Y at *
  rcases (show X * K < Y * k ∨ X * K = Y * k ∨ Y * k < X * K by exact oq345) with t | t | t
  · have c1 : cmpZ (X * K) (Y * k) = -1 := by (rewrite [cmpZ]; refine rwt (if_pos t) ?_; with_reducible rfl)
    (refine rwt c1 ?_)
    refine WP.cons (WX.if_ (by wtm_at "T") (fun hz => absurd hz (by decide)) (fun hz => WP.nil (Then.next ?_)))
    wtm_at "V"
    (rewrite [pick]; refine rwt (decide_eq_true t) ?_)
    rfl
  · have c1 : cmpZ (X * K) (Y * k) = 0 := by (rewrite [cmpZ]; refine rwt (if_neg (by exact oq346 t)) ?_; refine rwt (if_neg (by exact oq347 t)) ?_; with_reducible rfl)
    (refine rwt c1 ?_)
    refine WP.cons (WX.if_ (by wtm_at "T") (fun hz => ?_) (fun hz => absurd hz (by decide)))
    wtm_at "V"
    have pk : pick X k Y K = decide ((k : Int) ≤ K) := by unfold pick; (refine rwt (decide_eq_false (show ¬ X * K < Y * k by exact oq346 t)) ?_; refine rwt (decide_eq_true t) ?_; refine rwt (Bool.false_or ..) ?_; refine rwt (Bool.true_and ..) ?_; with_reducible rfl)
    (refine rwt pk ?_)
    by_cases hkK : k ≤ K
    · have : cmpI k K ≤ 0 := by unfold cmpI; split <;> (try split) <;> (first | exact oq348 | exact (oq349 hkK (by assumption)).elim | exact oq350)
      (refine rwt (decide_eq_true this) ?_; refine rwt (decide_eq_true (show (k : Int) ≤ K by exact oq351 hkK)) ?_; with_reducible rfl)
    · have : ¬ cmpI k K ≤ 0 := by unfold cmpI; split <;> (try split) <;> (first | exact (oq352 hkK (by assumption)).elim | exact oq353 | exact (oq354 hkK (by assumption)).elim)
      (refine rwt (decide_eq_false this) ?_; refine rwt (decide_eq_false (show ¬ (k : Int) ≤ K by exact oq355 hkK)) ?_; with_reducible rfl)
  · have c1 : cmpZ (X * K) (Y * k) = 1 := by (rewrite [cmpZ]; refine rwt (if_neg (by exact oq356 t)) ?_; refine rwt (if_pos t) ?_; with_reducible rfl)
    (refine rwt c1 ?_)
    refine WP.cons (WX.if_ (by wtm_at "T") (fun hz => absurd hz (by decide)) (fun hz => WP.nil (Then.next ?_)))
    wtm_at "V"
    (rewrite [pick]; refine rwt (decide_eq_false (show ¬ X * K < Y * k by exact oq356 t)) ?_; refine rwt (decide_eq_false (show ¬ X * K = Y * k by exact oq357 t)) ?_)
    rfl

theorem fn_nearest (wd : Nat) (x : Int) (q N : Nat) (P Q : Int) (hb : Best x q N P Q) (hl : Low x q) (hN : 1 ≤ N) (hN2 : N < 2 ^ 14) (hw : 1 ≤ wd) (hw2 : wd ≤ 1000) (hx : x.natAbs + 2 < 2 ^ 13) (hq : q < 2 ^ 13) :
    FN (GG w p loose mg mb) 7 310 [RT wd x q, LM wd N, .int wd, .fn 338, .fn 345] (RT wd P Q.natAbs) := by
  refine FN.of ["x", "bound", "w", "mul", "divrem"] ["before", "here", "term", "bottom", "top", "many"] rfl rfl (len5 fun _ _ _ _ _ => rfl) rfl (by decide) rfl (fun L h₀ R₀ => ?_)
  simp only [mkVars, List.zip_cons_cons, List.zip_nil_right, List.map_cons, List.map_nil, List.cons_append, List.nil_append]
  have q0 := hl.pos
  have z1 : q < 2 ^ 64 := by exact oq358 hq
  have z2 : N < 2 ^ 64 := by exact oq344 hN2
  have z3 : x.natAbs + 1 < 2 ^ 14 := by exact oq359 hx
  have z4 : q < 2 ^ 14 := by exact oq360 hq
  refine WP.cons (WX.if_ (by wtm_at "T") (fun hz => ?_) (fun hz => WP.nil (Then.next ?_)))
  · have hz := of_decide_eq_true hz
    have hqN : q ≤ N := by unfold cmpI at hz; split at hz <;> (try split at hz) <;> (first | exact oq39 (by assumption) | exact (oq361 hz).elim | exact oq209 (by assumption))
    refine xe0_2 (hb.uniq (best_self hl (by exact oq351 hqN))) fun e1 e2 => ?_
    wtm_at "V"
    (refine rwt e1 ?_; refine rwt e2 ?_; refine rwt (Int.natAbs_natCast ..) ?_; with_reducible rfl)
  · have hz := of_decide_eq_false hz
    have hqN : N < q := by unfold cmpI at hz; split at hz <;> (try split at hz) <;> (first | exact (oq362 hz).elim | exact oq278 (by assumption) | exact (oq363 hz).elim)
    wtm_at "V"
    refine WP.cons (WX.for_ (ITER.list (by wtm_at "E")) (fun i σ => ∃ (h0 k0 h1 k1 T : Int) (B : Nat) (s₁ s₂ s₃ : Sl), Inv x q h0 k0 h1 k1 T B ∧ (cf x q).drop i = cf T B ∧ k1 ≤ N ∧
      s₁.plain = true ∧ s₂.plain = true ∧ s₃.plain = true ∧
      σ = [V "x" (RT wd x q), V "bound" (LM wd N), V "w" (.int wd), V "mul" (.fn 338), V "divrem" (.fn 345), V "before" (PR wd h0 k0), V "here" (PR wd h1 k1), (PySem.Str.ofString "term", s₁), (PySem.Str.ofString "bottom", s₂), (PySem.Str.ofString "top", s₃), U "many"])
      ⟨0, 1, 1, 0, x, q, _, _, _, Inv.start x q0, rfl, by exact oq83, rfl, rfl, rfl, by (rewrite [PR, PR]; refine rwt (SG0 ..) ?_; refine rwt (SG1 hw) ?_; with_reducible rfl)⟩ ?_ ?_)
    · intro i d σ hd hh_
      refine wrapG fun W_ k_ => ?_
      refine xe9_7 hh_ fun h0 k0 h1 k1 T B s₁ s₂ s₃ hI hdr hkN p₁ p₂ p₃ e_1 => ?_
      subst e_1
      try clear hh_
      refine k_ ?_
      clear k_ W_
      rw [List.getElem?_map] at hd
      have hB : 0 < B := by
        rcases Nat.eq_zero_or_pos B with h | h
        · subst h
          rw [cf_zero] at hdr
          have : (cf x q)[i]? = none := by
            rw [List.drop_eq_nil_iff] at hdr
            exact List.getElem?_eq_none hdr
          rw [this] at hd; cases hd
        · exact h
      rw [cf_pos T hB] at hdr
      refine xe0_2 (drop_cons hdr) fun g1 g2 => ?_
      rw [g1] at hd
      cases hd
      refine xe0_2 (hI.step hB) fun hI' hk' => ?_
      refine xe0_9 (turn_small hI hB (by exact oq364 hx) (by exact oq365 hq)) fun b1 b2 b3 b4 b5 b6 b7 b8 b9 => ?_
      have hr := fmod_toNat T hB
      have bk : (T.fdiv B * k1 + k0).natAbs < 2 ^ 64 := by have := Int.natAbs_add_le (T.fdiv B * k1) k0; exact oq366 b7 b9
      refine ⟨_, .tail (.tail (.tail (.tail (.tail (.tail (.tail (.here p₁))))))), ?_⟩
      refine WP.cons (WX.assign (d := SG wd (T.fdiv B * k1 + k0)) (by wtm_at "E") (.tail (.tail (.tail (.tail (.tail (.tail (.tail (.tail (.here p₂))))))))) (Then.next ?_))
      refine WP.cons (WX.if_ (by wtm_at "T") (fun hz => ?_) (fun hz => WP.nil (Then.next ?_)))
      · have hz := of_decide_eq_true hz
        have hgt : (N : Int) < T.fdiv B * k1 + k0 := by unfold cmpI at hz; split at hz <;> (try split at hz) <;> (first | exact (oq367 hz).elim | exact oq368 hk' (by assumption) | exact (oq305 hz).elim)
        have hk1 : 1 ≤ k1 := by
          rcases hI.st with ⟨_, x2, _, x4, _, _⟩ | ⟨x1, _⟩
          · rw [x2, x4, Int.mul_zero] at hgt; exact (oq369 hgt hN).elim
          · exact x1
        refine xe0_9 (hI.nearest hB hk1 hkN hgt) fun m0 m1 K1 KN hlow er1 er2 w1 w2 => ?_
        refine xe0_6 (hI.small (by exact oq364 hx) (by exact oq365 hq)) fun t1 t2 t3 t4 t5 t6 => ?_
        have hlow1 := hI.low hk1
        generalize hm : ((N : Int) - k0).fdiv k1 = m at *
        have u1 : ((N : Int)).natAbs < 2 ^ 62 := nab (by exact oq370 hN2)
        have u2 : ((N : Int) - k0).natAbs < 2 ^ 60 := by exact oq371 t2 hN2
        have u3 : k1.natAbs < 2 ^ 60 := by exact oq372 t4
        have u4 : k1 ≠ 0 := by exact oq167 hk1
        have v1 : m.natAbs < 2 ^ 20 := by exact oq373 m0 hN2 m1
        have v2 := mul_lt_40 v1 t3
        have v3 := mul_lt_40 v1 t4
        have v4 : m.natAbs < 2 ^ 64 := by exact oq374 m0 u1 m1
        have v5 : m.natAbs * h1.natAbs < 2 ^ 64 := by exact oq332 v2
        have v6 : m.natAbs * k1.natAbs < 2 ^ 64 := by exact oq332 v3
        have v7 : (m * h1).natAbs < 2 ^ 62 := by (refine rwt (Int.natAbs_mul ..) ?_); exact oq333 v2
        have v8 : (m * k1).natAbs < 2 ^ 62 := by (refine rwt (Int.natAbs_mul ..) ?_); exact oq333 v3
        have s1 : h1.natAbs < 2 ^ 14 := by have := h_small q0 (by exact oq95 hk1) (by exact oq375 hqN hkN) er1; exact oq376 hx this
        have s2 : (m * h1 + h0).natAbs < 2 ^ 14 := by have := h_small q0 (by exact oq377 K1) (by exact oq378 KN hqN) er2; exact oq379 hx this
        have s3 : k1.natAbs < 2 ^ 14 := by exact oq380 hk1 hqN z4 hkN
        have s4 : (m * k1 + k0).natAbs < 2 ^ 14 := by exact oq381 K1 KN hN2
        have s5 : x.natAbs < 2 ^ 14 := by exact oq382 hx
        refine WP.cons (WX.brk (Then.brk (Then.brk (Then.next ?_))))
        refine WP.cons (WX.assign (d := SG wd m) (EV.eq (by wtm_at "E") (by (refine rwt hm ?_; with_reducible rfl))) (by wtm_at "u") (Then.next ?_) rfl rfl rfl)
        refine WP.cons (WX.assign (d := SG wd (m * h1 + h0)) (by wtm_at "E") (.tail (.tail (.tail (.tail (.tail (.tail (.tail (.tail (.tail (.here p₃)))))))))) (Then.next ?_))
        wtm_at "V"
        wtm_at "V"
        have c1 : ((k1.natAbs : Nat) : Int) = k1 := by exact oq383 hk1
        have c2 : (((m * k1 + k0).natAbs : Nat) : Int) = m * k1 + k0 := by exact oq384 K1
        (refine rwt c1 ?_; refine rwt c2 ?_)
        by_cases hp : pick (er x q h1 k1) k1 (er x q (m * h1 + h0) (m * k1 + k0)) (m * k1 + k0) = true
        · (refine rwt (if_pos hp) ?_)
          refine xe0_2 (hb.uniq (w1 hp)) fun e1 e2 => ?_
          (refine rwt e1 ?_; refine rwt e2 ?_; with_reducible rfl)
        · (refine rwt (if_neg hp) ?_)
          refine xe0_2 (hb.uniq (w2 (by simpa using hp))) fun e1 e2 => ?_
          (refine rwt e1 ?_; refine rwt e2 ?_; with_reducible rfl)
      · have hz := of_decide_eq_false hz
        have hle : T.fdiv B * k1 + k0 ≤ N := by unfold cmpI at hz; split at hz <;> (try split at hz) <;> (first | exact oq385 (by assumption) | exact (oq386 hz).elim | exact oq387 (by assumption))
        refine WP.cons (WX.assign (d := SG wd (T.fdiv B * h1 + h0)) (by wtm_at "E") (.tail (.tail (.tail (.tail (.tail (.tail (.tail (.tail (.tail (.here p₃)))))))))) (Then.next ?_))
        wtm_at "V"
        refine WP.nil ⟨h1, k1, _, _, B, _, _, _, _, hI', g2, hle, ?_, ?_, ?_, rfl⟩ <;> rfl
    · intro σ hh_
      refine wrapG fun W_ k_ => ?_
      refine xe9_7 hh_ fun h0 k0 h1 k1 T B s₁ s₂ s₃ hI hdr hkN p₁ p₂ p₃ e_1 => ?_
      subst e_1
      try clear hh_
      refine k_ ?_
      clear k_ W_
      rw [List.length_map, List.drop_length] at hdr
      exfalso
      rcases Nat.eq_zero_or_pos B with h | h
      · subst h
        have := (hI.last hl).2
        exact oq388 hqN this hkN
      · rw [cf_pos T h] at hdr; cases hdr
end

set_option maxRecDepth 100000
set_option maxHeartbeats 4000000
theorem okN (xs : List Nat) : nofnAll (N' xs) = true ∧ depAll (N' xs) = 0 := by
  have := ok_ints (xs.map fun n : Nat => (n : Int))
  rwa [List.map_map] at this
theorem okD_RT (wd : Nat) (P : Int) (Q : Nat) : okD (RT wd P Q) = true := by
  unfold okD
  refine xe0_2 (okN (dg (2 ^ wd) P.natAbs)) fun h1 h2 => ?_
  refine xe0_2 (okN (dg (2 ^ wd) Q)) fun h3 h4 => ?_
  simp only [nofn, nofnAll, dep, depAll, h1, h2, h3, h4]
  rfl
theorem beats_lt {X Y Z v q q' : Int} (hv : 0 < v) (hq : 0 < q) (hq' : 0 < q') (h1 : X * v < Y * q) (h2 : Y * q' ≤ Z * v) : X * q' < Z * q := by
  have a := Int.mul_lt_mul_of_pos_right h1 hq'
  have b := Int.mul_le_mul_of_nonneg_right h2 (show 0 ≤ q by exact oq62 hq)
  have e1 : X * v * q' = X * q' * v := by grind
  have e2 : Y * q * q' = Y * q' * q := by grind
  have e3 : Z * v * q = Z * q * v := by grind
  exact Int.lt_of_mul_lt_mul_right (show X * q' * v < Z * q * v by exact oq389 e3 a e1 e2 b) (show 0 ≤ v by exact oq62 hv)
theorem er_nn (p q u v : Int) : 0 ≤ er p q u v := Int.natCast_nonneg _
/-- the brute search's candidates -/
def cand (p : Int) (q : Nat) (i j : Nat) (p' q' : Int) : Prop :=
  (1 ≤ q' ∧ q' ≤ i ∧ (p' = (p * q').fdiv q ∨ p' = (p * q').fdiv q + 1)) ∨ (q' = i + 1 ∧ ((0 < j ∧ p' = (p * q').fdiv q) ∨ (1 < j ∧ p' = (p * q').fdiv q + 1)))
/-- the best so far -/
def Sofar (p : Int) (q : Nat) (S : Int → Int → Prop) (d : D) : Prop :=
  (d = .none ∧ ∀ p' q', ¬ S p' q') ∨ ∃ u v : Int, S u v ∧ 1 ≤ v ∧ d = .tup [.tup [.int (er p q u v), .int v], .int u] ∧ ∀ p' q', S p' q' → Beats p q u v p' q'
theorem Sofar.first {p : Int} {q : Nat} {S : Int → Int → Prop} {p1 q1 : Int} (h : ∀ p' q', ¬ S p' q') (h1 : 1 ≤ q1) : Sofar p q (fun p' q' => S p' q' ∨ (p' = p1 ∧ q' = q1)) (.tup [.tup [.int (er p q p1 q1), .int q1], .int p1]) := by
  refine .inr ⟨p1, q1, .inr ⟨rfl, rfl⟩, h1, rfl, ?_⟩
  rintro p' q' (x | ⟨rfl, rfl⟩)
  · exact absurd x (h _ _)
  · exact .inr ⟨rfl, .inr ⟨rfl, Int.le_refl _⟩⟩
theorem Sofar.new {p : Int} {q : Nat} {S : Int → Int → Prop} {p1 q1 u v : Int} (hv : 1 ≤ v) (hall : ∀ p' q', S p' q' → Beats p q u v p' q') (hpos : ∀ p' q', S p' q' → 1 ≤ q') (h1 : 1 ≤ q1) (hlt : er p q p1 q1 * v < er p q u v * q1) :
    Sofar p q (fun p' q' => S p' q' ∨ (p' = p1 ∧ q' = q1)) (.tup [.tup [.int (er p q p1 q1), .int q1], .int p1]) := by
  refine .inr ⟨p1, q1, .inr ⟨rfl, rfl⟩, h1, rfl, ?_⟩
  rintro p' q' (x | ⟨rfl, rfl⟩)
  · have b := hall p' q' x
    have := hpos p' q' x
    refine .inl (beats_lt (Y := er p q u v) (v := v) (by exact oq153 hv) (by exact oq153 h1) (by exact oq153 this) hlt ?_)
    rcases b with b | ⟨b, _⟩ <;> (first | exact oq390 b | exact oq161 b)
  · exact .inr ⟨rfl, .inr ⟨rfl, Int.le_refl _⟩⟩
theorem Sofar.old {p : Int} {q : Nat} {S : Int → Int → Prop} {p1 q1 u v : Int} (hS : S u v) (hv : 1 ≤ v) (hall : ∀ p' q', S p' q' → Beats p q u v p' q') (hord : ∀ p' q', S p' q' → q' < q1 ∨ (q' = q1 ∧ p' ≤ p1)) (hlt : ¬ er p q p1 q1 * v < er p q u v * q1) :
    Sofar p q (fun p' q' => S p' q' ∨ (p' = p1 ∧ q' = q1)) (.tup [.tup [.int (er p q u v), .int v], .int u]) := by
  refine .inr ⟨u, v, .inl hS, hv, rfl, ?_⟩
  rintro p' q' (x | ⟨rfl, rfl⟩)
  · exact hall p' q' x
  · have := hord u v hS
    unfold Beats
    exact oq391 this hlt
theorem Sofar.iff {p : Int} {q : Nat} {S S' : Int → Int → Prop} {d : D} (h : Sofar p q S d) (hs : ∀ p' q', S p' q' ↔ S' p' q') : Sofar p q S' d := by
  have : S = S' := by funext p' q'; exact propext (hs p' q')
  rwa [this] at h
theorem cand_le {p : Int} {q : Nat} (hq : 0 < q) {i j : Nat} {u v : Int} (h : cand p q i j u v) : er p q u v ≤ q ∧ 1 ≤ v ∧ v ≤ i + 1 := by
  have key : ∀ v : Int, er p q ((p * v).fdiv q) v ≤ q ∧ er p q ((p * v).fdiv q + 1) v ≤ q := fun v => by
    have e := Int.mul_fdiv_add_fmod (p * v) q
    have r0 := fmod_nonneg' (p * v) hq
    have r1 := fmod_lt' (p * v) hq
    unfold er
    (refine rwt (Int.mul_add ..) ?_)
    constructor <;> (first | exact oq392 r0 e r1 | exact oq393 r0 e r1)
  rcases h with ⟨h1, h2, rfl | rfl⟩ | ⟨rfl, ⟨_, rfl⟩ | ⟨_, rfl⟩⟩
  · exact ⟨(key _).1, h1, by exact oq394 h2⟩
  · exact ⟨(key _).2, h1, by exact oq394 h2⟩
  · exact ⟨(key _).1, by exact oq395, by exact oq396⟩
  · exact ⟨(key _).2, by exact oq395, by exact oq396⟩
theorem best_of_brute {p : Int} {q N : Nat} (hq : 0 < q) {u v : Int} (hv : 1 ≤ v) (hvN : v ≤ N) (hall : ∀ p' q', cand p q N 0 p' q' → Beats p q u v p' q') : Best p q N u v := by
  refine ⟨hv, hvN, fun u' v' h1 h2 => ?_⟩
  have b0 := hall ((p * v').fdiv q) v' (.inl ⟨h1, h2, .inl rfl⟩)
  have b1 := hall ((p * v').fdiv q + 1) v' (.inl ⟨h1, h2, .inr rfl⟩)
  have e := Int.mul_fdiv_add_fmod (p * v') q
  have r0 := fmod_nonneg' (p * v') hq
  have r1 := fmod_lt' (p * v') hq
  generalize hf : (p * v').fdiv q = f at *
  generalize (p * v').fmod q = r at *
  have fin : ∀ w, w ≠ u' → er p q w v' < er p q u' v' → Beats p q u v w v' → Beats p q u v u' v' := fun w hw hlt hb => by
    have := Int.mul_lt_mul_of_pos_right hlt (show 0 < v by exact oq153 hv)
    unfold Beats at hb ⊢
    left
    rcases hb with hb | ⟨hb, _⟩ <;> (first | exact oq397 this hb | exact oq398 this hb)
  rcases (show u' < f ∨ u' = f ∨ u' = f + 1 ∨ f + 1 < u' by exact oq399) with h | h | h | h
  · refine fin f (by exact oq400 h) ?_ b0
    obtain ⟨k, hk⟩ : ∃ k : Int, u' = f - k - 1 ∧ 0 ≤ k := ⟨f - u' - 1, by exact oq401, by exact oq402 h⟩
    have := Int.mul_nonneg (show (0 : Int) ≤ q by exact oq83) hk.2
    have e2 : (q : Int) * u' = q * f - q * k - q := by (refine rwt hk.1 ?_); grind
    unfold er
    exact oq403 this r0 e e2 r1
  · (refine rwt h ?_); exact b0
  · (refine rwt h ?_); exact b1
  · refine fin (f + 1) (by exact oq404 h) ?_ b1
    obtain ⟨k, hk⟩ : ∃ k : Int, u' = f + 2 + k ∧ 0 ≤ k := ⟨u' - f - 2, by exact oq405, by exact oq406 h⟩
    have := Int.mul_nonneg (show (0 : Int) ≤ q by exact oq83) hk.2
    have e2 : (q : Int) * u' = q * f + q + q + q * k := by (refine rwt hk.1 ?_); grind
    unfold er
    (refine rwt (Int.mul_add ..) ?_)
    exact oq407 this hq e e2 r1
section
variable {w : World} {p : Program} {loose : List Str} {mg mb : Str → Option Value}
theorem fn_law_nearest_right (wd : Nat) (a b : Int) (N : Nat) (x : Int) (q : Nat) (he : x * b = a * (q : Int)) (hl : Low x q) (hb : b ≠ 0) (hN : 1 ≤ N) (hN2 : N < 2 ^ 10) (hw : 1 ≤ wd) (hw2 : wd ≤ 1000) (ha : a.natAbs < 2 ^ 12) (hb2 : b.natAbs < 2 ^ 12) :
    FN (GG w p loose mg mb) 8 411 [.int a, .int b, .int N, .int wd] (.bool true) := by
  refine FN.of ["a", "b", "bound", "w"] ["top", "bottom", "best", "q", "p", "far", "told"] rfl rfl (len4 fun _ _ _ _ => rfl) rfl (by decide) rfl (fun L h₀ R₀ => ?_)
  simp only [mkVars, List.zip_cons_cons, List.zip_nil_right, List.map_cons, List.map_nil, List.cons_append, List.nil_append]
  have q0 := hl.pos
  refine xe0_2 (low_bound hl hb he) fun lb1 lb2 => ?_
  have z1 : a.natAbs < 2 ^ 30 := by exact oq408 ha
  have z2 : b.natAbs < 2 ^ 30 := by exact oq408 hb2
  have z3 : x.natAbs < 2 ^ 64 := by exact oq409 z1 lb1
  have z4 : (q : Int) ≠ 0 := by exact oq76 q0
  have z5 : ((q : Int)).natAbs < 1073741824 := nab (by exact oq410 z2 lb2)
  wtm_at "V"
  wtm_at "V"
  refine WP.cons (WX.for_ (ITER.range2 (by wtm_at "E") (by wtm_at "E") (by exact oq411) (by exact oq412) (by exact oq413 hN2) (by exact oq414) rfl) (fun i σ => ∃ (d : D) (s₁ s₂ s₃ : Sl), Sofar x q (cand x q i 0) d ∧ s₁.plain = true ∧ s₂.plain = true ∧ s₃.plain = true ∧
    σ = [V "a" (.int a), V "b" (.int b), V "bound" (.int N), V "w" (.int wd), V "top" (.int x), V "bottom" (.int (q : Int)), V "best" d, (PySem.Str.ofString "q", s₁), (PySem.Str.ofString "p", s₂), (PySem.Str.ofString "far", s₃), U "told"])
    ⟨_, _, _, _, .inl ⟨rfl, by rintro p' q' (⟨h1, h2, _⟩ | ⟨_, ⟨h, _⟩ | ⟨h, _⟩⟩) <;> (first | exact oq415 h1 h2 | exact oq416 h | exact oq417 h)⟩, rfl, rfl, rfl, rfl⟩ ?_ ?_)
  · intro i dd σ hdd hh_
    refine wrapG fun W_ k_ => ?_
    refine xe4_5 hh_ fun d s₁ s₂ s₃ hS p₁ p₂ p₃ e_1 => ?_
    subst e_1
    try clear hh_
    refine k_ ?_
    clear k_ W_
    refine xe0_2 (upI_get hdd) fun e_1 hi => ?_
    subst e_1
    have hi' : i < N := by exact oq418 hi
    refine ⟨_, .tail (.tail (.tail (.tail (.tail (.tail (.tail (.here p₁))))))), ?_⟩
    have hq1 : (1 : Int) + (i : Int) = ((i + 1 : Nat) : Int) := by exact oq419
    (refine rwt hq1 ?_)
    refine WP.cons (WX.for_ (ITER.tup (EV.tup (ES.cons (EV.bin (by wtm_at "E") (by wtm_at "E") (OP.div z4 z5)) (ES.cons (EV.bin (EV.bin (by wtm_at "E") (by wtm_at "E") (OP.div z4 z5)) (by wtm_at "E") (by wtm_at "O")) ES.nil rfl) rfl) (Nat.le_of_ble_eq_true rfl))) (fun j σ => ∃ (d : D) (s₂ s₃ : Sl), j ≤ 2 ∧ Sofar x q (cand x q i j) d ∧ s₂.plain = true ∧ s₃.plain = true ∧
      σ = [V "a" (.int a), V "b" (.int b), V "bound" (.int N), V "w" (.int wd), V "top" (.int x), V "bottom" (.int (q : Int)), V "best" d, V "q" (.int ((i + 1 : Nat) : Int)), (PySem.Str.ofString "p", s₂), (PySem.Str.ofString "far", s₃), U "told"])
      ⟨_, _, _, by exact oq420, hS, p₂, p₃, rfl⟩ ?_ ?_)
    · intro j dd σ hdd' hh_
      refine wrapG fun W_ k_ => ?_
      refine xe3_5 hh_ fun d s₂ s₃ hj hS p₂ p₃ e_1 => ?_
      subst e_1
      try clear hh_
      refine k_ ?_
      clear k_ W_
      obtain ⟨p1, rfl, hp1, hj'⟩ : ∃ p1 : Int, dd = .int p1 ∧ p1 = (x * ((i + 1 : Nat) : Int)).fdiv q + j ∧ j < 2 := by
        rcases (show j = 0 ∨ j = 1 ∨ j = 2 by exact oq421 hj) with rfl | rfl | rfl
        · cases hdd'; exact ⟨_, rfl, by exact oq422, by exact oq423⟩
        · cases hdd'; exact ⟨_, rfl, by exact oq424, by exact oq425⟩
        · cases hdd'
      have hcand : cand x q i 2 p1 ((i + 1 : Nat) : Int) := .inr ⟨by exact oq426, by
        rcases (show j = 0 ∨ j = 1 by exact oq427 hj') with rfl | rfl
        · exact .inl ⟨by exact oq423, by exact oq428 hp1⟩
        · exact .inr ⟨by exact oq425, by exact oq429 hp1⟩⟩
      refine xe0_3 (cand_le q0 hcand) fun c1 _ _ => ?_
      have hstep : ∀ p' q', (cand x q i j p' q' ∨ (p' = p1 ∧ q' = ((i + 1 : Nat) : Int))) ↔ cand x q i (j + 1) p' q' := by
        intro p' q'
        unfold cand
        rcases (show j = 0 ∨ j = 1 by exact oq427 hj') with rfl | rfl
        · constructor
          · rintro ((h | ⟨_, ⟨h, _⟩ | ⟨h, _⟩⟩) | ⟨rfl, rfl⟩)
            · exact .inl h
            · exact (oq416 h).elim
            · exact (oq417 h).elim
            · exact .inr ⟨by exact oq426, .inl ⟨by exact oq430, by exact oq428 hp1⟩⟩
          · rintro (h | ⟨rfl, ⟨_, rfl⟩ | ⟨h, _⟩⟩)
            · exact .inl (.inl h)
            · exact .inr ⟨by (refine rwt hp1 ?_); (refine rwt (show ((i + 1 : Nat) : Int) = (i : Int) + 1 by exact oq426) ?_); exact oq422, by exact oq431⟩
            · exact (oq432 h).elim
        · constructor
          · rintro ((h | ⟨e, ⟨h, h'⟩ | ⟨h, _⟩⟩) | ⟨rfl, rfl⟩)
            · exact .inl h
            · exact .inr ⟨e, .inl ⟨by exact oq433, h'⟩⟩
            · exact (oq434 h).elim
            · exact .inr ⟨by exact oq426, .inr ⟨by exact oq435, by exact oq429 hp1⟩⟩
          · rintro (h | ⟨rfl, ⟨_, rfl⟩ | ⟨_, rfl⟩⟩)
            · exact .inl (.inl h)
            · exact .inl (.inr ⟨rfl, .inl ⟨by exact oq436, rfl⟩⟩)
            · exact .inr ⟨by (refine rwt hp1 ?_); (refine rwt (show ((i + 1 : Nat) : Int) = (i : Int) + 1 by exact oq426) ?_); exact oq424, by exact oq431⟩
      have hord : ∀ p' q', cand x q i j p' q' → 1 ≤ q' ∧ (q' < ((i + 1 : Nat) : Int) ∨ (q' = ((i + 1 : Nat) : Int) ∧ p' ≤ p1)) := by
        rintro p' q' (⟨h1, h2, _⟩ | ⟨rfl, ⟨_, rfl⟩ | ⟨h, _⟩⟩)
        · exact oq437 h1 h2
        · refine ⟨by exact oq395, .inr ⟨by exact oq431, ?_⟩⟩
          (refine rwt hp1 ?_; refine rwt (show ((i + 1 : Nat) : Int) = (i : Int) + 1 by exact oq426) ?_); exact oq438
        · exact (oq439 h hj').elim
      have fb := fdiv_abs_le (x * ((i + 1 : Nat) : Int)) q0
      have mb : (x * ((i + 1 : Nat) : Int)).natAbs = x.natAbs * (i + 1) := by (refine rwt (Int.natAbs_mul ..) ?_; rewrite [Int.natAbs_natCast]; with_reducible rfl)
      have mb2 : x.natAbs * (i + 1) < 2 ^ 28 := mul_lt_28 (by exact oq440 ha lb1) (by exact oq441 hN2 hi)
      have y1 : p1.natAbs < 2 ^ 64 := by exact oq442 fb mb hp1 mb2 hj
      have er1 : (((x * ((i + 1 : Nat) : Int) - p1 * (q : Int)).natAbs : Nat) : Int) = er x q p1 ((i + 1 : Nat) : Int) := by unfold er; rw [Int.mul_comm p1]
      have en1 := er_nn x q p1 ((i + 1 : Nat) : Int)
      have y2 : (er x q p1 ((i + 1 : Nat) : Int)).natAbs < 2 ^ 64 := by exact oq443 er1 z2 c1 lb2
      refine ⟨_, .tail (.tail (.tail (.tail (.tail (.tail (.tail (.tail (.here p₂)))))))), ?_⟩
      refine WP.cons (WX.assign (d := .tup [.int (er x q p1 ((i + 1 : Nat) : Int)), .int ((i + 1 : Nat) : Int)]) (EV.eq (by wtm_at "E") (by (refine rwt er1 ?_; with_reducible rfl))) (.tail (.tail (.tail (.tail (.tail (.tail (.tail (.tail (.tail (.here p₃)))))))))) (Then.next ?_))
      rcases hS with ⟨rfl, hno⟩ | ⟨u, v, hin, hv, rfl, hall⟩
      · refine WP.cons (WX.if_ (TR.or2 (b := true) (by wtm_at "T") (fun h => absurd h (by decide))) (fun _ => ?_) (fun h => absurd h (by decide)))
        wtm_at "V"
        refine WP.nil (Then.next (WP.nil ⟨_, _, _, by exact oq444 hj', (Sofar.first hno (by exact oq445)).iff hstep, rfl, rfl, rfl⟩))
      · refine xe0_3 (cand_le q0 hin) fun c2 c3 c4 => ?_
        have en2 := er_nn x q u v
        have y3 : (er x q u v).natAbs < 2 ^ 64 := by exact oq446 en2 z2 c2 lb2
        refine WP.cons (WX.if_ (TR.or2 (a := false) (b := decide (er x q p1 ((i + 1 : Nat) : Int) * v < er x q u v * ((i + 1 : Nat) : Int))) (by wtm_at "T") (fun _ => by wtm_at "T")) (fun h => ?_) (fun h => WP.nil (Then.next ?_)))
        · have h := of_decide_eq_true (by simpa using h : decide (er x q p1 ((i + 1 : Nat) : Int) * v < er x q u v * ((i + 1 : Nat) : Int)) = true)
          wtm_at "V"
          refine WP.nil (Then.next (WP.nil ⟨_, _, _, by exact oq444 hj', (Sofar.new hv hall (fun p' q' h => (hord p' q' h).1) (by exact oq445) h).iff hstep, rfl, rfl, rfl⟩))
        · have h := of_decide_eq_false (by simpa using h : decide (er x q p1 ((i + 1 : Nat) : Int) * v < er x q u v * ((i + 1 : Nat) : Int)) = false)
          refine WP.nil ⟨_, _, _, by exact oq444 hj', (Sofar.old hin hv hall (fun p' q' h => (hord p' q' h).2) h).iff hstep, rfl, rfl, rfl⟩
    · intro σ hh_
      refine wrapG fun W_ k_ => ?_
      refine xe3_5 hh_ fun d s₂ s₃ hj hS p₂ p₃ e_1 => ?_
      subst e_1
      try clear hh_
      refine k_ ?_
      clear k_ W_
      refine Then.next (WP.nil ⟨_, _, _, _, hS.iff ?_, rfl, p₂, p₃, rfl⟩)
      intro p' q'
      unfold cand
      constructor
      · rintro (⟨h1, h2, h3⟩ | ⟨rfl, ⟨_, rfl⟩ | ⟨_, rfl⟩⟩)
        · exact .inl ⟨h1, by exact oq447 h2, h3⟩
        · exact .inl ⟨by exact oq395, by exact oq448, .inl rfl⟩
        · exact .inl ⟨by exact oq395, by exact oq448, .inr rfl⟩
      · rintro (⟨h1, h2, h3⟩ | ⟨_, ⟨h, _⟩ | ⟨h, _⟩⟩)
        · by_cases h : q' ≤ i
          · exact .inl ⟨h1, h, h3⟩
          · refine .inr ⟨by exact oq449 h h2, ?_⟩
            rcases h3 with h3 | h3
            · exact .inl ⟨by simp, h3⟩
            · exact .inr ⟨by simp, h3⟩
        · exact (oq416 h).elim
        · exact (oq417 h).elim
  · intro σ hh_
    refine wrapG fun W_ k_ => ?_
    refine xe4_5 hh_ fun d s₁ s₂ s₃ hS p₁ p₂ p₃ e_1 => ?_
    subst e_1
    try clear hh_
    refine k_ ?_
    clear k_ W_
    refine Then.next ?_
    rw [upI_length, show ((N : Int) + 1 - 1).toNat = N by exact oq450] at hS
    rcases hS with ⟨rfl, hno⟩ | ⟨u, v, hin, hv, rfl, hall⟩
    · exact absurd (.inl ⟨Int.le_refl _, by exact oq451 hN, .inl rfl⟩ : cand x q N 0 ((x * 1).fdiv q) 1) (hno _ _)
    · have hvN : v ≤ N := by
        rcases hin with ⟨_, h, _⟩ | ⟨_, ⟨h, _⟩ | ⟨h, _⟩⟩ <;> (first | exact oq452 h | exact (oq416 h).elim | exact (oq417 h).elim)
      have hB := best_of_brute q0 hv hvN hall
      have hlow := hB.low
      rw [show v.toNat = v.natAbs by exact oq453 hv] at hlow
      have hvv : u * v = u * ((v.natAbs : Nat) : Int) := by (refine rwt (show ((v.natAbs : Nat) : Int) = v by exact oq383 hv) ?_; with_reducible rfl)
      have w1 : u.natAbs < 2 ^ 30 := by
        have fb := fdiv_abs_le (x * v) q0
        have mb : (x * v).natAbs = x.natAbs * v.natAbs := Int.natAbs_mul ..
        have mb2 : x.natAbs * v.natAbs < 2 ^ 28 := mul_lt_28 (by exact oq440 ha lb1) (by exact oq454 hv hN2 hvN)
        rcases hin with ⟨_, _, rfl | rfl⟩ | ⟨_, ⟨h, _⟩ | ⟨h, _⟩⟩ <;> (first | exact oq455 mb fb mb2 | exact oq456 mb fb mb2 | exact (oq416 h).elim | exact (oq417 h).elim)
      have w2 : v.natAbs < 2 ^ 30 := by exact oq457 hv hN2 hvN
      have w3 : v ≠ 0 := by exact oq167 hv
      have w4 : N < 2 ^ 64 := by exact oq458 hN2
      refine WP.cons (WX.assign (d := RT wd u v.natAbs) (by wtm_at "E") (by wtm_at "u") (Then.next ?_))
      wtm_at "V"
      rfl
end

set_option maxRecDepth 100000
set_option maxHeartbeats 4000000
section
variable {g : Gl} {f : Fm} {n : Nat} {σ : Vars}
theorem EV.itemNeg {v i : Expr} {pos : Pos} {ds : List D} {k : Int} {d : D} (hv : EV g f n σ v (.list ds)) (hi : EV g f n σ i (.int k)) (h0 : k < 0) (h1 : -(ds.length : Int) ≤ k) (hk : -(2 ^ 63) ≤ k) (hd : ds[(k + ds.length).toNat]? = some d)
    (hs : ∀ o j, subscripted i false o j = operate [o, j] (getItem o j) := by intro _ _; rfl) : EV g f n σ (.Subscript v i pos) d :=
  fun A E s R Q hA hS q => Subscript_ (hv A E s R _ hA hS fun v₁ R₁ s₁ r₁ i₁ => hi A E s₁ R₁ _ hA (hS.gr r₁) fun v₂ R₂ s₂ r₂ i₂ => by
    (first | refine Is.eInt i₂ fun _ => ?_ | refine Is.eFn i₂ ?_ | refine Is.eBool i₂ ?_ | refine Is.eStr i₂ fun _ => ?_ | refine Is.eNone i₂ ?_ | cases i₂)
    cases i₁ with
    | list hm ha =>
      refine xe1_2 (ha.get hd) fun x hx ix => ?_
      have hl : s₂.heap.IsList _ _ := ⟨_, r₂.led _ (r₂.sub _ hm), rfl, _, rfl⟩
      exact tail_any hl.typeIs slot_list_getitem.lookup (wpAny_getItem_list_neg hl h0 (by (refine rwt List.size_toArray ?_; refine rwt ha.length ?_); exact h1) hk (by (refine rwt List.size_toArray ?_; refine rwt ha.length ?_); simpa using hx) (q x R₂ s₂ (r₁.trans r₂) (ix.mono r₂.sub))) (hs _ _))
theorem EV.sliceFrom {v lo : Expr} {p pos : Pos} {ds : List D} {k : Nat} (hv : EV g f n σ v (.list ds)) (hu : EV g f n σ lo (.int (k : Int))) (hz : ds.length ≤ 1000000)
    (ht : ∀ o r, letTemporaryGo v o r = pure () := by intro _ _; rfl) : EV g f n σ (.Subscript v (.Slice (some lo) none none p) pos) (.list (ds.drop k)) := by
  refine EV.sliceL hv (.some hu) .none hz (fun vs hl R i => ?_) ht
  (refine rwt (slicePick_from' ..) ?_)
  simpa using i.drop k
end
theorem cf_bound (b : Nat) : ∀ t : Int, ∀ z ∈ cf t b, z.natAbs ≤ t.natAbs + b := by
  induction b using Nat.strongRecOn with
  | _ b ih =>
    intro t z hz
    rcases Nat.eq_zero_or_pos b with h | h
    · subst h; rw [cf_zero] at hz; cases hz
    · rw [cf_pos t h] at hz
      rcases List.mem_cons.mp hz with rfl | hz
      · have := fdiv_abs_le t h; exact oq459 this
      · have h1 := ih _ (fmod_toNat_lt t h) b z hz
        have h2 := fmod_toNat_lt t h
        have : ∀ b' : Nat, ∀ t' : Nat, b' < t' → ∀ z ∈ cf (t' : Int) b', z.natAbs ≤ t' := by
          intro b'
          induction b' using Nat.strongRecOn with
          | _ b' ih' =>
            intro t' hlt z hz
            rcases Nat.eq_zero_or_pos b' with h | h
            · subst h; rw [cf_zero] at hz; cases hz
            · rw [cf_pos _ h] at hz
              rcases List.mem_cons.mp hz with rfl | hz
              · have := fdiv_abs_le (t' : Int) h; rwa [Int.natAbs_natCast] at this
              · have := ih' _ (fmod_toNat_lt (t' : Int) h) b' (fmod_toNat_lt (t' : Int) h) z hz
                exact oq460 this hlt
        have := this _ b h2 z hz
        exact oq461 this
theorem cv_len : ∀ (l : List Int) (h0 k0 h1 k1 : Int), (cv h0 k0 h1 k1 l).length = l.length
  | [], _, _, _, _ => rfl
  | a :: t, _, _, _, _ => by (rewrite [cv]; refine rwt List.length_cons ?_; refine rwt List.length_cons ?_; rewrite [cv_len t]; with_reducible rfl)
/-- the rows of the convergents -/
theorem cv_inv {p : Int} {q : Nat} (B : Nat) : ∀ {T h0 k0 h1 k1 : Int}, Inv p q h0 k0 h1 k1 T B → ∀ i r, (cv h0 k0 h1 k1 (cf T B))[i]? = some r →
    ∃ h k T' B', Inv p q h k r.1 r.2 T' B' ∧ 1 ≤ r.2 ∧ (∀ r', (cv h0 k0 h1 k1 (cf T B))[i + 1]? = some r' → ∃ T'' B'', Inv p q r.1 r.2 r'.1 r'.2 T'' B'' ∧ 1 ≤ r'.2) ∧ (i + 1 = (cf T B).length → B' = 0) := by
  induction B using Nat.strongRecOn with
  | _ B ih =>
    intro T h0 k0 h1 k1 I i r hr
    rcases Nat.eq_zero_or_pos B with h | h
    · subst h; rw [cf_zero, cv] at hr; cases hr
    · refine xe0_2 (I.step h) fun I' hk => ?_
      rw [cf_pos T h, cv] at hr ⊢
      have hlt := fmod_toNat_lt T h
      cases i with
      | zero =>
        cases hr
        refine ⟨_, _, _, _, I', hk, fun r' hr' => ?_, fun hl => ?_⟩
        · rw [List.getElem?_cons_succ] at hr'
          rcases Nat.eq_zero_or_pos (T.fmod B).toNat with hz | hz
          · rw [hz, cf_zero, cv] at hr'; cases hr'
          · rw [cf_pos _ hz, cv] at hr'
            cases hr'
            refine xe0_2 (I'.step hz) fun I'' hk' => ?_
            exact ⟨_, _, I'', hk'⟩
        · rcases Nat.eq_zero_or_pos (T.fmod B).toNat with hz | hz
          · exact hz
          · rw [cf_pos _ hz] at hl; simp at hl
      | succ i =>
        rw [List.getElem?_cons_succ] at hr
        refine xe4_4 (ih _ hlt I' i r hr) fun a1 a2 a3 a4 a5 a6 a7 a8 => ?_
        refine ⟨a1, a2, a3, a4, a5, a6, fun r' hr' => ?_, fun hl => ?_⟩
        · rw [List.getElem?_cons_succ] at hr'; exact a7 r' hr'
        · exact a8 (by simpa using hl)
theorem pd_SG {wd : Nat} (hw : 1 ≤ wd) {a b : Int} (h : pd (SG wd a) = pd (SG wd b)) : a = b := by
  have pdi : ∀ xs : List Nat, pdAll (N' xs) = xs.map fun n : Nat => PyData.int n := by
    intro xs
    induction xs with
    | nil => rfl
    | cons x xs ih => show pdAll (D.int x :: N' xs) = _; (rewrite [pdAll]; refine rwt ih ?_; rewrite [pd]); rfl
  rw [pd, pd, pdAll, pdAll, pdAll, pdAll, pdAll, pdAll, pd, pd, pd, pd, pdi, pdi] at h
  simp only [PyData.tuple.injEq, List.cons.injEq, PyData.bool.injEq, PyData.list.injEq, and_true] at h
  refine xe0_2 h fun h1 h2 => ?_
  try clear h
  have e : dg (2 ^ wd) a.natAbs = dg (2 ^ wd) b.natAbs := by
    have := congrArg (List.map fun d => match d with | PyData.int i => i.toNat | _ => 0) h2
    rw [List.map_map, List.map_map] at this
    simpa [Function.comp_def] using this
  have e2 := congrArg (num (2 ^ wd)) e
  rw [num_dg (two_le_base hw), num_dg (two_le_base hw)] at e2
  have h1 := decide_eq_decide.mp h1
  exact oq462 e2 h1
theorem ok_SG (wd : Nat) (z : Int) : nofn (SG wd z) = true := by
  refine xe0_2 (okN (dg (2 ^ wd) z.natAbs)) fun h1 h2 => ?_
  simp only [nofn, nofnAll, h1]; rfl
section
variable {w : World} {p : Program} {loose : List Str} {mg mb : Str → Option Value}
theorem fn_law_parts_right (wd : Nat) (a b : Int) (x : Int) (q : Nat) (he : x * b = a * (q : Int)) (hl : Low x q) (hb : b ≠ 0) (hw : 1 ≤ wd) (hw2 : wd ≤ 1000) (ha : a.natAbs < 2 ^ 12) (hb2 : b.natAbs < 2 ^ 12) :
    FN (GG w p loose mg mb) 6 404 [.int a, .int b, .int wd] (.bool true) := by
  refine FN.ofC ["a", "b", "w"] [("a", .int a), ("b", .int b)] [("w", .int wd)] ["x", "top", "bottom", "terms", "due", "rows", "one", "other", "cross"] rfl rfl (len3 fun _ _ _ => rfl) rfl (by decide) (show (["a", "b", "x", "top", "bottom", "terms", "due", "rows", "one", "other", "cross"] : List Str).Nodup by decide) (fun k => rfl) ?_ rfl ?_ (fun k => rfl) (fun L h₀ R₀ hC => ?_)
  · intro q hq
    rcases List.mem_cons.mp hq with rfl | hq
    · exact .head _
    · (refine rwt (List.mem_singleton.mp hq) ?_); exact .tail _ (.head _)
  · intro q hq
    (refine rwt (List.mem_singleton.mp hq) ?_); exact .tail _ (.tail _ (.head _))
  have hCw := hC _ (.head _)
  dsimp only at hCw
  clear hC
  simp only [List.map_cons, List.map_nil, List.cons_append, List.nil_append]
  have q0 := hl.pos
  refine xe0_2 (low_bound hl hb he) fun lb1 lb2 => ?_
  have z1 : a.natAbs < 2 ^ 30 := by exact oq408 ha
  have z2 : b.natAbs < 2 ^ 30 := by exact oq408 hb2
  have z3 : x.natAbs + 1 < 2 ^ 14 := by exact oq463 ha lb1
  have z4 : q < 2 ^ 14 := by exact oq464 hb2 lb2
  wtm_at "V"
  wtm_at "V"
  wtm_at "V"
  wtm_at "V"
  refine WP.cons (WX.while_ (fun k σ => ∃ (T : Int) (ds : List D), ds ++ (cf T k).map .int = (cf x q).map .int ∧ ds.length + k < 2 ^ 19 ∧ k < 2 ^ 14 ∧
    σ = [V "a" (.int a), V "b" (.int b), V "x" (RT wd x q), V "top" (.int T), V "bottom" (.int (k : Int)), V "terms" (.list ((cf x q).map (SG wd))), O "due" ds, U "rows", U "one", U "other", U "cross"]) q ⟨x, [], rfl, by simp only [List.length_nil]; exact oq326 z4, z4, rfl⟩ ?_)
  intro k σ hh_
  refine wrapG fun W_ k_ => ?_
  refine xe2_4 hh_ fun T ds hds hlen hk e_1 => ?_
  subst e_1
  try clear hh_
  refine k_ ?_
  clear k_ W_
  refine ⟨_, by wtm_at "T", fun hb => ?_, fun hb => Then.next ?_⟩
  · have hk0 : 0 < k := by have := bne_iff_ne.mp hb; exact oq230 this
    have hk1 : (k : Int) ≠ 0 := by exact oq76 hk0
    have hk2 : ((k : Int)).natAbs < 1073741824 := nab (by exact oq465 hlen)
    have hr := fmod_toNat T hk0
    have hlen' : ds.length ≤ 1000000 := by exact oq466 hlen
    wtm_at "V"
    wtm_at "V"
    refine WP.nil ⟨(T.fmod k).toNat, fmod_toNat_lt T hk0, k, ds ++ [.int (T.fdiv k)], ?_, ?_, Nat.lt_trans (fmod_toNat_lt T hk0) hk, by (refine rwt hr ?_; with_reducible rfl)⟩
    · (refine rws hds ?_; refine rwt (cf_pos T hk0) ?_); simp
    · have := fmod_toNat_lt T hk0
      simp only [List.length_append, List.length_cons, List.length_nil]; exact oq328 this hlen
  · have hk0 : k = 0 := by have := bne_eq_false_iff_eq.mp hb; exact oq225 this
    subst hk0
    rw [cf_zero, List.map_nil, List.append_nil] at hds
    subst hds
    wtm_at "Z"
    have hterms : (cf x q).length ≤ 1000000 := by have := cf_len q x; exact oq467 z4 this
    refine WP.cons (WX.if_ (TR.cmp (EV.compI (F := fun z => z) (ITER.list (by wtm_at "E")) (fun a b h => pd_SG hw h) (ok_SG wd) (fun C h₀' R₀' z hz hsub => ?_) hterms rfl) (by wtm_at "E") (CMP.neR (okD_ints _)) rfl) (fun h => absurd h (by decide)) (fun _ => WP.nil (Then.next ?_)))
    · have hz2 : z.natAbs < 2 ^ 64 := by have := cf_bound q x z hz; exact oq468 z3 this z4
      refine xe3_4 hCw fun c o v c1 c2 c3 c4 => ?_
      try clear hCw
      refine EV.callN (by wtm_at "E") (ES.cons (by wtm_at "E") (ES.cons (EV.cell (hsub _ c2) c3 (c4.mono hsub) c1 rfl rfl (by decide)) ES.nil rfl) rfl) (fn_law_whole wd z hw hw2 hz2) (by decide) rfl
    wtm_at "V"
    have hm : 1 ≤ (cf x q).length := by (refine rwt (cf_pos x q0) ?_); simp
    have hlenR : ((cv 0 1 1 0 (cf x q)).map fun r => RT wd r.1 r.2.natAbs).length = (cf x q).length := by (refine rwt (List.length_map ..) ?_; refine rwt (cv_len ..) ?_; with_reducible rfl)
    have hget : ((cv 0 1 1 0 (cf x q)).map fun r => RT wd r.1 r.2.natAbs)[((-1 : Int) + (((cv 0 1 1 0 (cf x q)).map fun r => RT wd r.1 r.2.natAbs).length : Int)).toNat]? = some (RT wd x q) := by
      (refine rwt hlenR ?_; refine rwt (show ((-1 : Int) + ((cf x q).length : Int)).toNat = (cf x q).length - 1 by exact oq469) ?_; refine rwt List.getElem?_map ?_)
      obtain ⟨r, hr⟩ : ∃ r, (cv 0 1 1 0 (cf x q))[(cf x q).length - 1]? = some r := ⟨_, List.getElem?_eq_getElem (by (refine rwt (cv_len ..) ?_); exact oq470 hm)⟩
      refine xe4_4 (cv_inv q (Inv.start x q0) _ r hr) fun h k T' B' I hk1 _ hlast => ?_
      have hB := hlast (by exact oq471 hm)
      subst hB
      refine xe0_2 (I.last hl) fun e1 e2 => ?_
      (refine rwt hr ?_; refine rwt (Option.map_some ..) ?_; refine rwt e1 ?_; refine rwt e2 ?_; refine rwt (Int.natAbs_natCast ..) ?_; with_reducible rfl)
    refine WP.cons (WX.if_ (TR.cmp (EV.itemNeg (by wtm_at "E") (by wtm_at "E") (by decide) (by (refine rwt hlenR ?_); exact oq472 hm) (by decide) hget) (by wtm_at "E") (CMP.neR (okD_RT ..)) rfl) (fun h => absurd h (by decide)) (fun _ => WP.nil (Then.next ?_)))
    have hz1 : ((cv 0 1 1 0 (cf x q)).map fun r => RT wd r.1 r.2.natAbs).length ≤ 1000000 := by (refine rwt hlenR ?_); exact hterms
    generalize hRS : ((cv 0 1 1 0 (cf x q)).map fun r => RT wd r.1 r.2.natAbs) = RS at *
    refine WP.cons (WX.forP_ (ITERP.zip (by wtm_at "E") (EV.sliceFrom (k := 1) (by wtm_at "E") (EV.eq EV.int rfl) hz1) rfl) (fun i σ => ∃ (T : Int) (s₁ s₂ s₃ : Sl), s₁.plain = true ∧ s₂.plain = true ∧ s₃.plain = true ∧
      σ = [V "a" (.int a), V "b" (.int b), V "x" (RT wd x q), V "top" (.int T), V "bottom" (.int ((0 : Nat) : Int)), V "terms" (.list ((cf x q).map (SG wd))), V "due" (.list ((cf x q).map .int)), V "rows" (.list RS), (PySem.Str.ofString "one", s₁), (PySem.Str.ofString "other", s₂), (PySem.Str.ofString "cross", s₃)])
      ⟨_, _, _, _, rfl, rfl, rfl, rfl⟩ (by
        intro i σ hh_
        refine wrapG fun W_ k_ => ?_
        refine xe4_4 hh_ fun T' s₁ s₂ s₃ p₁ p₂ p₃ e_1 => ?_
        subst e_1
        try clear hh_
        refine k_ ?_
        clear k_ W_
        simp only [noOwn, List.all_cons, List.all_nil, p₁, p₂, p₃, Bool.and_true]; rfl) ?_ ?_)
    · intro i d₁ d₂ σ hd hh_
      refine wrapG fun W_ k_ => ?_
      refine xe4_4 hh_ fun T' s₁ s₂ s₃ p₁ p₂ p₃ e_1 => ?_
      subst e_1
      try clear hh_
      refine k_ ?_
      clear k_ W_
      rw [List.getElem?_zip_eq_some] at hd
      refine xe0_2 hd fun hd1 hd2 => ?_
      try clear hd
      rw [List.getElem?_drop, Nat.add_comm, ← hRS, List.getElem?_map] at hd2
      rw [← hRS, List.getElem?_map] at hd1
      refine xe1_2 (Option.map_eq_some_iff.mp hd1) fun r hr e_1 => ?_
      subst e_1
      refine xe1_2 (Option.map_eq_some_iff.mp hd2) fun r' hr' e_1 => ?_
      subst e_1
      refine xe4_4 (cv_inv q (Inv.start x q0) _ r hr) fun h k T₁ B₁ I hk1 hnext _ => ?_
      refine xe2_2 (hnext r' hr') fun T₂ B₂ I₂ hk2 => ?_
      refine xe0_6 (I₂.small (by exact oq473 ha lb1) (by exact oq474 hb2 lb2)) fun t1 t2 t3 t4 _ _ => ?_
      have hdet := I₂.det
      obtain ⟨u, v⟩ := r
      obtain ⟨u', v'⟩ := r'
      dsimp only at *
      have m1 : u.natAbs < 2 ^ 64 := by exact oq331 t1
      have m2 : u'.natAbs < 2 ^ 64 := by exact oq331 t3
      have m3 : v.natAbs < 2 ^ 64 := by exact oq331 t2
      have m4 : v'.natAbs < 2 ^ 64 := by exact oq331 t4
      have e1 : ((v.natAbs : Nat) : Int) = v := by exact oq383 hk1
      have e2 : ((v'.natAbs : Nat) : Int) = v' := by exact oq383 hk2
      refine ⟨_, .cons (.tail (.tail (.tail (.tail (.tail (.tail (.tail (.tail (.here p₁))))))))) (.cons (.tail (.tail (.tail (.tail (.tail (.tail (.tail (.tail (.tail (.here p₂)))))))))) .nil), ?_⟩
      refine LP.cons (LX.assign (d := .int (u * v' - u' * v)) (EV.eq (by wtm_at "E") (by (refine rwt e1 ?_; refine rwt e2 ?_; with_reducible rfl))) (.tail (.tail (.tail (.tail (.tail (.tail (.tail (.tail (.tail (.tail (.here p₃))))))))))) (ThenL.next ?_))
      have hone : (((u * v' - u' * v).natAbs : Nat) : Int) = 1 := by exact oq475 hdet
      refine LP.cons (LX.if_ (TR.cmp (EV.eq (by wtm_at "E") (by (refine rwt hone ?_; with_reducible rfl))) (by wtm_at "E") CMP.neI rfl) (fun h => absurd h (by decide)) (fun _ => LP.nil (ThenL.next (LP.nil ⟨_, _, _, _, rfl, rfl, rfl, rfl⟩))))
    · intro σ hh_
      refine wrapG fun W_ k_ => ?_
      refine xe4_4 hh_ fun T' s₁ s₂ s₃ p₁ p₂ p₃ e_1 => ?_
      subst e_1
      try clear hh_
      refine k_ ?_
      clear k_ W_
      refine Then.next ?_
      wtm_at "V"
      rfl
end

set_option maxRecDepth 100000
set_option maxHeartbeats 4000000
/-- the sign of a digit -/
def sg (i : Nat) : Nat := if i < 10 then 48 + i else 87 + i
abbrev signsS : Str := Str.ofString "0123456789abcdefghijklmnopqrstuvwxyz"
theorem sg_get {i : Nat} (h : i < 36) : signsS.cps[i]? = some (sg i) := by
  have : ∀ i, i < 36 → signsS.cps[i]? = some (sg i) := by decide
  exact this i h
/-- a natural's text -/
def nt (base n : Nat) : List Nat := if n = 0 then [48] else (dg base n).reverse.map sg
theorem nt_len {base n k : Nat} (hb : 2 ≤ base) (h : n < 2 ^ k) (hk : 1 ≤ k) : (nt base n).length ≤ k := by
  unfold nt
  split
  · simpa using hk
  · (refine rwt (List.length_map ..) ?_; refine rwt List.length_reverse ?_)
    exact dg_len_le hb (Nat.lt_of_lt_of_le h (Nat.pow_le_pow_left hb k))
section
variable {w : World} {p : Program} {loose : List Str} {mg mb : Str → Option Value}
theorem fn_nat_text (wd base n : Nat) (hb : 2 ≤ base) (hb2 : base ≤ 36) (hw : 1 ≤ wd) (hw2 : wd ≤ 1000) (hn : n < 2 ^ 60) :
    FN (GG w p loose mg mb) 3 268 [LM wd n, .int base, .int wd, .fn 345] (TX (nt base n)) := by
  refine FN.of ["a", "base", "w", "divrem"] ["found", "told", "rest"] rfl rfl (len4 fun _ _ _ _ => rfl) rfl (by decide) rfl (fun L h₀ R₀ => ?_)
  simp only [mkVars, List.zip_cons_cons, List.zip_nil_right, List.map_cons, List.map_nil, List.cons_append, List.nil_append]
  have z1 : base < 2 ^ 64 := by exact oq476 hb2
  have z0 : base < 2 ^ 1000 := Nat.lt_of_lt_of_le z1 (Nat.pow_le_pow_right (by decide) (by decide))
  have z2 : 0 < base := by exact oq32 hb
  wtm_at "V"
  refine WP.cons (WX.while_ (fun k σ => ∃ (xs : List Nat) (s : Sl), xs ++ dg base k = dg base n ∧ (∀ x ∈ xs, x < base) ∧ s.plain = true ∧
    σ = [V "a" (LM wd k), V "base" (.int base), V "w" (.int wd), V "divrem" (.fn 345), O "found" (xs.map fun i => TX [sg i]), V "told" (LM wd base), (PySem.Str.ofString "rest", s)]) n ⟨[], _, rfl, (by intro x h; cases h), rfl, rfl⟩ ?_)
  intro k σ hh_
  refine wrapG fun W_ k_ => ?_
  refine xe2_4 hh_ fun xs s hxs hlt hp e_1 => ?_
  subst e_1
  try clear hh_
  refine k_ ?_
  clear k_ W_
  have hkn : k ≤ n := by
    have := congrArg (num base) hxs
    rw [num_append, num_dg hb, num_dg hb] at this
    have h1 : k ≤ base ^ xs.length * k := Nat.le_mul_of_pos_left _ (Nat.pow_pos z2)
    exact oq477 this h1
  have z3 : k < 2 ^ 64 := by exact oq478 hn hkn
  have hL : (dg (2 ^ wd) k).length ≤ 64 := dg_len_small hw z3
  refine ⟨_, by wtm_at "T", fun hb' => ?_, fun hb' => Then.next ?_⟩
  · rw [len_pos hw] at hb'
    have hk := of_decide_eq_true hb'
    have hd : k % base < base := Nat.mod_lt _ z2
    have z4 : k % base < 2 ^ 64 := by exact oq479 hb2 hd
    have hz : (xs.map fun i => TX [sg i]).length ≤ 1000000 := by
      have h1 := congrArg List.length hxs
      rw [List.length_append] at h1
      have h2 : (dg base n).length ≤ 60 := dg_len_le hb (Nat.lt_of_lt_of_le hn (Nat.pow_le_pow_left hb 60))
      (refine rwt (List.length_map ..) ?_); exact oq480 h1 h2
    refine WP.cons (WX.unpack2 (by wtm_at "E") (.cons (.here rfl) (.cons (.tail (.tail (.tail (.tail (.tail (.tail (.here hp))))))) .nil)) (Then.next ?_) rfl rfl rfl rfl rfl)
    refine WP.cons (WX.append (d := TX [sg (k % base)]) (.tail (.tail (.tail (.tail .here)))) (EV.itemS (k := ((k % base : Nat) : Int)) (EV.globS (x := Str.ofString "SIGNS") (by with_unfolding_all rfl) rfl rfl rfl (by decide)) (by wtm_at "E") (by exact oq83) (by exact oq481 hb2 hd) (by (refine rwt (Int.toNat_natCast ..) ?_); exact sg_get (by exact oq482 hb2 hd))) hz (Then.next ?_))
    refine WP.nil ⟨k / base, Nat.div_lt_self hk (by exact oq33 hb), xs ++ [k % base], _, ?_, ?_, ?_, by (refine rwt List.map_append ?_); rfl⟩
    · (refine rws hxs ?_; refine rwt (dg_pos hb hk) ?_; refine rwt (List.append_assoc ..) ?_); rfl
    · intro x hx
      rcases List.mem_append.mp hx with h | h
      · exact hlt x h
      · (refine rwt (List.mem_singleton.mp h) ?_); exact hd
    · rfl
  · rw [len_pos hw] at hb'
    have hk := of_decide_eq_false hb'
    have hk : k = 0 := by exact oq316 hk
    subst hk
    rw [dg_zero, List.append_nil] at hxs
    wtm_at "Z"
    have hlen : xs.length ≤ 1000000 := by
      have h2 : (dg base n).length ≤ 60 := dg_len_le hb (Nat.lt_of_lt_of_le hn (Nat.pow_le_pow_left hb 60))
      (refine rwt hxs ?_); exact oq483 h2
    have he : (D.list (xs.map fun i => TX [sg i])) = .list ((xs.map sg).map fun c => .str ⟨#[c]⟩) := by (refine rwt List.map_map ?_); rfl
    refine WP.cons (WX.ret (EV.ite (TR.cmp (EV.len (by wtm_at "E") (by (refine rwt (List.length_map ..) ?_); exact hlen) rfl) (by wtm_at "E") CMP.gtI rfl) (fun _ => EV.joinRev (cs := xs.map sg) (EV.eq EV.str (by with_unfolding_all rfl)) (EV.eq (by wtm_at "E") he) (by (refine rwt (List.length_map ..) ?_); exact hlen) rfl) (fun _ => EV.eq EV.str (show _ = TX [48] by with_unfolding_all rfl))) (Then.ret ?_))
    (refine rwt (List.length_map ..) ?_; refine rwt hxs ?_)
    unfold nt
    by_cases h0 : n = 0
    · subst h0
      (refine rwt (dg_zero ..) ?_); rfl
    · have : 0 < (dg base n).length := (dg_len_pos hb).mpr (by exact oq31 h0)
      (refine rwt (if_neg h0) ?_; refine rwt (if_pos (decide_eq_true (by exact oq81 this))) ?_; refine rwt List.map_reverse ?_; with_reducible rfl)
end

set_option maxRecDepth 100000
set_option maxHeartbeats 4000000
/-- a fraction's text -/
def rt (base : Nat) (P : Int) (Q : Nat) : List Nat := (if P < 0 then [45] else []) ++ nt base P.natAbs ++ (if Q = 1 then [] else 47 :: nt base Q)
theorem eqv_N : ∀ xs ys : List Nat, PyData.eqvAll (pdAll (N' xs)) (pdAll (N' ys)) = decide (xs = ys)
  | [], [] => rfl
  | [], y :: ys => rfl
  | x :: xs, [] => rfl
  | x :: xs, y :: ys => by
    have ih := eqv_N xs ys
    show PyData.eqvAll (pd (.int x) :: pdAll (N' xs)) (pd (.int y) :: pdAll (N' ys)) = _
    (rewrite [PyData.eqvAll]; refine rwt ih ?_; rewrite [pd, pd, PyData.eqv])
    by_cases h : x = y
    · subst h
      simp
    · have : ((x : Int) == (y : Int)) = false := by rw [beq_eq_false_iff_ne]; exact oq484 h
      (refine rwt this ?_)
      simp [h]
theorem eqv_one {wd a : Nat} (hw : 1 ≤ wd) : PyData.eqv (pd (LM wd a)) (pd (.list [.int 1])) = decide (a = 1) := by
  (refine rws (LM1 hw) ?_; rewrite [pd, pd, PyData.eqv]; refine rwt (eqv_N ..) ?_)
  apply decide_eq_decide.mpr
  constructor
  · intro h
    have := congrArg (num (2 ^ wd)) h
    rwa [num_dg (two_le_base hw), num_dg (two_le_base hw)] at this
  · rintro rfl; rfl
theorem okD_LM (wd a : Nat) : okD (LM wd a) = true := by
  refine xe0_2 (okN (dg (2 ^ wd) a)) fun h1 h2 => ?_
  unfold okD
  (rewrite [nofn, dep]; refine rwt h1 ?_; refine rwt h2 ?_); rfl
/-- digits' value -/
def val (base : Nat) (ds : List Nat) : Nat := ds.foldl (fun v d => v * base + d) 0
theorem val_rev (base : Nat) : ∀ xs : List Nat, val base xs.reverse = num base xs
  | [] => rfl
  | x :: xs => by
    have ih := val_rev base xs
    unfold val at ih ⊢
    (refine rwt List.reverse_cons ?_; refine rwt List.foldl_append ?_; refine rwt ih ?_; rewrite [num]; refine rwt List.foldl_cons ?_; refine rwt List.foldl_nil ?_; refine rwt (Nat.mul_comm ..) ?_; refine rwt (Nat.add_comm ..) ?_; with_reducible rfl)
theorem val_snoc (base : Nat) (xs : List Nat) (x : Nat) : val base (xs ++ [x]) = val base xs * base + x := by
  unfold val; (refine rwt List.foldl_append ?_); rfl
theorem val_mono {base : Nat} (hb : 1 ≤ base) (ys : List Nat) : ∀ xs : List Nat, val base xs ≤ val base (xs ++ ys) := by
  induction ys with
  | nil => intro xs; (refine rwt (List.append_nil ..) ?_); exact Nat.le_refl _
  | cons y ys ih =>
    intro xs
    have := ih (xs ++ [y])
    rw [val_snoc, List.append_assoc] at this
    have h2 : val base xs ≤ val base xs * base := Nat.le_mul_of_pos_right _ hb
    have h3 : xs ++ y :: ys = xs ++ ([y] ++ ys) := rfl
    (refine rwt h3 ?_); exact oq485 this h2
/-- the digits of a natural's text -/
def ntd (base n : Nat) : List Nat := if n = 0 then [0] else (dg base n).reverse
theorem nt_eq (base n : Nat) : nt base n = (ntd base n).map sg := by
  unfold nt ntd; split <;> rfl
theorem val_ntd {base : Nat} (hb : 2 ≤ base) (n : Nat) : val base (ntd base n) = n := by
  unfold ntd
  split
  · rename_i h; (refine rwt h ?_); simp [val]
  · (refine rwt (val_rev ..) ?_; rewrite [num_dg hb]; with_reducible rfl)
theorem ntd_lt {base : Nat} (hb : 2 ≤ base) (n : Nat) : ∀ d ∈ ntd base n, d < base := by
  intro d hd
  unfold ntd at hd
  split at hd
  · (refine rwt (List.mem_singleton.mp hd) ?_); exact oq32 hb
  · exact dg_dig hb n d (List.mem_reverse.mp hd)
theorem ntd_ne {base : Nat} (hb : 2 ≤ base) (n : Nat) : ntd base n ≠ [] := by
  unfold ntd
  split
  · intro e; cases e
  · rename_i h
    intro e
    have := (dg_len_pos hb).mpr (show 0 < n by exact oq31 h)
    rw [List.reverse_eq_nil_iff] at e
    rw [e] at this
    exact absurd this (by decide)
theorem dig_ok {i : Nat} (h : i < 36) : Txt.find signsS (Txt.lower ⟨#[sg i]⟩) = (i : Int) := by
  have : ∀ i, i < 36 → Txt.find signsS (Txt.lower ⟨#[sg i]⟩) = (i : Int) := by decide +kernel
  exact this i h
theorem dig_bad : Txt.find signsS (Txt.lower ⟨#[63]⟩) = -1 := by decide +kernel
section
variable {w : World} {p : Program} {loose : List Str} {mg mb : Str → Option Value}
theorem fn_r_text (wd base : Nat) (P : Int) (Q : Nat) (hb : 2 ≤ base) (hb2 : base ≤ 36) (hw : 1 ≤ wd) (hw2 : wd ≤ 1000) (hP : P.natAbs < 2 ^ 60) (hQ : Q < 2 ^ 60) :
    FN (GG w p loose mg mb) 4 275 [RT wd P Q, .int base, .int wd, .fn 345] (TX (rt base P Q)) := by
  refine FN.of ["x", "base", "w", "divrem"] ["found"] rfl rfl (len4 fun _ _ _ _ => rfl) rfl (by decide) rfl (fun L h₀ R₀ => ?_)
  simp only [mkVars, List.zip_cons_cons, List.zip_nil_right, List.map_cons, List.map_nil, List.cons_append, List.nil_append]
  have l1 : (nt base P.natAbs).length ≤ 60 := nt_len hb hP (by decide)
  have l2 : (nt base Q).length ≤ 60 := nt_len hb hQ (by decide)
  have l3 : (if P < 0 then [45] else ([] : List Nat)).length ≤ 1 := by split <;> decide
  refine WP.cons (WX.assign (d := TX ((if P < 0 then [45] else []) ++ nt base P.natAbs)) (EV.bin (EV.eq (EV.ite (by wtm_at "T") (fun _ => EV.eq EV.str (show _ = TX [45] by with_unfolding_all rfl)) (fun _ => EV.eq EV.str (show _ = TX [] by with_unfolding_all rfl))) (show _ = TX (if P < 0 then [45] else []) by simp only [decide_eq_true_eq]; split <;> rfl)) (by wtm_at "E") (OP.addTX (by exact oq486 l1 l3))) (by wtm_at "u") (Then.next ?_))
  refine WP.cons (WX.ret (EV.ite (TR.eq (TR.cmp (by wtm_at "E") (by wtm_at "E") (CMP.eqD (okD_LM wd Q) (show okD (.list [.int 1]) = true from okD_ints [1])) rfl) (eqv_one hw)) (fun _ => by wtm_at "E") (fun _ => EV.bin (EV.bin (by wtm_at "E") (EV.eq EV.str (show _ = TX [47] by with_unfolding_all rfl)) (OP.addTX (by simp only [List.length_append, List.length_cons, List.length_nil]; exact oq487 l1 l3))) (by wtm_at "E") (OP.addTX (by simp only [List.length_append, List.length_cons, List.length_nil]; exact oq488 l1 l2 l3)))) (Then.ret ?_))
  unfold rt
  by_cases h : Q = 1
  · (refine rwt (if_pos (decide_eq_true h)) ?_; refine rwt (if_pos h) ?_; refine rwt (List.append_nil ..) ?_; with_reducible rfl)
  · (refine rwt (if_neg (by simpa using h)) ?_; refine rwt (if_neg h) ?_)
    simp only [List.append_assoc, List.cons_append, List.nil_append]

/-- what precedes nat_from_text's loop, and the loop's turn -/
theorem fn_nat_from_text (wd base : Nat) (ds : List Nat) (spot : Int) (hb : 2 ≤ base) (hb2 : base ≤ 36) (hw : 1 ≤ wd) (hw2 : wd ≤ 1000) (hds : ds ≠ []) (hlt : ∀ d ∈ ds, d < base) (hv : val base ds < 2 ^ 60) (hlen : ds.length ≤ 1000) :
    FN (GG w p loose mg mb) 3 282 [TX (ds.map sg), .int spot, .int base, .int wd, .fn 338] (LM wd (val base ds)) := by
  refine FN.of ["text", "spot", "base", "w", "mul"] ["found", "told", "at", "sign", "digit"] rfl rfl (len5 fun _ _ _ _ _ => rfl) rfl (by decide) rfl (fun L h₀ R₀ => ?_)
  simp only [mkVars, List.zip_cons_cons, List.zip_nil_right, List.map_cons, List.map_nil, List.cons_append, List.nil_append]
  have z1 : base < 2 ^ 64 := by exact oq476 hb2
  have z0 : base < 2 ^ 1000 := Nat.lt_of_lt_of_le z1 (Nat.pow_le_pow_right (by decide) (by decide))
  have hl0 : 0 < ds.length := by
    cases ds with
    | nil => exact absurd rfl hds
    | cons a t => simp
  refine WP.cons (WX.if_ (TR.cmp (EV.lenS (by wtm_at "E") (by (refine rwt (tx_len ..) ?_; refine rwt (List.length_map ..) ?_); exact oq489 hlen) rfl) (by wtm_at "E") CMP.eqI rfl) (fun h => ?_) (fun h => WP.nil (Then.next ?_)))
  · rw [tx_len, List.length_map] at h
    have := eq_of_beq h
    exact (oq490 this hl0).elim
  wtm_at "V"
  wtm_at "Z"
  refine WP.cons (WX.forP_ (ITERP.enum (by wtm_at "E") rfl) (fun i σ => ∃ (s₁ s₂ s₃ : Sl), s₁.plain = true ∧ s₂.plain = true ∧ s₃.plain = true ∧
      σ = [V "text" (TX (ds.map sg)), V "spot" (.int spot), V "base" (.int base), V "w" (.int wd), V "mul" (.fn 338), V "found" (LM wd (val base (ds.take i))), V "told" (LM wd base), (PySem.Str.ofString "at", s₁), (PySem.Str.ofString "sign", s₂), (PySem.Str.ofString "digit", s₃)])
      ⟨_, _, _, rfl, rfl, rfl, by (refine rwt List.take_zero ?_; refine rwt (show val base [] = 0 from rfl) ?_; refine rwt (LM0 ..) ?_; with_reducible rfl)⟩ (by
        intro i σ hh_
        refine wrapG fun W_ k_ => ?_
        refine xe3_4 hh_ fun s₁ s₂ s₃ p₁ p₂ p₃ e_1 => ?_
        subst e_1
        try clear hh_
        refine k_ ?_
        clear k_ W_
        simp only [noOwn, List.all_cons, List.all_nil, p₁, p₂, p₃, Bool.and_true]; rfl) ?_ ?_)
  · intro i d₁ d₂ σ hd hh_
    refine wrapG fun W_ k_ => ?_
    refine xe3_4 hh_ fun s₁ s₂ s₃ p₁ p₂ p₃ e_1 => ?_
    subst e_1
    try clear hh_
    refine k_ ?_
    clear k_ W_
    refine xe0_3 (signsAt_get hd) fun hi e_1 e_2 => ?_
    subst e_1
    subst e_2
    rw [tx_len, List.length_map] at hi
    have hc : (⟨((ds.map sg).toArray)⟩ : Str).cps.getD i 0 = sg (ds[i]) := by
      simp [Array.getD_eq_getD_getElem?, hi]
    (refine rwt hc ?_)
    have hd' : ds[i] < base := hlt _ (List.getElem_mem hi)
    have hd36 : ds[i] < 36 := by exact oq482 hb2 hd'
    have htk : ds.take (i + 1) = ds.take i ++ [ds[i]] := by (refine rwt (List.take_succ_eq_append_getElem hi) ?_; with_reducible rfl)
    have hmono : val base (ds.take i) * base + ds[i] ≤ val base ds := by
      have := val_mono (show 1 ≤ base by exact oq238 hb) (ds.drop (i + 1)) (ds.take (i + 1))
      rw [List.take_append_drop, htk, val_snoc] at this
      exact this
    have hm2 : val base (ds.take i) ≤ val base (ds.take i) * base := Nat.le_mul_of_pos_right _ (by exact oq32 hb)
    have y1 : val base (ds.take i) < 2 ^ 64 := by exact oq491 hmono hv hm2
    have y2 : val base (ds.take i) * base < 2 ^ 64 := by exact oq492 hmono hv
    have y3 : ds[i] < 2 ^ 64 := by exact oq493 hd36
    have y4 : ds[i] < 2 ^ 1000 := Nat.lt_of_lt_of_le y3 (Nat.pow_le_pow_right (by decide) (by decide))
    refine ⟨_, .cons (.tail (.tail (.tail (.tail (.tail (.tail (.tail (.here p₁)))))))) (.cons (.tail (.tail (.tail (.tail (.tail (.tail (.tail (.tail (.here p₂))))))))) .nil), ?_⟩
    refine LP.cons (LX.assign (d := .int ((ds[i] : Nat) : Int)) (EV.eq (EV.find (EV.globS (x := Str.ofString "SIGNS") (y := signsS) (by with_unfolding_all rfl) rfl rfl rfl (by decide)) (EV.lower (x := ⟨#[sg ds[i]]⟩) (by wtm_at "E") (show 1 ≤ 100000 by decide))) (by (refine rwt (dig_ok hd36) ?_; with_reducible rfl))) (.tail (.tail (.tail (.tail (.tail (.tail (.tail (.tail (.tail (.here p₃)))))))))) (ThenL.next ?_))
    refine LP.cons (LX.if_ (TR.not (TR.cmp2 (by wtm_at "E") (by wtm_at "E") (by wtm_at "E") CMP.leI CMP.ltI)) (fun h => ?_) (fun h => LP.nil (ThenL.next ?_)))
    · rw [decide_eq_true (show (0 : Int) ≤ ((ds[i] : Nat) : Int) by exact oq83), decide_eq_true (show ((ds[i] : Nat) : Int) < (base : Int) by exact oq244 hd')] at h
      cases h
    refine LP.cons (LX.assign (d := LM wd (val base (ds.take i) * base + ds[i])) (by wtm_at "E") (by wtm_at "u") (ThenL.next ?_))
    refine LP.nil ⟨_, _, _, rfl, rfl, rfl, by (refine rwt htk ?_; refine rwt (val_snoc ..) ?_; with_reducible rfl)⟩
  · intro σ hh_
    refine wrapG fun W_ k_ => ?_
    refine xe3_4 hh_ fun s₁ s₂ s₃ p₁ p₂ p₃ e_1 => ?_
    subst e_1
    try clear hh_
    refine k_ ?_
    clear k_ W_
    refine Then.next ?_
    have : (signsAt ⟨(ds.map sg).toArray⟩).length = ds.length := by unfold signsAt; (refine rwt (List.length_map ..) ?_; refine rwt List.length_range ?_; refine rwt (tx_len ..) ?_; refine rwt (List.length_map ..) ?_; with_reducible rfl)
    (refine rwt this ?_; refine rwt List.take_length ?_)
    wtm_at "V"
    rfl
end

set_option maxRecDepth 100000
set_option maxHeartbeats 4000000
theorem sg_ge (d : Nat) : 48 ≤ sg d := by unfold sg; split <;> (first | exact oq494 | exact oq495)
theorem sg_not {d : Nat} (h : d < 36) : sg d ≠ 63 := by unfold sg; split <;> (first | exact oq496 (by assumption) | exact oq497)
theorem slash_out (b : Bool) (ds : List Nat) : 47 ∉ (if b = true then [45] else []) ++ ds.map sg := by
  intro h
  rcases List.mem_append.mp h with h | h
  · cases b <;> simp at h
  · refine xe1_2 (List.mem_map.mp h) fun d _ e => ?_
    have := sg_ge d; exact oq498 this e
theorem head_neg (b : Bool) {ds : List Nat} (hds : ds ≠ []) (t : List Nat) : (((if b = true then [45] else []) ++ ds.map sg ++ t).take 1 == [45]) = b := by
  cases ds with
  | nil => exact absurd rfl hds
  | cons d ds =>
    have := sg_ge d
    cases b
    · simp; exact oq499 this
    · simp
/-- what a fraction's text is made of -/
def ftx (b : Bool) (ds : List Nat) (o : Option (List Nat)) : List Nat := (if b = true then [45] else []) ++ ds.map sg ++ (match o with | none => [] | some es => 47 :: es.map sg)
theorem rt_ftx (base : Nat) (P : Int) (Q : Nat) : rt base P Q = ftx (decide (P < 0)) (ntd base P.natAbs) (if Q = 1 then none else some (ntd base Q)) := by
  unfold rt ftx
  simp only [decide_eq_true_eq]
  (refine rwt (nt_eq ..) ?_; refine rwt (nt_eq ..) ?_)
  by_cases h : Q = 1
  · (refine rwt (if_pos h) ?_; refine rwt (if_pos h) ?_; with_reducible rfl)
  · (refine rwt (if_neg h) ?_; refine rwt (if_neg h) ?_; with_reducible rfl)
section
variable {w : World} {p : Program} {loose : List Str} {mg mb : Str → Option Value}
theorem fn_r_from_text (wd base : Nat) (b : Bool) (ds : List Nat) (o : Option (List Nat)) (P : Int) (Q : Nat) (hb : 2 ≤ base) (hb2 : base ≤ 36) (hw : 1 ≤ wd) (hw2 : wd ≤ 1000) (hds : ds ≠ []) (hlt : ∀ d ∈ ds, d < base) (hv : val base ds < 2 ^ 60) (hlen : ds.length ≤ 400)
    (ho : ∀ es, o = some es → es ≠ [] ∧ (∀ d ∈ es, d < base) ∧ val base es < 2 ^ 60 ∧ es.length ≤ 400 ∧ 0 < val base es)
    (he : P * (o.elim 1 (val base) : Nat) = sgv b (val base ds) * (Q : Int)) (hl : Low P Q) :
    FN (GG w p loose mg mb) 5 289 [TX (ftx b ds o), .int base, .int wd, .fn 338, .fn 345] (RT wd P Q) := by
  refine FN.of ["text", "base", "w", "mul", "divrem"] ["begin", "bar", "top", "bottom"] rfl rfl (len5 fun _ _ _ _ _ => rfl) rfl (by decide) rfl (fun L h₀ R₀ => ?_)
  simp only [mkVars, List.zip_cons_cons, List.zip_nil_right, List.map_cons, List.map_nil, List.cons_append, List.nil_append]
  have hlt' : (ftx b ds o).length ≤ 1000000 := by
    unfold ftx
    cases o with
    | none => cases b <;> simp <;> (first | exact oq500 hlen | exact oq501 hlen)
    | some es => obtain ⟨_, _, _, h, _⟩ := ho es rfl; cases b <;> simp <;> (first | exact oq502 hlen h | exact oq503 hlen h)
  have hlb : (if b = true then [45] else ([] : List Nat)).length = (if b = true then 1 else 0) := by cases b <;> rfl
  refine WP.cons (WX.assign (d := .int (if b = true then 1 else 0)) (EV.eq (EV.iteI (TR.cmp (EV.headTX (by wtm_at "E") EV.int hlt') (EV.eq EV.str (show _ = TX [45] by with_unfolding_all rfl)) CMP.eqTX rfl) (fun _ => EV.int) (fun _ => EV.int)) (by unfold ftx; rw [head_neg b hds])) (by wtm_at "u") (Then.next ?_))
  have hz1 : val base ds < 2 ^ 64 := by exact oq319 hv
  have hL : (dg (2 ^ wd) (val base ds)).length ≤ 64 := dg_len_small hw hz1
  have hb1 : ((if b = true then (1 : Int) else 0) == 1) = b := by cases b <;> rfl
  have hsg : (sgv b (val base ds)).natAbs < 2 ^ 64 := by (refine rwt (sgv_abs ..) ?_); exact hz1
  cases o with
  | none =>
    refine WP.cons (WX.assign (d := .int (-1)) (EV.eq (EV.find (x := ⟨(ftx b ds none).toArray⟩) (y := ⟨#[47]⟩) (by wtm_at "E") (EV.eq EV.str (show _ = D.str ⟨#[47]⟩ by with_unfolding_all rfl))) (by (refine rwt (find_out (by unfold ftx; rw [List.append_nil]; exact slash_out b ds)) ?_; with_reducible rfl))) (by wtm_at "u") (Then.next ?_))
    refine WP.cons (WX.if_ (by wtm_at "T") (fun _ => ?_) (fun h => absurd h (by decide)))
    have hlen2 : (ftx b ds none).length = ((if b = true then [45] else []) ++ ds.map sg).length := by unfold ftx; (refine rwt (List.append_nil ..) ?_; with_reducible rfl)
    refine WP.cons (WX.assign (d := .int (((if b = true then [45] else []) ++ ds.map sg).length : Nat)) (EV.eq (EV.lenS (by wtm_at "E") (by (refine rwt (tx_len ..) ?_); exact hlt') rfl) (by (refine rwt (tx_len ..) ?_; refine rwt hlen2 ?_; with_reducible rfl))) (by wtm_at "u") (Then.next ?_))
    refine WP.nil (Then.next ?_)
    have hmid : ((ftx b ds none).drop (if b = true then 1 else 0)).take (((if b = true then [45] else []) ++ ds.map sg).length - (if b = true then 1 else 0)) = ds.map sg := by
      unfold ftx; cases b <;> (simp; exact List.take_of_length_le (by simp))
    refine WP.cons (WX.assign (d := LM wd (val base ds)) (EV.callN (by wtm_at "E") (ES.cons (EV.eq (EV.midTX (a := if b = true then 1 else 0) (b := ((if b = true then [45] else []) ++ ds.map sg).length) (by wtm_at "E") (EV.eq (by wtm_at "E") (by cases b <;> rfl)) (by wtm_at "E") hlt' (by cases b <;> simp) (by (refine rwt hlen2 ?_); exact Nat.le_refl _)) (by (refine rwt hmid ?_; with_reducible rfl))) (by wtm_at "S") rfl) (fn_nat_from_text wd base ds _ hb hb2 hw hw2 hds hlt hv (by exact oq504 hlen)) (by decide) rfl) (by wtm_at "u") (Then.next ?_))
    refine WP.cons (WX.assign (d := LM wd 1) (EV.eq (EV.ite (d₁ := LM wd 1) (d₂ := LM wd 1) (TR.cmp (by wtm_at "E") (EV.lenS (by wtm_at "E") (by (refine rwt (tx_len ..) ?_); exact hlt') rfl) CMP.eqI rfl) (fun _ => EV.eq (by wtm_at "E") (LM1 hw).symm) (fun h => by rw [tx_len, hlen2] at h; simp at h)) (by (refine rwt (ite_self ..) ?_; with_reducible rfl))) (by wtm_at "u") (Then.next ?_))
    refine WP.cons (WX.ret (EV.callN (by wtm_at "E") (ES.cons (EV.eq (EV.tup (ES.cons (by wtm_at "E") (ES.cons (by wtm_at "E") ES.nil rfl) rfl) (Nat.le_of_ble_eq_true rfl)) (show _ = SG wd (sgv b (val base ds)) by (refine rwt (len_pos hw) ?_; refine rwt hb1 ?_; refine rwt (SG_of ..) ?_; with_reducible rfl))) (by wtm_at "S") rfl) (fn_r_make wd _ _ P Q (by simpa using he) hl (by decide) hw hw2 hsg (by decide)) (by decide) rfl) (Then.ret rfl))
  | some es =>
    refine xe0_5 (ho es rfl) fun o1 o2 o3 o4 o5 => ?_
    refine WP.cons (WX.assign (d := .int (((if b = true then [45] else []) ++ ds.map sg).length : Nat)) (EV.eq (EV.find (x := ⟨(ftx b ds (some es)).toArray⟩) (y := ⟨#[47]⟩) (by wtm_at "E") (EV.eq EV.str (show _ = D.str ⟨#[47]⟩ by with_unfolding_all rfl))) (by unfold ftx; (refine rwt (find_at (slash_out b ds)) ?_; with_reducible rfl))) (by wtm_at "u") (Then.next ?_))
    refine WP.cons (WX.if_ (by wtm_at "T") (fun h => by have h := of_decide_eq_true h; exact (oq505 h).elim) (fun _ => WP.nil (Then.next ?_)))
    have hlen2 : (ftx b ds (some es)).length = ((if b = true then [45] else []) ++ ds.map sg).length + 1 + es.length := by unfold ftx; simp; exact oq506
    have hmid : ((ftx b ds (some es)).drop (if b = true then 1 else 0)).take (((if b = true then [45] else []) ++ ds.map sg).length - (if b = true then 1 else 0)) = ds.map sg := by
      unfold ftx; cases b <;> simp
    refine WP.cons (WX.assign (d := LM wd (val base ds)) (EV.callN (by wtm_at "E") (ES.cons (EV.eq (EV.midTX (a := if b = true then 1 else 0) (b := ((if b = true then [45] else []) ++ ds.map sg).length) (by wtm_at "E") (EV.eq (by wtm_at "E") (by cases b <;> rfl)) (by wtm_at "E") hlt' (by cases b <;> simp) (by (refine rwt hlen2 ?_); exact oq507)) (by (refine rwt hmid ?_; with_reducible rfl))) (by wtm_at "S") rfl) (fn_nat_from_text wd base ds _ hb hb2 hw hw2 hds hlt hv (by exact oq504 hlen)) (by decide) rfl) (by wtm_at "u") (Then.next ?_))
    have hdrop : (ftx b ds (some es)).drop (((if b = true then [45] else []) ++ ds.map sg).length + 1) = es.map sg := by
      unfold ftx
      (refine rws List.drop_drop ?_; refine rwt List.drop_left ?_)
      rfl
    refine WP.cons (WX.assign (d := LM wd (val base es)) (EV.eq (EV.ite (d₁ := LM wd (val base es)) (d₂ := LM wd (val base es)) (TR.cmp (by wtm_at "E") (EV.lenS (by wtm_at "E") (by (refine rwt (tx_len ..) ?_); exact hlt') rfl) CMP.eqI rfl) (fun h => by rw [tx_len, hlen2] at h; have := eq_of_beq h; exact (oq508 this).elim) (fun _ => EV.callN (by wtm_at "E") (ES.cons (EV.eq (EV.dropTX (a := ((if b = true then [45] else []) ++ ds.map sg).length + 1) (by wtm_at "E") (EV.eq (by wtm_at "E") (by (refine rwt (Int.natCast_add ..) ?_); rfl)) hlt' (by (refine rwt hlen2 ?_); exact oq509)) (by (refine rwt hdrop ?_; with_reducible rfl))) (by wtm_at "S") rfl) (fn_nat_from_text wd base es _ hb hb2 hw hw2 o1 o2 o3 (by exact oq504 o4)) (by decide) rfl)) (by (refine rwt (ite_self ..) ?_; with_reducible rfl))) (by wtm_at "u") (Then.next ?_))
    have hz2 : (((val base es : Nat) : Int)).natAbs < 2 ^ 64 := nab (by exact oq319 o3)
    refine WP.cons (WX.ret (EV.callN (by wtm_at "E") (ES.cons (EV.eq (EV.tup (ES.cons (by wtm_at "E") (ES.cons (by wtm_at "E") ES.nil rfl) rfl) (Nat.le_of_ble_eq_true rfl)) (show _ = SG wd (sgv b (val base ds)) by (refine rwt (len_pos hw) ?_; refine rwt hb1 ?_; refine rwt (SG_of ..) ?_; with_reducible rfl))) (by wtm_at "S") rfl) (fn_r_make wd (sgv b (val base ds)) ((val base es : Nat) : Int) P Q he hl (by exact oq76 o5) hw hw2 hsg hz2) (by decide) rfl) (Then.ret rfl))
end

set_option maxRecDepth 100000
set_option maxHeartbeats 4000000
abbrev payT : Pay := fun _ _ => True
section
variable {w : World} {p : Program} {loose : List Str} {mg mb : Str → Option Value}
theorem rx_r_make (wd : Nat) (a : Int) : RX (GG w p loose mg mb) 1 198 [SG wd a, SG wd 0, .int wd, .fn 345] (.ref 37) payT := by
  refine RX.of ["top", "bottom", "w", "divrem"] ["told"] rfl rfl (len4 fun _ _ _ _ => rfl) rfl (by decide) rfl (fun L h₀ R₀ => ?_)
  simp only [mkVars, List.zip_cons_cons, List.zip_nil_right, List.map_cons, List.map_nil, List.cons_append, List.nil_append]
  (refine rwt (SG0 ..) ?_)
  refine RP.if_ (TR.eq (TR.cmp (EV.len (ds := []) (by wtm_at "E") (by decide) rfl) EV.int CMP.eqI rfl) rfl) (RP.raise_ EV.str rfl (by with_unfolding_all rfl) (fun _ => trivial))
theorem rx_r_inverse (wd b : Nat) : RX (GG w p loose mg mb) 1 233 [RT wd 0 b] (.ref 37) payT := by
  refine RX.of ["x"] [] rfl rfl (len1 fun _ => rfl) rfl (by decide) rfl (fun L h₀ R₀ => ?_)
  simp only [mkVars, List.zip_cons_cons, List.zip_nil_right, List.map_cons, List.map_nil, List.cons_append, List.nil_append]
  (rewrite [RT]; refine rwt (SG0 ..) ?_)
  refine RP.if_ (TR.eq (TR.cmp (EV.len (ds := []) (by wtm_at "E") (by decide) rfl) EV.int CMP.eqI rfl) rfl) (RP.raise_ EV.str rfl (by with_unfolding_all rfl) (fun _ => trivial))
theorem rx_r_div (wd : Nat) (a : Int) (b d : Nat) : RX (GG w p loose mg mb) 2 240 [RT wd a b, RT wd 0 d, .int wd, .fn 338, .fn 345] (.ref 37) payT := by
  refine RX.of ["x", "y", "w", "mul", "divrem"] [] rfl rfl (len5 fun _ _ _ _ _ => rfl) rfl (by decide) rfl (fun L h₀ R₀ => ?_)
  simp only [mkVars, List.zip_cons_cons, List.zip_nil_right, List.map_cons, List.map_nil, List.cons_append, List.nil_append]
  exact RP.ret (REV.args (by wtm_at "E") (RES.tail (by wtm_at "E") (RES.here (REV.call (by wtm_at "E") (by wtm_at "S") (rx_r_inverse wd d) (by decide) rfl))) rfl)
/-- '1/0' -/
theorem rx_nought (wd base : Nat) (hb : 2 ≤ base) (hb2 : base ≤ 36) (hw : 1 ≤ wd) (hw2 : wd ≤ 1000) : RX (GG w p loose mg mb) 4 289 [TX [49, 47, 48], .int base, .int wd, .fn 338, .fn 345] (.ref 37) payT := by
  refine RX.of ["text", "base", "w", "mul", "divrem"] ["begin", "bar", "top", "bottom"] rfl rfl (len5 fun _ _ _ _ _ => rfl) rfl (by decide) rfl (fun L h₀ R₀ => ?_)
  simp only [mkVars, List.zip_cons_cons, List.zip_nil_right, List.map_cons, List.map_nil, List.cons_append, List.nil_append]
  refine RP.next (WX.assign (d := .int 0) (EV.eq (EV.iteI (TR.cmp (EV.headTX (by wtm_at "E") EV.int (by decide)) (EV.eq EV.str (show _ = TX [45] by with_unfolding_all rfl)) CMP.eqTX rfl) (fun _ => EV.int) (fun _ => EV.int)) rfl) (by wtm_at "u") ⟨_, rfl, ?_⟩)
  refine RP.next (WX.assign (d := .int 1) (EV.eq (EV.find (x := ⟨[49, 47, 48].toArray⟩) (y := ⟨#[47]⟩) (by wtm_at "E") (EV.eq EV.str (show _ = D.str ⟨#[47]⟩ by with_unfolding_all rfl))) (show D.int (Txt.find ⟨([49] ++ 47 :: [48]).toArray⟩ ⟨#[47]⟩) = .int 1 by (refine rwt (find_at (by decide)) ?_); rfl)) (by wtm_at "u") ⟨_, rfl, ?_⟩)
  refine RP.next (WX.if_ (by wtm_at "T") (fun h => absurd h (by decide)) (fun _ => WP.nil ⟨_, rfl, ?_⟩))
  refine RP.next (WX.assign (d := LM wd 1) (EV.callN (by wtm_at "E") (ES.cons (EV.eq (EV.midTX (a := 0) (b := 1) (by wtm_at "E") (EV.eq (d := .int 0) (by wtm_at "E") rfl) (EV.eq (d := .int 1) (by wtm_at "E") rfl) (by decide) (by decide) (by decide)) (show _ = TX ([1].map sg) by rfl)) (by wtm_at "S") rfl) (fn_nat_from_text wd base [1] _ hb hb2 hw hw2 (by decide) (by intro d hd; (refine rwt (List.mem_singleton.mp hd) ?_); exact oq33 hb) (by show (0 * base + 1) < 2 ^ 60; exact oq510) (by decide)) (by decide) rfl |>.eq (by show LM wd (0 * base + 1) = LM wd 1; (refine rwt (Nat.zero_mul ..) ?_; with_reducible rfl))) (by wtm_at "u") ⟨_, rfl, ?_⟩)
  refine RP.next (WX.assign (d := LM wd 0) (EV.eq (EV.ite (d₁ := LM wd 0) (d₂ := LM wd 0) (TR.cmp (by wtm_at "E") (EV.lenS (by wtm_at "E") (by decide) rfl) CMP.eqI rfl) (fun h => absurd h (by decide)) (fun _ => EV.callN (by wtm_at "E") (ES.cons (EV.eq (EV.dropTX (a := 2) (by wtm_at "E") (EV.eq (d := .int (1 + 1)) (by wtm_at "E") rfl) (by decide) (by decide)) (show _ = TX ([0].map sg) by rfl)) (by wtm_at "S") rfl) (fn_nat_from_text wd base [0] _ hb hb2 hw hw2 (by decide) (by intro d hd; (refine rwt (List.mem_singleton.mp hd) ?_); exact oq32 hb) (by show (0 * base + 0) < 2 ^ 60; exact oq511) (by decide)) (by decide) rfl |>.eq (by show LM wd (0 * base + 0) = LM wd 0; (refine rwt (Nat.zero_mul ..) ?_; with_reducible rfl)))) (by (refine rwt (ite_self ..) ?_; with_reducible rfl))) (by wtm_at "u") ⟨_, rfl, ?_⟩)
  have hL : (dg (2 ^ wd) 1).length ≤ 64 := dg_len_small hw (by decide)
  exact RP.ret (REV.call (by wtm_at "E") (ES.cons (EV.eq (EV.tup (ES.cons (by wtm_at "E") (ES.cons (by wtm_at "E") ES.nil rfl) rfl) (Nat.le_of_ble_eq_true rfl)) (show _ = SG wd (sgv false 1) by (refine rwt (len_pos hw) ?_; refine rwt (show (((0 : Int) == 1)) = false from rfl) ?_; refine rwt (SG_of ..) ?_; with_reducible rfl))) (by wtm_at "S") rfl) (show RX (GG w p loose mg mb) 1 198 [SG wd (sgv false 1), SG wd ((0 : Nat) : Int), .int wd, .fn 345] (.ref 37) payT from rx_r_make wd _) (by decide) rfl)
end

set_option maxRecDepth 100000
set_option maxHeartbeats 4000000
theorem cancel3 {P X Q m n k : Int} (hk : k ≠ 0) (h1 : X * k = m * n) (h2 : P * k = m * Q) : P * n = X * Q := by
  refine Int.eq_of_mul_eq_mul_right hk ?_
  calc P * n * k = (P * k) * n := by grind
    _ = m * Q * n := by (refine rwt h2 ?_; with_reducible rfl)
    _ = (X * k) * Q := by (refine rwt h1 ?_); grind
    _ = _ := by grind
theorem sign_of {P X n : Int} {Q : Nat} (hn : 0 < n) (hQ : 0 < Q) (h : P * n = X * (Q : Int)) : (0 < P ↔ 0 < X) ∧ (P < 0 ↔ X < 0) := by
  have e : ∀ a b : Int, 0 < b → (0 < a * b ↔ 0 < a) := fun a b hb => ⟨fun h => by
    refine Int.not_le.mp fun h' => ?_
    have := Int.mul_nonneg (show 0 ≤ -a by exact oq56 h') (show 0 ≤ b by exact oq62 hb)
    rw [Int.neg_mul] at this
    exact oq512 h this, fun h => Int.mul_pos h hb⟩
  have e2 : ∀ a b : Int, 0 < b → (a * b < 0 ↔ a < 0) := fun a b hb => by
    have := e (-a) b hb
    rw [Int.neg_mul] at this
    exact oq513 this
  constructor
  · (rewrite [← e P n hn]; refine rwt h ?_; rewrite [e X Q (by exact oq81 hQ)]; with_reducible rfl)
  · (rewrite [← e2 P n hn]; refine rwt h ?_; rewrite [e2 X Q (by exact oq81 hQ)]; with_reducible rfl)
section
variable {w : World} {p : Program} {loose : List Str} {mg mb : Str → Option Value}
theorem reckoned {A : Around} {E : Value → Shared → Prop} {s : Shared} {R : Led} {Q : Value → Shared → Prop} {l : List Env} {b₀ : Heap} {vs : List Value} (wd : Nat) (a b c d : Int) (hw : 1 ≤ wd) (hw2 : wd ≤ 1000) (ha : a.natAbs < 2 ^ 10) (hb : b.natAbs < 2 ^ 10) (hc : c.natAbs < 2 ^ 10) (hd : d.natAbs < 2 ^ 10) (hb0 : b ≠ 0) (hd0 : d ≠ 0)
    (hA : AOk 9 A) (hfr : A.frames = some l) (hFF : FF l s.heap) (B : Base (GG w p loose mg mb) b₀ l s.heap) (hz : b₀.objs.size ≤ s.heap.objs.size) (hbm : BmOk mg b₀) (hCd : CodeHd b₀ 391 387) (hP0 : b₀.get? 387 = none) (hP : s.heap.get? 387 = some (tabObj #[])) (hPl : 387 ∉ frs l)
    (hL : ∀ p ∈ R, s.heap.get? p.1 = some p.2) (hR : ∀ p ∈ R, p.1 ≠ 387 ∧ p.1 ∉ frs l) (hI : IsAll R vs [.int a, .int b, .int c, .int d, .int wd])
    (q : ∀ s', Rest s s' → Lam l 387 s.heap s'.heap → (∃ ps, s'.heap.get? 387 = some (tabObj ps)) → Q (.bool true) s') : wpAny (GG w p loose mg mb).M A (call (.ref 392) vs) Q E s := by
  have z1 : a.natAbs < 2 ^ 64 := by exact oq514 ha
  have z2 : b.natAbs < 2 ^ 64 := by exact oq514 hb
  have z3 : c.natAbs < 2 ^ 64 := by exact oq514 hc
  have z4 : d.natAbs < 2 ^ 64 := by exact oq514 hd
  have z5 : a.natAbs < 2 ^ 30 := by exact oq515 ha
  have z6 : b.natAbs < 2 ^ 30 := by exact oq515 hb
  have z7 : c.natAbs < 2 ^ 30 := by exact oq515 hc
  have z8 : d.natAbs < 2 ^ 30 := by exact oq515 hd
  refine xe2_2 (low_ex a hb0) fun P₁ Q₁ l1 e1 => ?_
  refine xe2_2 (low_ex c hd0) fun P₂ Q₂ l2 e2 => ?_
  refine xe0_2 (low_bound l1 hb0 e1) fun b1 b2 => ?_
  refine xe0_2 (low_bound l2 hd0 e2) fun b3 b4 => ?_
  have y1 : P₁.natAbs < 2 ^ 30 := by exact oq516 b1 z5
  have y2 : Q₁ < 2 ^ 30 := by exact oq517 z6 b2
  have y3 : P₂.natAbs < 2 ^ 30 := by exact oq516 b3 z7
  have y4 : Q₂ < 2 ^ 30 := by exact oq517 z8 b4
  have q1 := l1.pos
  have q2 := l2.pos
  have mm : ∀ x y : Int, x.natAbs < 2 ^ 10 → y.natAbs < 2 ^ 10 → (x * y).natAbs < 2 ^ 20 := fun x y hx hy => by
    (refine rwt (Int.natAbs_mul ..) ?_)
    calc x.natAbs * y.natAbs ≤ x.natAbs * 2 ^ 10 := Nat.mul_le_mul_left _ (by exact oq518 hy)
      _ < 2 ^ 10 * 2 ^ 10 := Nat.mul_lt_mul_of_pos_right hx (by decide)
  have m1 := mm a d ha hd
  have m2 := mm c b hc hb
  have m3 := mm b d hb hd
  have m4 := mm a c ha hc
  have m5 := mm b c hb hc
  have v1 : (a * d + c * b).natAbs < 2 ^ 30 := by exact oq519 m1 m2
  have v2 : (a * d - c * b).natAbs < 2 ^ 30 := by exact oq520 m1 m2
  have v3 : (b * d).natAbs < 2 ^ 30 := by exact oq521 m3
  have v4 : (a * c).natAbs < 2 ^ 30 := by exact oq521 m4
  have v5 : (a * d).natAbs < 2 ^ 30 := by exact oq521 m1
  have v6 : (b * c).natAbs < 2 ^ 30 := by exact oq521 m5
  have hbd : b * d ≠ 0 := fun h => by
    rcases Int.mul_eq_zero.mp h with h | h
    · exact hb0 h
    · exact hd0 h
  refine xe2_2 (low_ex (a * d + c * b) hbd) fun P₃ Q₃ l3 e3 => ?_
  refine xe2_2 (low_ex (a * d - c * b) hbd) fun P₄ Q₄ l4 e4 => ?_
  refine xe2_2 (low_ex (a * c) hbd) fun P₅ Q₅ l5 e5 => ?_
  have f3 : P₃ * (Q₁ * Q₂ : Int) = (P₁ * Q₂ + P₂ * Q₁) * (Q₃ : Int) := cancel3 hbd (by
    calc (P₁ * Q₂ + P₂ * Q₁) * (b * d) = (P₁ * b) * (Q₂ * d) + (P₂ * d) * (Q₁ * b) := by grind
      _ = _ := by (refine rwt e1 ?_; refine rwt e2 ?_); grind) e3
  have f4 : P₄ * (Q₁ * Q₂ : Int) = (P₁ * Q₂ - P₂ * Q₁) * (Q₄ : Int) := cancel3 hbd (by
    calc (P₁ * Q₂ - P₂ * Q₁) * (b * d) = (P₁ * b) * (Q₂ * d) - (P₂ * d) * (Q₁ * b) := by grind
      _ = _ := by (refine rwt e1 ?_; refine rwt e2 ?_); grind) e4
  have f5 : P₅ * (Q₁ * Q₂ : Int) = P₁ * P₂ * (Q₅ : Int) := cancel3 hbd (by
    calc P₁ * P₂ * (b * d) = (P₁ * b) * (P₂ * d) := by grind
      _ = _ := by (refine rwt e1 ?_; refine rwt e2 ?_); grind) e5
  refine call_CE (g := GG w p loose mg mb) (n := 8) (ds := [.int a, .int b, .int c, .int d, .int wd]) ["a", "b", "c", "d", "w"] [("a", .int a), ("b", .int b), ("c", .int c), ("d", .int d)] [("w", .int wd)] ["order"] rfl rfl (len5 fun _ _ _ _ _ => rfl) rfl (by decide) (show (["a", "b", "c", "d", "order"] : List Str).Nodup by decide) (fun k => rfl) ?_ rfl ?_ (fun k => rfl) hA B.glOk hL hI (fun h₁ tk cells c1 S₀ c4 c5 k₁ hAd => ?_) rfl rfl rfl
  · intro q hq
    simp only [List.mem_cons, List.not_mem_nil, or_false] at hq
    rcases hq with rfl | rfl | rfl | rfl
    · exact .head _
    · exact .tail _ (.head _)
    · exact .tail _ (.tail _ (.head _))
    · exact .tail _ (.tail _ (.tail _ (.head _)))
  · intro q hq
    rw [List.mem_singleton] at hq
    subst hq
    exact .tail _ (.tail _ (.tail _ (.tail _ (.head _))))
  have hCw : CellAt ⟨_, b₀, cells ++ R⟩ "w" (.int wd) := (c1 _ (.head _)).mono fun _ h => h
  clear c1
  simp only [List.map_cons, List.map_nil, List.cons_append, List.nil_append] at S₀
  have S₁ := S₀.rebase rfl B.gl B.sub hz
  have hLn : s.heap.get? s.heap.objs.size = none := Heap.get?_none_of_le (Nat.le_refl _)
  have hbn : ∀ k : Nat, b₀.get? (s.heap.objs.size + k) = none := fun k => Heap.get?_none_of_le (Nat.le_trans hz (Nat.le_add_right _ _))
  have hsn : ∀ k : Nat, s.heap.get? (s.heap.objs.size + k) = none := fun k => Heap.get?_none_of_le (Nat.le_add_right _ _)
  have hR₁ : ∀ k : Nat, 2 ≤ k → ∀ p ∈ cells ++ R, p.1 ≠ s.heap.objs.size + k := fun k hk p hp e => by
    rcases List.mem_append.mp hp with hp | hp
    · refine xe1_2 (c4 p hp) fun q hq hl => ?_
      rw [List.mem_singleton.mp hq] at hl
      have : some (s.heap.objs.size + 1) = some p.1 := hl
      have := Option.some.inj this
      rw [e] at this
      exact absurd (Nat.add_left_cancel this) (by exact oq522 hk)
    · have := Heap.lt_size (hL p hp)
      rw [e] at this
      exact absurd this (Nat.not_lt.mpr (Nat.le_add_right _ _))
  have cx := c5 "x" (s.heap.objs.size + 2) rfl (by decide)
  have cy := c5 "y" (s.heap.objs.size + 3) rfl (by decide)
  refine wpAny_execs_cons ?_
  refine assignCell (c := s.heap.objs.size + 2) (d := RT wd P₁ Q₁) hAd S₁ ?no ?e ?c cx (hbn 2) (hR₁ 2 (by decide)) ?l ?q ?r1 ?r2 ?r3
  case no => rfl
  case r1 => rfl
  case r2 => rfl
  case r3 => rfl
  case l => exact Nat.ne_of_gt (Nat.lt_add_of_pos_right (by decide))
  case c => rfl
  case e => wtm_at "E"
  case q =>
    intro s₂ R₂ rs₂ m₂ n₂ k₂ S₂ hCx
    have hne : ∀ k j : Nat, k ≠ j → s.heap.objs.size + k ≠ s.heap.objs.size + j := fun k j h e => h (Nat.add_left_cancel e)
    have cy₂ : s₂.heap.IsCell (s.heap.objs.size + 3) none := by
      refine xe1_2 cy fun o ho hd => ?_
      try clear cy
      exact ⟨o, k₂ _ _ (hne 3 2 (by decide)) ho, hd⟩
    have hR₂ : ∀ p ∈ R₂, p.1 ≠ s.heap.objs.size + 3 := fun p hp e => by
      rcases n₂ p hp with h | h | h
      · exact hR₁ 3 (by decide) p h e
      · refine xe1_2 cy fun o ho _ => ?_
        try clear cy
        rw [e] at h
        rw [ho] at h; cases h
      · exact hne 3 2 (by decide) (e.symm.trans h)
    have hCw₂ : CellAt ⟨_, b₀, R₂⟩ "w" (.int wd) := hCw.mono m₂
    clear hCw
    show wpAny _ _ (execs _ _) _ _ s₂
    refine wpAny_execs_cons ?_
    refine assignCell (c := s.heap.objs.size + 3) (d := RT wd P₂ Q₂) hAd S₂ ?no ?e ?c cy₂ (hbn 3) hR₂ ?l ?q ?r1 ?r2 ?r3
    case no => rfl
    case r1 => rfl
    case r2 => rfl
    case r3 => rfl
    case l => exact Nat.ne_of_gt (Nat.lt_add_of_pos_right (by decide))
    case c => rfl
    case e => wtm_at "E"
    case q =>
      intro s₃ R₃ rs₃ m₃ n₃ k₃ S₃ hCy
      have hCw₃ : CellAt ⟨_, b₀, R₃⟩ "w" (.int wd) := hCw₂.mono m₃
      have hCx₃ : CellAt ⟨_, b₀, R₃⟩ "x" (RT wd P₁ Q₁) := hCx.mono m₃
      clear hCw₂ hCx
      have keep₃ : ∀ b o, s.heap.get? b = some o → s₃.heap.get? b = some o := fun b o e =>
        k₃ _ _ (fun z => by rw [z, hsn 3] at e; cases e) (k₂ _ _ (fun z => by rw [z, hsn 2] at e; cases e) (k₁ _ _ e))
      have loc₃ : ∃ o, s₃.heap.get? s.heap.objs.size = some o := S₃.loc
      have loc₁ : ∃ o, h₁.get? s.heap.objs.size = some o := S₀.loc
      have loc₂ : ∃ o, s₂.heap.get? s.heap.objs.size = some o := S₂.loc
      have ex : ∀ b, (b = 387 ∨ b ∈ s.heap.objs.size :: frs l) → b ≤ s.heap.objs.size ∧ (∃ o, h₁.get? b = some o) ∧ ∃ o, s₂.heap.get? b = some o := fun b hb => by
        rcases hb with rfl | hb
        · exact ⟨Nat.le_of_lt (Heap.lt_size hP), ⟨_, k₁ _ _ hP⟩, _, k₂ _ _ (fun z => by have := Heap.lt_size hP; rw [z] at this; exact absurd this (Nat.not_lt.mpr (Nat.le_add_right _ _))) (k₁ _ _ hP)⟩
        · rcases List.mem_cons.mp hb with rfl | hb
          · exact ⟨Nat.le_refl _, loc₁, loc₂⟩
          · refine xe1_1 (frs_old hFF b hb) fun o ho => ?_
            exact ⟨Nat.le_of_lt (Heap.lt_size ho), ⟨_, k₁ _ _ ho⟩, _, k₂ _ _ (fun z => by have := Heap.lt_size ho; rw [z] at this; exact absurd this (Nat.not_lt.mpr (Nat.le_add_right _ _))) (k₁ _ _ ho)⟩
      have new₃ : ∀ p ∈ R₃, p.1 ≠ 387 ∧ p.1 ∉ (s.heap.objs.size :: frs l) := fun p hp => by
        have key : ∀ b, (b = 387 ∨ b ∈ s.heap.objs.size :: frs l) → p.1 ≠ b := fun b hb z => by
          refine wrapG fun W_ k_ => ?_
          refine xe0_3 (ex b hb) fun x1 g_1 r_0 => ?_
          refine xe1_1 r_0 fun o2 x3 => ?_
          obtain ⟨o1, x2⟩ := g_1
          refine k_ ?_
          clear k_ W_
          have big : ∀ k : Nat, 1 ≤ k → p.1 ≠ s.heap.objs.size + k := fun k hk e => by
            rw [← z, e] at x1
            exact absurd x1 (Nat.not_le.mpr (Nat.lt_add_of_pos_right hk))
          rcases n₃ p hp with h | h | h
          · rcases n₂ p h with h | h | h
            · rcases List.mem_append.mp h with h | h
              · refine xe1_2 (c4 p h) fun q hq hl => ?_
                rw [List.mem_singleton.mp hq] at hl
                have : some (s.heap.objs.size + 1) = some p.1 := hl
                exact big 1 (by decide) (Option.some.inj this).symm
              · rcases hb with rfl | hb
                · exact (hR p h).1 z
                · rcases List.mem_cons.mp hb with rfl | hb
                  · exact absurd (Heap.lt_size (hL p h)) (by (refine rwt z ?_); exact Nat.lt_irrefl _)
                  · exact (hR p h).2 (z ▸ hb)
            · rw [z, x2] at h; cases h
            · exact big 2 (by decide) h
          · rw [z, x3] at h; cases h
          · exact big 3 (by decide) h
        exact ⟨key _ (.inl rfl), fun hm => key _ (.inr hm) rfl⟩
      show wpAny _ _ (execs _ _) _ _ s₃
      refine KP.run (I := RI l 387 s) (Post := fun s' => Rest s s' ∧ Lam l 387 s.heap s'.heap ∧ ∃ ps, s'.heap.get? 387 = some (tabObj ps)) hAd (Around.frames_deeper hfr) S₃ ⟨(Rest.mk'.trans rs₂).trans rs₃, keep₃, loc₃, new₃⟩ (fun s' hp => q s' hp.1 hp.2.1 hp.2.2) ?_
      refine KP.stmt (RI.stable hFF ⟨_, hP⟩) (LX.if_ (by wtm_at "T") (fun h => absurd h (by decide)) (fun _ => LP.nil ⟨_, rfl, ?_⟩))
      refine KP.stmt (RI.stable hFF ⟨_, hP⟩) (LX.if_ (by wtm_at "T") (fun h => absurd h (by decide)) (fun _ => LP.nil ⟨_, rfl, ?_⟩))
      refine KP.stmt (RI.stable hFF ⟨_, hP⟩) (LX.if_ (by wtm_at "T") (fun h => absurd h (by decide)) (fun _ => LP.nil ⟨_, rfl, ?_⟩))
      refine KP.stmt (RI.stable hFF ⟨_, hP⟩) (LX.if_ (by wtm_at "T") (fun h => absurd h (by decide)) (fun _ => LP.nil ⟨_, rfl, ?_⟩))
      refine KP.stmt (RI.stable hFF ⟨_, hP⟩) (LX.assign (d := .int P₄) (by wtm_at "E") (by wtm_at "u") ⟨_, rfl, ?_⟩)
      refine KP.stmt (RI.stable hFF ⟨_, hP⟩) (LX.if_ (by wtm_at "T") (fun h => absurd h ?_) (fun _ => LP.nil ⟨_, rfl, ?_⟩))
      · have hn : (0 : Int) < (Q₁ : Int) * (Q₂ : Int) := Int.mul_pos (by exact oq81 q1) (by exact oq81 q2)
        refine xe0_2 (sign_of hn l4.pos f4) fun g1 g2 => ?_
        revert h
        have e : cmpZ (P₁ * ↑Q₂) (P₂ * ↑Q₁) = b2i (decide (0 < P₄)) - b2i (decide (P₄ < 0)) := by
          unfold cmpZ b2i
          rcases Int.lt_trichotomy (P₁ * ↑Q₂) (P₂ * ↑Q₁) with h | h | h
          · (refine rwt (if_pos h) ?_; refine rwt (decide_eq_false (fun z => by have := g1.mp z; exact oq523 this h)) ?_; refine rwt (decide_eq_true (g2.mpr (by exact oq524 h))) ?_)
            rfl
          · (refine rwt (if_neg (by exact oq346 h)) ?_; refine rwt (if_neg (by exact oq347 h)) ?_; refine rwt (decide_eq_false (fun z => by have := g1.mp z; exact oq525 this h)) ?_; refine rwt (decide_eq_false (fun z => by have := g2.mp z; exact oq526 this h)) ?_)
            rfl
          · (refine rwt (if_neg (by exact oq356 h)) ?_; refine rwt (if_pos (by exact oq527 h)) ?_; refine rwt (decide_eq_true (g1.mpr (by exact oq528 h))) ?_; refine rwt (decide_eq_false (fun z => by have := g2.mp z; exact oq529 this h)) ?_)
            rfl
        (refine rwt e ?_; refine rwt (bne_self_eq_false ..) ?_)
        decide
      by_cases hc0 : c = 0
      · subst hc0
        have hz2 : P₂ = 0 ∧ Q₂ = 1 := l2.isZero hd0 e2 rfl
        refine xe0_2 hz2 fun e_1 e_2 => ?_
        subst e_1
        subst e_2
        try clear hz2
        have LA : LamAt l 387 b₀ s := ⟨hFF, B.out, hz, hP0, hP, hPl⟩
        refine KP.ifT (RI.stable hFF ⟨_, hP⟩) (TR.eq (TR.cmp (by wtm_at "E") EV.int CMP.eqI rfl) rfl) ?_
        refine KP.div2 (n := 6) (c := 391) (P := 387) (clos₁ := _) (clos₂ := _) LA rfl hbm hCd (by decide) rfl rfl (fun L h₀ fA c' R' hs => ?_) (fun L h₀ fA c' R' hs => ?_) (by decide) (by decide) rfl rfl rfl rfl rfl rfl rfl rfl rfl rfl
        · exact REV.call (by wtm_at "E") (ES.cons (EV.freeAt (hCx₃.to rfl hs) rfl rfl (by decide) (by decide)) (ES.cons (EV.freeAt (hCy.to rfl hs) rfl rfl (by decide) (by decide)) (ES.cons (EV.freeAt (hCw₃.to rfl hs) rfl rfl (by decide) (by decide)) (by wtm_at "S") rfl) rfl) rfl) (rx_r_div wd P₁ Q₁ 1) (by decide) rfl
        · exact REV.call (by wtm_at "E") (ES.cons (EV.freeAt (hCy.to rfl hs) rfl rfl (by decide) (by decide)) ES.nil rfl) (rx_r_inverse wd 1) (by decide) rfl
      · refine KP.stmt (RI.stable hFF ⟨_, hP⟩) (LX.if_ (by wtm_at "T") (fun h => absurd (beq_iff_eq.mp h) hc0) (fun _ => LP.nil ⟨_, rfl, ?_⟩))
        have hc1 : P₂ ≠ 0 := by
          intro e
          rw [e, Int.zero_mul] at e2
          rcases Int.mul_eq_zero.mp e2.symm with h | h
          · exact hc0 h
          · exact oq490 h q2
        have hbc : b * c ≠ 0 := fun h => by
          rcases Int.mul_eq_zero.mp h with h | h
          · exact hb0 h
          · exact hc0 h
        refine xe2_2 (low_ex (a * d) hbc) fun P₆ Q₆ l6 e6 => ?_
        have f6 : P₆ * (Q₁ * P₂.natAbs : Int) = P₁ * sgv (decide (P₂ < 0)) Q₂ * (Q₆ : Int) := cancel3 hbc (by
          have hs : sgv (decide (P₂ < 0)) Q₂ * c = P₂.natAbs * d := by
            unfold sgv
            by_cases hp : P₂ < 0
            · (refine rwt (decide_eq_true hp) ?_; refine rwt (if_pos rfl) ?_; refine rwt (show (P₂.natAbs : Int) = -P₂ by exact oq52 hp) ?_)
              grind
            · (refine rwt (decide_eq_false hp) ?_; refine rwt (if_neg (by decide)) ?_; refine rwt (show (P₂.natAbs : Int) = P₂ by exact oq51 hp) ?_)
              grind
          calc P₁ * sgv (decide (P₂ < 0)) Q₂ * (b * c) = (P₁ * b) * (sgv (decide (P₂ < 0)) Q₂ * c) := by grind
            _ = _ := by (refine rwt e1 ?_; refine rwt hs ?_); grind) e6
        exact KP.ret (RI.stable hFF ⟨_, hP⟩) (by wtm_at "E") (fun R' s' i => i.post hP)
end

set_option maxRecDepth 100000
set_option maxHeartbeats 4000000
section
variable {w : World} {p : Program} {loose : List Str} {mg mb : Str → Option Value}
theorem rx_nat_empty (wd base : Nat) (spot : Int) : RX (GG w p loose mg mb) 2 282 [TX [], .int spot, .int base, .int wd, .fn 338] (.ref 58) (payAt spot) := by
  refine RX.of ["text", "spot", "base", "w", "mul"] ["found", "told", "at", "sign", "digit"] rfl rfl (len5 fun _ _ _ _ _ => rfl) rfl (by decide) rfl (fun L h₀ R₀ => ?_)
  simp only [mkVars, List.zip_cons_cons, List.zip_nil_right, List.map_cons, List.map_nil, List.cons_append, List.nil_append]
  exact RP.if_ (TR.eq (TR.cmp (EV.lenS (by wtm_at "E") (by decide) rfl) EV.int CMP.eqI rfl) rfl) (RP.raiseB (by wtm_at "E") (by decide))
theorem rx_nat_bad (wd base : Nat) (ds : List Nat) (c : Nat) (t : List Nat) (spot : Int) (z : Int) (hb : 2 ≤ base) (hb2 : base ≤ 36) (hw : 1 ≤ wd) (hw2 : wd ≤ 1000) (hlt : ∀ d ∈ ds, d < base) (hv : val base ds < 2 ^ 60) (hlen : ds.length ≤ 1000) (ht : t.length ≤ 1000)
    (hz : Txt.find signsS (Txt.lower ⟨#[c]⟩) = z) (hz2 : ¬ (0 ≤ z ∧ z < base)) :
    RX (GG w p loose mg mb) 3 282 [TX (ds.map sg ++ c :: t), .int spot, .int base, .int wd, .fn 338] (.ref 58) (payAt (spot + ds.length)) := by
  refine RX.of ["text", "spot", "base", "w", "mul"] ["found", "told", "at", "sign", "digit"] rfl rfl (len5 fun _ _ _ _ _ => rfl) rfl (by decide) rfl (fun L h₀ R₀ => ?_)
  simp only [mkVars, List.zip_cons_cons, List.zip_nil_right, List.map_cons, List.map_nil, List.cons_append, List.nil_append]
  have z1 : base < 2 ^ 64 := by exact oq476 hb2
  have z0 : base < 2 ^ 1000 := Nat.lt_of_lt_of_le z1 (Nat.pow_le_pow_right (by decide) (by decide))
  have htl : (ds.map sg ++ c :: t).length = ds.length + 1 + t.length := by simp; exact oq530
  refine RP.next (WX.if_ (TR.cmp (EV.lenS (by wtm_at "E") (by (refine rwt (tx_len ..) ?_; refine rwt htl ?_); exact oq531 hlen ht) rfl) (by wtm_at "E") CMP.eqI rfl) (fun h => ?_) (fun h => WP.nil ⟨_, rfl, ?_⟩))
  · rw [tx_len, htl] at h
    have := eq_of_beq h
    exact (oq532 this).elim
  refine RP.next (WX.own1 (by wtm_at "S") (by wtm_at "U") (by wtm_at "u") rfl ⟨_, rfl, ?_⟩ rfl rfl rfl rfl rfl)
  refine RP.freeze (by wtm_at "p") ?_
  refine RP.forB (ITERP.enum (by wtm_at "E") rfl) (fun i σ => i ≤ ds.length ∧ ∃ (s₁ s₂ s₃ : Sl), s₁.plain = true ∧ s₂.plain = true ∧ s₃.plain = true ∧
      σ = [V "text" (TX (ds.map sg ++ c :: t)), V "spot" (.int spot), V "base" (.int base), V "w" (.int wd), V "mul" (.fn 338), V "found" (LM wd (val base (ds.take i))), V "told" (LM wd base), (PySem.Str.ofString "at", s₁), (PySem.Str.ofString "sign", s₂), (PySem.Str.ofString "digit", s₃)])
      ⟨Nat.zero_le _, _, _, _, rfl, rfl, rfl, by (refine rwt List.take_zero ?_; refine rwt (show val base [] = 0 from rfl) ?_; refine rwt (LM0 ..) ?_; with_reducible rfl)⟩ (by
        intro i σ hh_
        refine wrapG fun W_ k_ => ?_
        refine xe0_2 hh_ fun hi r_0 => ?_
        refine xe3_4 r_0 fun s₁ s₂ s₃ p₁ p₂ p₃ e_1 => ?_
        subst e_1
        try clear hh_
        refine k_ ?_
        clear k_ W_
        simp only [noOwn, List.all_cons, List.all_nil, p₁, p₂, p₃, Bool.and_true]; rfl) ?_ ?_
  · intro i d₁ d₂ σ hd hh_
    refine wrapG fun W_ k_ => ?_
    refine xe0_2 hh_ fun hle r_0 => ?_
    refine xe3_4 r_0 fun s₁ s₂ s₃ p₁ p₂ p₃ e_1 => ?_
    subst e_1
    try clear hh_
    refine k_ ?_
    clear k_ W_
    refine xe0_3 (signsAt_get hd) fun hi e_1 e_2 => ?_
    subst e_1
    subst e_2
    refine ⟨_, .cons (.tail (.tail (.tail (.tail (.tail (.tail (.tail (.here p₁)))))))) (.cons (.tail (.tail (.tail (.tail (.tail (.tail (.tail (.tail (.here p₂))))))))) .nil), ?_⟩
    rcases Nat.lt_or_eq_of_le hle with hi2 | rfl
    · have hc : (⟨((ds.map sg ++ c :: t).toArray)⟩ : Str).cps.getD i 0 = sg (ds[i]) := by
        simp [Array.getD_eq_getD_getElem?, List.getElem?_append_left, hi2]
      (refine rwt hc ?_)
      have hd' : ds[i] < base := hlt _ (List.getElem_mem hi2)
      have hd36 : ds[i] < 36 := by exact oq482 hb2 hd'
      have htk : ds.take (i + 1) = ds.take i ++ [ds[i]] := by (refine rwt (List.take_succ_eq_append_getElem hi2) ?_; with_reducible rfl)
      have hmono : val base (ds.take i) * base + ds[i] ≤ val base ds := by
        have := val_mono (show 1 ≤ base by exact oq238 hb) (ds.drop (i + 1)) (ds.take (i + 1))
        rw [List.take_append_drop, htk, val_snoc] at this
        exact this
      have hm2 : val base (ds.take i) ≤ val base (ds.take i) * base := Nat.le_mul_of_pos_right _ (by exact oq32 hb)
      have y1 : val base (ds.take i) < 2 ^ 64 := by exact oq533 hmono hm2 hv
      have y2 : val base (ds.take i) * base < 2 ^ 64 := by exact oq492 hmono hv
      have y3 : ds[i] < 2 ^ 64 := by exact oq493 hd36
      have y4 : ds[i] < 2 ^ 1000 := Nat.lt_of_lt_of_le y3 (Nat.pow_le_pow_right (by decide) (by decide))
      refine LP.cons (LX.assign (d := .int ((ds[i] : Nat) : Int)) (EV.eq (EV.find (EV.globS (x := Str.ofString "SIGNS") (y := signsS) (by with_unfolding_all rfl) rfl rfl rfl (by decide)) (EV.lower (x := ⟨#[sg ds[i]]⟩) (by wtm_at "E") (show 1 ≤ 100000 by decide))) (by (refine rwt (dig_ok hd36) ?_; with_reducible rfl))) (.tail (.tail (.tail (.tail (.tail (.tail (.tail (.tail (.tail (.here p₃)))))))))) (ThenL.next ?_))
      refine LP.cons (LX.if_ (TR.not (TR.cmp2 (by wtm_at "E") (by wtm_at "E") (by wtm_at "E") CMP.leI CMP.ltI)) (fun h => ?_) (fun h => LP.nil (ThenL.next ?_)))
      · rw [decide_eq_true (show (0 : Int) ≤ ((ds[i] : Nat) : Int) by exact oq83), decide_eq_true (show ((ds[i] : Nat) : Int) < (base : Int) by exact oq244 hd')] at h
        cases h
      refine LP.cons (LX.assign (d := LM wd (val base (ds.take i) * base + ds[i])) (by wtm_at "E") (by wtm_at "u") (ThenL.next ?_))
      refine LP.nil ⟨_, rfl, hi2, _, _, _, rfl, rfl, rfl, by (refine rwt htk ?_; refine rwt (val_snoc ..) ?_; with_reducible rfl)⟩
    · have hc : (⟨((ds.map sg ++ c :: t).toArray)⟩ : Str).cps.getD ds.length 0 = c := by
        simp [Array.getD_eq_getD_getElem?]
      (refine rwt hc ?_)
      refine LP.cons (LX.assign (d := .int z) (EV.eq (EV.find (EV.globS (x := Str.ofString "SIGNS") (y := signsS) (by with_unfolding_all rfl) rfl rfl rfl (by decide)) (EV.lower (x := ⟨#[c]⟩) (by wtm_at "E") (show 1 ≤ 100000 by decide))) (by (refine rwt hz ?_; with_reducible rfl))) (.tail (.tail (.tail (.tail (.tail (.tail (.tail (.tail (.tail (.here p₃)))))))))) (ThenL.next ?_))
      refine LP.cons (LX.if_ (TR.not (TR.cmp2 (by wtm_at "E") (by wtm_at "E") (by wtm_at "E") CMP.leI CMP.ltI)) (fun h => ?_) (fun h => absurd h ?_))
      · exact LP.raiseB (by wtm_at "E") (by decide)
      · simp only [Bool.not_eq_false', Bool.and_eq_true, decide_eq_true_eq]
        exact hz2
  · intro σ hh_
    refine xe0_2 hh_ fun hle _ => ?_
    try clear hh_
    have : (signsAt ⟨(ds.map sg ++ c :: t).toArray⟩).length = ds.length + 1 + t.length := by unfold signsAt; (refine rwt (List.length_map ..) ?_; refine rwt List.length_range ?_; refine rwt (tx_len ..) ?_; refine rwt htl ?_; with_reducible rfl)
    exact oq534 this hle
end

set_option maxRecDepth 100000
set_option maxHeartbeats 4000000
/-- the sign's text -/
def sgt (b : Bool) : List Nat := if b = true then [45] else []
theorem sgt_len (b : Bool) : (sgt b).length = (if b = true then 1 else 0) := by cases b <;> rfl
theorem sgt_out (b : Bool) : 47 ∉ sgt b := by cases b <;> simp [sgt]
theorem head_sgt {b : Bool} {T : List Nat} (h : T.head? ≠ some 45) : ((sgt b ++ T).take 1 == [45]) = b := by
  cases b
  · cases T with
    | nil => rfl
    | cons a t =>
      have : a ≠ 45 := fun e => h (by (refine rwt e ?_); rfl)
      simp [sgt, this]
  · simp [sgt]
section
variable {w : World} {p : Program} {loose : List Str} {mg mb : Str → Option Value}
theorem rx_rft_top (wd base : Nat) (b : Bool) (T suf : List Nat) (k : Int) (h1 : 47 ∉ T) (h2 : suf = [] ∨ ∃ B, suf = 47 :: B) (h3 : (T ++ suf).head? ≠ some 45) (hz : (sgt b ++ T ++ suf).length ≤ 1000000)
    (hT : RX (GG w p loose mg mb) 3 282 [TX T, .int (if b = true then 1 else 0), .int base, .int wd, .fn 338] (.ref 58) (payAt k)) :
    RX (GG w p loose mg mb) 4 289 [TX (sgt b ++ T ++ suf), .int base, .int wd, .fn 338, .fn 345] (.ref 58) (payAt k) := by
  refine RX.of ["text", "base", "w", "mul", "divrem"] ["begin", "bar", "top", "bottom"] rfl rfl (len5 fun _ _ _ _ _ => rfl) rfl (by decide) rfl (fun L h₀ R₀ => ?_)
  simp only [mkVars, List.zip_cons_cons, List.zip_nil_right, List.map_cons, List.map_nil, List.cons_append, List.nil_append]
  have h4 : 47 ∉ sgt b ++ T := fun h => by
    rcases List.mem_append.mp h with h | h
    · exact sgt_out b h
    · exact h1 h
  have hmid : ((sgt b ++ T ++ suf).drop (if b = true then 1 else 0)).take ((sgt b ++ T).length - (if b = true then 1 else 0)) = T := by
    (refine rws (sgt_len ..) ?_; refine rwt (List.append_assoc ..) ?_; refine rwt List.drop_left ?_; refine rwt List.length_append ?_; refine rwt (Nat.add_sub_cancel_left ..) ?_; refine rwt List.take_left ?_; with_reducible rfl)
  have hle : (sgt b ++ T).length ≤ (sgt b ++ T ++ suf).length := by (refine rwt (List.length_append (as := sgt b ++ T)) ?_); exact oq535
  refine RP.next (WX.assign (d := .int (if b = true then 1 else 0)) (EV.eq (EV.iteI (TR.cmp (EV.headTX (by wtm_at "E") EV.int hz) (EV.eq EV.str (show _ = TX [45] by with_unfolding_all rfl)) CMP.eqTX rfl) (fun _ => EV.int) (fun _ => EV.int)) (by (refine rwt (List.append_assoc ..) ?_; refine rwt (head_sgt h3) ?_; with_reducible rfl))) (by wtm_at "u") ⟨_, rfl, ?_⟩)
  rcases h2 with rfl | ⟨B, rfl⟩
  · refine RP.next (WX.assign (d := .int (-1)) (EV.eq (EV.find (x := ⟨(sgt b ++ T ++ []).toArray⟩) (y := ⟨#[47]⟩) (by wtm_at "E") (EV.eq EV.str (show _ = D.str ⟨#[47]⟩ by with_unfolding_all rfl))) (by (refine rwt (find_out (by rw [List.append_nil]; exact h4)) ?_; with_reducible rfl))) (by wtm_at "u") ⟨_, rfl, ?_⟩)
    refine RP.next (WX.if_ (Q := fun o => ∃ σ', o = .next σ' ∧ _) (by wtm_at "T") (fun _ => WP.cons (WX.assign (d := .int ((sgt b ++ T).length : Nat)) (EV.eq (EV.lenS (by wtm_at "E") (by (refine rwt (tx_len ..) ?_); exact hz) rfl) (by (refine rwt (tx_len ..) ?_; refine rwt (List.append_nil ..) ?_; with_reducible rfl))) (by wtm_at "u") (Then.next (WP.nil ⟨_, rfl, ?_⟩)))) (fun h => absurd h (by decide)))
    exact RP.assign (REV.call (by wtm_at "E") (ES.cons (EV.eq (EV.midTX (a := if b = true then 1 else 0) (b := (sgt b ++ T).length) (by wtm_at "E") (EV.eq (by wtm_at "E") (by cases b <;> rfl)) (by wtm_at "E") hz (by (refine rwt List.length_append ?_; refine rwt (sgt_len ..) ?_); exact oq535) hle) (by (refine rwt hmid ?_; with_reducible rfl))) (by wtm_at "S") rfl) hT (by decide) rfl)
  · refine RP.next (WX.assign (d := .int ((sgt b ++ T).length : Nat)) (EV.eq (EV.find (x := ⟨(sgt b ++ T ++ 47 :: B).toArray⟩) (y := ⟨#[47]⟩) (by wtm_at "E") (EV.eq EV.str (show _ = D.str ⟨#[47]⟩ by with_unfolding_all rfl))) (by (refine rwt (find_at h4) ?_; with_reducible rfl))) (by wtm_at "u") ⟨_, rfl, ?_⟩)
    refine RP.next (WX.if_ (by wtm_at "T") (fun h => by have h := of_decide_eq_true h; exact (oq505 h).elim) (fun _ => WP.nil ⟨_, rfl, ?_⟩))
    exact RP.assign (REV.call (by wtm_at "E") (ES.cons (EV.eq (EV.midTX (a := if b = true then 1 else 0) (b := (sgt b ++ T).length) (by wtm_at "E") (EV.eq (by wtm_at "E") (by cases b <;> rfl)) (by wtm_at "E") hz (by (refine rwt List.length_append ?_; refine rwt (sgt_len ..) ?_); exact oq535) hle) (by (refine rwt hmid ?_; with_reducible rfl))) (by wtm_at "S") rfl) hT (by decide) rfl)
theorem rx_rft_bot (wd base : Nat) (b : Bool) (ds B : List Nat) (k : Int) (hb : 2 ≤ base) (hb2 : base ≤ 36) (hw : 1 ≤ wd) (hw2 : wd ≤ 1000) (hds : ds ≠ []) (hlt : ∀ d ∈ ds, d < base) (hv : val base ds < 2 ^ 60) (hlen : ds.length ≤ 400) (hz : (sgt b ++ ds.map sg ++ 47 :: B).length ≤ 1000000)
    (hB : RX (GG w p loose mg mb) 3 282 [TX B, .int (((sgt b ++ ds.map sg).length : Nat) + 1), .int base, .int wd, .fn 338] (.ref 58) (payAt k)) :
    RX (GG w p loose mg mb) 4 289 [TX (sgt b ++ ds.map sg ++ 47 :: B), .int base, .int wd, .fn 338, .fn 345] (.ref 58) (payAt k) := by
  refine RX.of ["text", "base", "w", "mul", "divrem"] ["begin", "bar", "top", "bottom"] rfl rfl (len5 fun _ _ _ _ _ => rfl) rfl (by decide) rfl (fun L h₀ R₀ => ?_)
  simp only [mkVars, List.zip_cons_cons, List.zip_nil_right, List.map_cons, List.map_nil, List.cons_append, List.nil_append]
  have h1 : 47 ∉ ds.map sg := fun h => by
    refine xe1_2 (List.mem_map.mp h) fun d _ e => ?_
    have := sg_ge d; exact oq498 this e
  have h3 : (ds.map sg ++ 47 :: B).head? ≠ some 45 := by
    cases ds with
    | nil => exact absurd rfl hds
    | cons d t =>
      have := sg_ge d
      intro e
      have : sg d = 45 := Option.some.inj e
      exact oq536 (by assumption) this
  generalize hTT : ds.map sg = T at h1 h3 hz hB ⊢
  have h4 : 47 ∉ sgt b ++ T := fun h => by
    rcases List.mem_append.mp h with h | h
    · exact sgt_out b h
    · exact h1 h
  have hmid : ((sgt b ++ T ++ 47 :: B).drop (if b = true then 1 else 0)).take ((sgt b ++ T).length - (if b = true then 1 else 0)) = T := by
    (refine rws (sgt_len ..) ?_; refine rwt (List.append_assoc ..) ?_; refine rwt List.drop_left ?_; refine rwt List.length_append ?_; refine rwt (Nat.add_sub_cancel_left ..) ?_; refine rwt List.take_left ?_; with_reducible rfl)
  have hlt2 : (sgt b ++ T ++ 47 :: B).length = (sgt b ++ T).length + 1 + B.length := by (refine rwt (List.length_append (as := sgt b ++ T)) ?_; refine rwt List.length_cons ?_); exact oq530
  refine RP.next (WX.assign (d := .int (if b = true then 1 else 0)) (EV.eq (EV.iteI (TR.cmp (EV.headTX (by wtm_at "E") EV.int hz) (EV.eq EV.str (show _ = TX [45] by with_unfolding_all rfl)) CMP.eqTX rfl) (fun _ => EV.int) (fun _ => EV.int)) (by (refine rwt (List.append_assoc ..) ?_; refine rwt (head_sgt h3) ?_; with_reducible rfl))) (by wtm_at "u") ⟨_, rfl, ?_⟩)
  refine RP.next (WX.assign (d := .int ((sgt b ++ T).length : Nat)) (EV.eq (EV.find (x := ⟨(sgt b ++ T ++ 47 :: B).toArray⟩) (y := ⟨#[47]⟩) (by wtm_at "E") (EV.eq EV.str (show _ = D.str ⟨#[47]⟩ by with_unfolding_all rfl))) (by (refine rwt (find_at h4) ?_; with_reducible rfl))) (by wtm_at "u") ⟨_, rfl, ?_⟩)
  refine RP.next (WX.if_ (by wtm_at "T") (fun h => by have h := of_decide_eq_true h; exact (oq505 h).elim) (fun _ => WP.nil ⟨_, rfl, ?_⟩))
  refine RP.next (WX.assign (d := LM wd (val base ds)) (EV.callN (by wtm_at "E") (ES.cons (EV.eq (EV.midTX (a := if b = true then 1 else 0) (b := (sgt b ++ T).length) (by wtm_at "E") (EV.eq (by wtm_at "E") (by cases b <;> rfl)) (by wtm_at "E") hz (by (refine rwt List.length_append ?_; refine rwt (sgt_len ..) ?_); exact oq535) (by (refine rwt hlt2 ?_); exact oq507)) (show _ = TX (ds.map sg) by (refine rwt hmid ?_; refine rwt hTT ?_; with_reducible rfl))) (by wtm_at "S") rfl) (fn_nat_from_text wd base ds _ hb hb2 hw hw2 hds hlt hv (by exact oq504 hlen)) (by decide) rfl) (by wtm_at "u") ⟨_, rfl, ?_⟩)
  have hdrop : (sgt b ++ T ++ 47 :: B).drop ((sgt b ++ T).length + 1) = B := by
    (refine rws List.drop_drop ?_; refine rwt List.drop_left ?_)
    rfl
  exact RP.assign (REV.else_ (TR.eq (TR.cmp (by wtm_at "E") (EV.lenS (by wtm_at "E") (by (refine rwt (tx_len ..) ?_); exact hz) rfl) CMP.eqI rfl) (by (refine rwt (tx_len ..) ?_; refine rwt hlt2 ?_; rewrite [beq_eq_false_iff_ne]); exact oq537))
    (REV.call (by wtm_at "E") (ES.cons (EV.eq (EV.dropTX (a := (sgt b ++ T).length + 1) (by wtm_at "E") (EV.eq (by wtm_at "E") (by (refine rwt (Int.natCast_add ..) ?_); rfl)) hz (by (refine rwt hlt2 ?_); exact oq509)) (by (refine rwt hdrop ?_; with_reducible rfl))) (by wtm_at "S") rfl) hB (by decide) rfl))
end

set_option maxRecDepth 100000
set_option maxHeartbeats 4000000
section
variable {w : World} {p : Program} {loose : List Str} {mg mb : Str → Option Value}
/-- _law_refused_at -/
theorem refused {A : Around} {E : Value → Shared → Prop} {s : Shared} {R : Led} {vs : List Value} {Q : Value → Shared → Prop} {l : List Env} {b₀ : Heap} {T : List Nat} {base wd : Nat} {k : Int} (hA : AOk 6 A) (hfr : A.frames = some l) (hFF : FF l s.heap) (B : Base (GG w p loose mg mb) b₀ l s.heap)
    (hL : ∀ p ∈ R, s.heap.get? p.1 = some p.2) (hI : IsAll R vs [TX T, .int base, .int wd]) (hT : RX (GG w p loose mg mb) 4 289 [TX T, .int base, .int wd, .fn 338, .fn 345] (.ref 58) (payAt k))
    (q : ∀ s' t, Rest s s' → Cgt l s.heap s'.heap → Q (.int k t) s') : wpAny (GG w p loose mg mb).M A (call (.ref 418) vs) Q E s := by
  refine call_P (g := GG w p loose mg mb) (n := 5) (ds := [TX T, .int base, .int wd]) ["text", "base", "w"] ["e"] rfl rfl (len3 fun _ _ _ => rfl) rfl (by decide) rfl hA B.glOk hL hI (fun h₁ S hk₁ hAd => ?_)
  have hLn : s.heap.get? s.heap.objs.size = none := Heap.get?_none_of_le (Nat.le_refl _)
  have hLb : b₀.get? s.heap.objs.size = none := by
    cases z : b₀.get? s.heap.objs.size with
    | none => rfl
    | some o' => have := B.sub _ _ z; rw [hLn] at this; cases this
  simp only [mkVars, List.zip_cons_cons, List.zip_nil_right, List.map_cons, List.map_nil, List.cons_append, List.nil_append] at S
  refine wpAny_execs_cons (wpAny_Try_except ?_)
  refine wpAny_execs_cons (wpAny_Expr_any ?_ rfl rfl)
  refine REV.callT (g := GG w p loose mg mb) (f := ⟨_, s.heap, R⟩) (n := 5) (R := R) hAd (Around.frames_deeper hfr) rfl hFF S (by wtm_at "E") (by wtm_at "S") hT (by decide) rfl (fun e s₂ s₃ R₂ rs S₂ X => ?_) rfl
  refine xe1_1 S₂ fun m S₂ => ?_
  have keep₂ : ∀ b o, s.heap.get? b = some o → s₂.heap.get? b = some o := S₂.fr.keep
  have hN₃ : s₃.heap.Ns s.heap.objs.size m := by
    refine xe3_3 S₂.fr.ns fun o es ep ho hd hr => ?_
    obtain ⟨sl, hy⟩ := X.up _ o ho (fun vs z => by rw [hd] at z; cases z)
    exact ⟨_, es, ep, hy, hd, hr⟩
  refine caught58 (Around.frames_deeper hfr) X ((B.keeps keep₂).push rfl hLb) hN₃ (fun s₄ t rs₄ c1 c2 => ?_) rfl rfl rfl rfl
  refine q s₄ t ((Rest.mk'.trans rs).trans rs₄) ⟨fun b o hb hn => ?_, fun b o hb hn => c2 b o (keep₂ b o hb) fun hm => ?_⟩
  · refine xe1_1 (X.up b o (keep₂ b o hb) hn) fun sl hy => ?_
    obtain ⟨sl', hy'⟩ := c1 b { o with slots := sl } (fun z => by rw [z, hLn] at hb; cases hb) hy hn
    exact ⟨sl', hy'⟩
  · rw [frs, List.filterMap_cons] at hm
    rcases List.mem_cons.mp hm with rfl | hm
    · rw [hLn] at hb; cases hb
    · exact hn hm
end

set_option maxRecDepth 100000
set_option maxHeartbeats 4000000
section
variable {w : World} {p : Program} {loose : List Str} {mg mb : Str → Option Value}
/-- a box that may be drawn from -/
structure BxOk (h b₀ : Heap) (q pp : Addr) (ns : List Int) (z : Int) : Prop extends Bx h q pp ns z where
  q0 : b₀.get? q = none
  p0 : b₀.get? pp = none
  len : ns.length ≤ 10000
  zs : 0 ≤ z ∧ z < 1000003
/-- _law_take -/
theorem take_ {A : Around} {E : Value → Shared → Prop} {s : Shared} {Q : Value → Shared → Prop} {b₀ : Heap} {q pp : Addr} {ns : List Int} {z many : Int} {t : Tok} (hA : AOk 2 A) (hG : GlOk (GG w p loose mg mb) b₀) (sub : ∀ b o, b₀.get? b = some o → s.heap.get? b = some o)
    (hb : BxOk s.heap b₀ q pp ns z) (hm : 0 < many) 
    (qq : ∀ s' r t' ns' z', Rest s s' → 0 ≤ r → r < many → BxOk s'.heap b₀ q pp ns' z' → (∀ b o, b ≠ q → b ≠ pp → s.heap.get? b = some o → s'.heap.get? b = some o) → Q (.int r t') s') :
    wpAny (GG w p loose mg mb).M A (call (.ref 352) [.ref q, .int many t]) Q E s := by
  refine wrapG fun W_ k_ => ?_
  obtain ⟨⟨hne, ⟨n, tz, ho⟩, vs, n', hpo, iv⟩, hq0, hp0, hlen, hz0, hz1⟩ := hb
  refine k_ ?_
  clear k_ W_
  have hGs := hG.keeps sub
  have hvl : vs.length = ns.length := by (refine rwt iv.length ?_; refine rwt (List.length_map ..) ?_; with_reducible rfl)
  refine call_P (g := GG w p loose mg mb) (n := 1) (R := []) (ds := [.fn q, .int many]) ["box", "many"] [] rfl rfl (len2 fun _ _ => rfl) rfl (by decide) rfl hA hGs (fun _ h => nomatch h) (.cons (.fn q) (.cons (.int many t) .nil)) (fun h₁ S hk₁ hAd => ?_)
  simp only [mkVars, List.zip_cons_cons, List.zip_nil_right, List.map_cons, List.map_nil, List.cons_append, List.nil_append] at S
  have hLn : s.heap.get? s.heap.objs.size = none := Heap.get?_none_of_le (Nat.le_refl _)
  have hqL : s.heap.objs.size ≠ q := fun e => by rw [e, ho] at hLn; cases hLn
  have hpL : s.heap.objs.size ≠ pp := fun e => by rw [e, hpo] at hLn; cases hLn
  refine wpAny_execs_cons (TR.at (h₀ := s.heap) (R₀ := []) hAd S (TR.cmp (EV.boxLen hpo (EV.box0 ho (by wtm_at "E") EV.int) (by exact oq538 hlen hvl) rfl) EV.int CMP.gtI rfl) (fun hb R₁ s₁ r₁ S₁ => ?_) (fun hb R₁ s₁ r₁ S₁ => ?_))
  · have hpos : 0 < vs.length := by have := of_decide_eq_true hb; exact oq232 this
    cases ns with
    | nil => rw [hvl] at hpos; exact absurd hpos (by decide)
    | cons i r =>
    cases iv with
    | cons iv₁ ivs =>
    rename_i v₁ vs₁
    cases iv₁
    refine wpAny_execs_cons (wpAny_Return_some (wpAny_BinOp (MethodCall_ (EV.at (h₀ := s.heap) (R₀ := []) hAd S₁ (EV.box0 ho (by wtm_at "E") EV.int) (fun v R₂ s₂ r₂ i₂ S₂ => ?_)))))
    (first | refine Is.eInt i₂ fun _ => ?_ | refine Is.eFn i₂ ?_ | refine Is.eBool i₂ ?_ | refine Is.eStr i₂ fun _ => ?_ | refine Is.eNone i₂ ?_ | cases i₂)
    have hp₂ : s₂.heap.get? pp = _ := ((let ⟨m, S⟩ := S₂; S.fr.keep) _ _ hpo)
    refine getMethod_builtin ⟨_, hp₂, rfl⟩ PySem.F.plainAttrs_list PySem.F.slot_list_pop PySem.F.type_list_pop (fun a e => by cases e; exact ⟨_, hp₂, rfl⟩) ?_
    refine callWith_method1 ?_ rfl rfl
    refine wpAny_items_cons (EV.at (h₀ := s.heap) (R₀ := []) (d := .int 0) hAd S₂ EV.int (fun v R₃ s₃ r₃ i₃ S₃ => wpAny_items_nil ?_)) rfl
    (first | refine Is.eInt i₃ fun _ => ?_ | refine Is.eFn i₃ ?_ | refine Is.eBool i₃ ?_ | refine Is.eStr i₃ fun _ => ?_ | refine Is.eNone i₃ ?_ | cases i₃)
    refine xe1_1 S₃ fun m S₃ => ?_
    have keep₃ : ∀ b o, s.heap.get? b = some o → s₃.heap.get? b = some o := S₃.fr.keep
    refine pop0 (keep₃ _ _ hpo) (by have h : vs₁.length + 1 = r.length + 1 := hvl; have h2 : r.length + 1 ≤ 10000 := hlen; exact oq539 h h2) (fun h' n'' hs hp' => ?_)
    refine xe1_2 (S₃.vars "many" (.int many) (.tail _ (.head _))) fun v' hv i' => ?_
    cases i'
    refine wpAny_Name (wpAny_loadName_local rfl rfl (S₃.fr.ns.sameBut hs hpL) hv ?_)
    refine OP.mod (g := GG w p loose mg mb) (a := i) (b := many) (by exact oq339 hm) _ _ _ [] _ _ _ (hAd.le (by decide)) (fun _ h => nomatch h) (.int _ _) (.int _ _) (fun v tk iv => ?_)
    (first | refine Is.eInt iv fun _ => ?_ | refine Is.eFn iv ?_ | refine Is.eBool iv ?_ | refine Is.eStr iv fun _ => ?_ | refine Is.eNone iv ?_ | cases iv)
    refine qq _ _ _ r z ((((Rest.mk'.trans r₁.rest).trans r₂.rest).trans r₃.rest).trans ⟨_, _, rfl⟩) (Int.fmod_nonneg_of_pos _ hm) (Int.fmod_lt_of_pos _ hm) ⟨⟨hne, ⟨n, tz, (hs.2 q hne).trans (keep₃ _ _ ho)⟩, vs₁, n'', hp', ivs⟩, hq0, hp0, by have h2 : r.length + 1 ≤ 10000 := hlen; exact oq540 h2, hz0, hz1⟩ (fun b o h1 h2 y => (hs.2 b h2).trans (keep₃ b o y))
  · have hzero : vs.length = 0 := by have := of_decide_eq_false hb; exact oq234 this
    refine wpAny_execs_nil ?_
    have hns : ns = [] := by
      cases ns with
      | nil => rfl
      | cons a r => rw [hvl] at hzero; cases hzero
    subst hns
    have hvs : vs = [] := List.eq_nil_of_length_eq_zero hzero
    subst hvs
    show wpAny _ _ (execs _ _) _ _ s₁
    refine wpAny_execs_cons (wpAny_Assign_Subscript (EV.at (h₀ := s.heap) (R₀ := []) (d := .int ((z * 4099 + 12301).fmod 1000003)) hAd S₁ (EV.bin (EV.bin (EV.bin (EV.box1 ho (by wtm_at "E") EV.int) EV.int (OP.mul (by exact oq541 hz0 hz1))) EV.int OP.add) EV.int (OP.mod (by decide))) (fun v R₂ s₂ r₂ i₂ S₂ =>
      EV.at (h₀ := s.heap) (R₀ := []) (d := .fn q) hAd S₂ (by wtm_at "E") (fun vb R₃ s₃ r₃ i₃ S₃ => EV.at (h₀ := s.heap) (R₀ := []) (d := .int 1) hAd S₃ EV.int (fun vi R₄ s₄ r₄ i₄ S₄ => ?_)))) rfl)
    (first | refine Is.eInt i₂ fun _ => ?_ | refine Is.eFn i₂ ?_ | refine Is.eBool i₂ ?_ | refine Is.eStr i₂ fun _ => ?_ | refine Is.eNone i₂ ?_ | cases i₂); (first | refine Is.eInt i₃ fun _ => ?_ | refine Is.eFn i₃ ?_ | refine Is.eBool i₃ ?_ | refine Is.eStr i₃ fun _ => ?_ | refine Is.eNone i₃ ?_ | cases i₃); (first | refine Is.eInt i₄ fun _ => ?_ | refine Is.eFn i₄ ?_ | refine Is.eBool i₄ ?_ | refine Is.eStr i₄ fun _ => ?_ | refine Is.eNone i₄ ?_ | cases i₄)
    rename_i t₂ t₄
    refine xe1_1 S₄ fun m S₄ => ?_
    have keep₄ : ∀ b o, s.heap.get? b = some o → s₄.heap.get? b = some o := S₄.fr.keep
    refine setBox (keep₄ _ _ ho) (fun h' n'' hs hq' => ?_)
    show wpAny _ _ (execs _ _) _ _ { s₄ with heap := h' }
    have hz' := Int.fmod_nonneg_of_pos (z * 4099 + 12301) (show (0 : Int) < 1000003 by decide)
    have hz'' := Int.fmod_lt_of_pos (z * 4099 + 12301) (show (0 : Int) < 1000003 by decide)
    generalize hzz : (z * 4099 + 12301).fmod 1000003 = z' at hq' hz' hz''
    have hb0 : (s.heap.update q fun _ => lstO [.ref pp, .int z' t₂] n'').get? q = some (lstO [.ref pp, .int z' t₂] n'') := Heap.get?_update_self _ ho rfl
    have hb1 : ∀ b, b ≠ q → (s.heap.update q fun _ => lstO [.ref pp, .int z' t₂] n'').get? b = s.heap.get? b := fun b h => Heap.get?_update_other _ _ (Ne.symm h)
    have hbz : (s.heap.update q fun _ => lstO [.ref pp, .int z' t₂] n'').objs.size = s.heap.objs.size := Heap.size_update ..
    generalize s.heap.update q (fun _ => lstO [.ref pp, .int z' t₂] n'') = hB at hb0 hb1 hbz
    have S₅ := S₄.reheap (hB := hB) (h' := h') (q := q) rfl (fun x d hx R v i => by
      rcases List.mem_cons.mp hx with e | hx
      · cases e; (first | refine Is.eInt i fun _ => ?_ | refine Is.eFn i ?_ | refine Is.eBool i ?_ | refine Is.eStr i fun _ => ?_ | refine Is.eNone i ?_ | cases i); exact .fn q
      · rcases List.mem_cons.mp hx with e | hx
        · cases e; (first | refine Is.eInt i fun _ => ?_ | refine Is.eFn i ?_ | refine Is.eBool i ?_ | refine Is.eStr i fun _ => ?_ | refine Is.eNone i ?_ | cases i); exact .int _ _
        · cases hx) hs hqL (hG.keeps fun b o y => (hb1 b (fun e => by rw [e, hq0] at y; cases y)).trans (sub b o y)) (fun b o y => by
        by_cases e : b = q
        · rw [e] at y ⊢
          rw [hb0] at y; cases y
          exact hq'
        · rw [hb1 b e] at y
          exact (hs.2 b e).trans (keep₄ b o y)) hbz
    refine wpAny_execs_cons (wpAny_Return_some (EV.at (h₀ := hB) (R₀ := []) (d := .int ((z'.fdiv 16).fmod many)) hAd S₅ (EV.bin (EV.bin (EV.box1 hb0 (by wtm_at "E") EV.int) EV.int (OP.div (by decide) (by decide))) (by wtm_at "E") (OP.mod (by exact oq339 hm))) (fun v R₆ s₆ r₆ i₆ S₆ => ?_)))
    (first | refine Is.eInt i₆ fun _ => ?_ | refine Is.eFn i₆ ?_ | refine Is.eBool i₆ ?_ | refine Is.eStr i₆ fun _ => ?_ | refine Is.eNone i₆ ?_ | cases i₆)
    have keep₆ : ∀ b o, hB.get? b = some o → s₆.heap.get? b = some o := (let ⟨m, S⟩ := S₆; S.fr.keep)
    refine qq _ _ _ [] z' ((((((Rest.mk'.trans r₁.rest).trans r₂.rest).trans r₃.rest).trans r₄.rest).trans .heap).trans r₆.rest) (Int.fmod_nonneg_of_pos _ hm) (Int.fmod_lt_of_pos _ hm) ⟨⟨hne, ⟨n'', t₂, keep₆ _ _ hb0⟩, [], n', keep₆ _ _ ((hb1 pp (Ne.symm hne)).trans hpo), .nil⟩, hq0, hp0, by decide, hz', hz''⟩ (fun b o h1 h2 y => keep₆ b o ((hb1 b h1).trans y))
end

set_option maxRecDepth 100000
set_option maxHeartbeats 4000000
theorem in_find (x y : Str) : (!(Builtin.Str.occurrences x y 0 x.length 1).isEmpty) = decide (0 ≤ Txt.find x y) := by
  unfold Txt.find
  cases Builtin.Str.occurrences x y 0 x.length 1 with
  | nil => rfl
  | cons i r => simp
theorem sg_lo {d : Nat} : sg d ≠ 45 ∧ sg d ≠ 47 := by have := sg_ge d; exact oq542 this
def sfx : Option (List Nat) → List Nat
  | none => []
  | some es => 47 :: es.map sg
theorem ftx_eq (b : Bool) (ds : List Nat) (o : Option (List Nat)) : ftx b ds o = sgt b ++ ds.map sg ++ sfx o := by cases o <;> rfl
theorem no47 (ds : List Nat) : 47 ∉ ds.map sg := fun h => by
  refine xe1_2 (List.mem_map.mp h) fun d _ e => ?_
  exact sg_lo.2 e
section
variable {w : World} {p : Program} {loose : List Str} {mg mb : Str → Option Value}
/-- a sign that is no digit, put in -/
theorem rx_broken (wd base : Nat) (b : Bool) (ds : List Nat) (o : Option (List Nat)) (c at_ : Nat) (z : Int) (hb : 2 ≤ base) (hb2 : base ≤ 36) (hw : 1 ≤ wd) (hw2 : wd ≤ 1000) (hds : ds ≠ []) (hlt : ∀ d ∈ ds, d < base) (hv : val base ds < 2 ^ 60) (hlen : ds.length ≤ 400)
    (ho : ∀ es, o = some es → (∀ d ∈ es, d < base) ∧ val base es < 2 ^ 60 ∧ es.length ≤ 400) (h1 : (sgt b).length ≤ at_) (h2 : at_ ≤ (ftx b ds o).length)
    (hc : c ≠ 45 ∧ c ≠ 47) (hz : Txt.find signsS (Txt.lower ⟨#[c]⟩) = z) (hz2 : ¬ (0 ≤ z ∧ z < base)) :
    RX (GG w p loose mg mb) 4 289 [TX ((ftx b ds o).take at_ ++ [c] ++ (ftx b ds o).drop at_), .int base, .int wd, .fn 338, .fn 345] (.ref 58) (payAt at_) := by
  have e0 := ftx_eq b ds o
  generalize hsuf : sfx o = suf at e0
  have hsl : suf.length ≤ 401 := by
    cases o with
    | none => (refine rws hsuf ?_); decide
    | some es => (refine rws hsuf ?_); have := (ho es rfl).2.2; simp [sfx]; exact oq543 this
  have hs1 : (sgt b).length ≤ 1 := by cases b <;> decide
  by_cases hat : at_ ≤ (sgt b ++ ds.map sg).length
  · obtain ⟨j, rfl⟩ : ∃ j, at_ = (sgt b).length + j := ⟨at_ - (sgt b).length, by exact oq544 h1⟩
    have hj : j ≤ ds.length := by rw [List.length_append, List.length_map] at hat; exact oq545 hat
    have et : (ftx b ds o).take ((sgt b).length + j) = sgt b ++ (ds.take j).map sg := by
      (refine rwt e0 ?_; refine rwt (List.take_append_of_le_length hat) ?_; refine rwt List.take_append ?_; refine rwt (List.take_of_length_le (by exact oq535)) ?_; refine rwt (Nat.add_sub_cancel_left ..) ?_; refine rwt List.map_take ?_; with_reducible rfl)
    have ed : (ftx b ds o).drop ((sgt b).length + j) = (ds.drop j).map sg ++ suf := by
      (refine rwt e0 ?_; refine rwt (List.drop_append_of_le_length hat) ?_; refine rwt List.drop_append ?_; refine rwt (List.drop_of_length_le (by exact oq535)) ?_; refine rwt (Nat.add_sub_cancel_left ..) ?_; rewrite [List.nil_append]; refine rwt List.map_drop ?_; with_reducible rfl)
    have e : (ftx b ds o).take ((sgt b).length + j) ++ [c] ++ (ftx b ds o).drop ((sgt b).length + j) = sgt b ++ ((ds.take j).map sg ++ c :: (ds.drop j).map sg) ++ suf := by
      (refine rwt et ?_; refine rwt ed ?_); simp
    (refine rwt e ?_)
    refine rx_rft_top wd base b _ suf _ ?_ ?_ ?_ ?_ ?_
    · intro hm
      rcases List.mem_append.mp hm with hm | hm
      · exact no47 _ hm
      · rcases List.mem_cons.mp hm with hm | hm
        · exact hc.2 hm.symm
        · exact no47 _ hm
    · cases o with
      | none => exact .inl hsuf.symm
      | some es => exact .inr ⟨_, hsuf.symm⟩
    · cases hq : ds.take j with
      | nil => intro h; exact hc.1 (Option.some.inj h)
      | cons d t => intro h; exact sg_lo.1 (Option.some.inj h)
    · simp only [List.length_append, List.length_cons, List.length_map, List.length_take, List.length_drop]; exact oq546 hlen hsl hs1
    · have hval : val base (ds.take j) < 2 ^ 60 := by
        have := val_mono (show 1 ≤ base by exact oq238 hb) (ds.drop j) (ds.take j)
        rw [List.take_append_drop] at this
        exact oq547 this hv
      have hb' : (Int.ofNat ((sgt b).length + j)) = (if b = true then (1 : Int) else 0) + ((ds.take j).length : Int) := by
        (refine rwt List.length_take ?_; refine rwt (Nat.min_eq_left hj) ?_)
        cases b <;> simp [sgt]
      have := rx_nat_bad (w := w) (p := p) (loose := loose) (mg := mg) (mb := mb) wd base (ds.take j) c ((ds.drop j).map sg) (if b = true then 1 else 0) z hb hb2 hw hw2 (fun d hd => hlt d (List.mem_of_mem_take hd)) hval (by (refine rwt List.length_take ?_); exact oq548 hlen) (by (refine rwt (List.length_map ..) ?_; refine rwt List.length_drop ?_); exact oq549 hlen) hz hz2
      rw [← hb'] at this
      exact this
  · cases o with
    | none =>
      rw [← hsuf] at e0
      rw [e0, show sfx none = [] from rfl, List.append_nil] at h2
      exact (oq550 hat h2).elim
    | some es =>
      refine xe0_3 (ho es rfl) fun g1 g2 g3 => ?_
      have hsuf : 47 :: es.map sg = suf := hsuf
      obtain ⟨i, rfl⟩ : ∃ i, at_ = (sgt b ++ ds.map sg).length + 1 + i := ⟨at_ - (sgt b ++ ds.map sg).length - 1, by exact oq551 hat⟩
      have hi : i ≤ es.length := by rw [e0, ← hsuf, List.length_append (as := sgt b ++ ds.map sg), List.length_cons, List.length_map] at h2; exact oq552 h2
      have et : (ftx b ds (some es)).take ((sgt b ++ ds.map sg).length + 1 + i) = sgt b ++ ds.map sg ++ 47 :: (es.take i).map sg := by
        (refine rwt e0 ?_; refine rws hsuf ?_; refine rwt List.take_append ?_; refine rwt (List.take_of_length_le (by exact oq507)) ?_; refine rwt (show (sgt b ++ ds.map sg).length + 1 + i - (sgt b ++ ds.map sg).length = i + 1 by exact oq553) ?_; refine rwt List.take_succ_cons ?_; refine rwt List.map_take ?_; with_reducible rfl)
      have ed : (ftx b ds (some es)).drop ((sgt b ++ ds.map sg).length + 1 + i) = (es.drop i).map sg := by
        (refine rwt e0 ?_; refine rws hsuf ?_; refine rwt List.drop_append ?_; refine rwt (List.drop_of_length_le (by exact oq507)) ?_; refine rwt (show (sgt b ++ ds.map sg).length + 1 + i - (sgt b ++ ds.map sg).length = i + 1 by exact oq553) ?_; refine rwt List.drop_succ_cons ?_; refine rwt List.map_drop ?_; refine rwt (List.nil_append ..) ?_; with_reducible rfl)
      have e : (ftx b ds (some es)).take ((sgt b ++ ds.map sg).length + 1 + i) ++ [c] ++ (ftx b ds (some es)).drop ((sgt b ++ ds.map sg).length + 1 + i) = sgt b ++ ds.map sg ++ 47 :: ((es.take i).map sg ++ c :: (es.drop i).map sg) := by
        (refine rwt et ?_; refine rwt ed ?_); simp
      (refine rwt e ?_)
      refine rx_rft_bot wd base b ds _ _ hb hb2 hw hw2 hds hlt hv hlen ?_ ?_
      · simp only [List.length_append, List.length_cons, List.length_map, List.length_take, List.length_drop]; exact oq554 g3 hlen hs1
      · have hval : val base (es.take i) < 2 ^ 60 := by
          have := val_mono (show 1 ≤ base by exact oq238 hb) (es.drop i) (es.take i)
          rw [List.take_append_drop] at this
          exact oq547 this g2
        have hb' : (Int.ofNat ((sgt b ++ ds.map sg).length + 1 + i)) = (((sgt b ++ ds.map sg).length : Nat) + 1 : Int) + ((es.take i).length : Int) := by
          (refine rwt List.length_take ?_; refine rwt (Nat.min_eq_left hi) ?_)
          rfl
        have := rx_nat_bad (w := w) (p := p) (loose := loose) (mg := mg) (mb := mb) wd base (es.take i) c ((es.drop i).map sg) (((sgt b ++ ds.map sg).length : Nat) + 1) z hb hb2 hw hw2 (fun d hd => g1 d (List.mem_of_mem_take hd)) hval (by (refine rwt List.length_take ?_); exact oq548 g3) (by (refine rwt (List.length_map ..) ?_; refine rwt List.length_drop ?_); exact oq549 g3) hz hz2
        rw [← hb'] at this
        exact this
theorem rx_e (wd base : Nat) : RX (GG w p loose mg mb) 4 289 [TX [], .int base, .int wd, .fn 338, .fn 345] (.ref 58) (payAt 0) :=
  rx_rft_top wd base false [] [] 0 (by decide) (.inl rfl) (by decide) (by decide) ((rx_nat_empty wd base 0).le (by decide))
theorem rx_m (wd base : Nat) : RX (GG w p loose mg mb) 4 289 [TX [45], .int base, .int wd, .fn 338, .fn 345] (.ref 58) (payAt 1) :=
  rx_rft_top wd base true [] [] 1 (by decide) (.inl rfl) (by decide) (by decide) ((rx_nat_empty wd base 1).le (by decide))
theorem rx_b (wd base : Nat) (hb : 2 ≤ base) (hb2 : base ≤ 36) (hw : 1 ≤ wd) (hw2 : wd ≤ 1000) : RX (GG w p loose mg mb) 4 289 [TX [49, 47], .int base, .int wd, .fn 338, .fn 345] (.ref 58) (payAt 2) :=
  rx_rft_bot wd base false [1] [] 2 hb hb2 hw hw2 (by decide) (by intro d hd; (refine rwt (List.mem_singleton.mp hd) ?_); exact oq33 hb) (by show 0 * base + 1 < 2 ^ 60; exact oq510) (by decide) (by decide) ((rx_nat_empty wd base 2).le (by decide))
end

set_option maxRecDepth 100000
set_option maxHeartbeats 4000000
/-- a box apart from a frame's ledger -/
structure BxA (h b₀ : Heap) (R : Led) (L : Addr) (q pp : Addr) (ns : List Int) (z : Int) : Prop extends BxOk h b₀ q pp ns z where
  rq : ∀ p ∈ R, p.1 ≠ q ∧ p.1 ≠ pp
  lq : L ≠ q ∧ L ≠ pp
theorem BxA.lres {f : Fm} {b₀ : Heap} {R R' : Led} {s s' : Shared} {q pp : Addr} {ns : List Int} {z : Int} (x : BxA s.heap b₀ R f.env.locals q pp ns z) (r : LRes f R s R' s') : BxA s'.heap b₀ R' f.env.locals q pp ns z := by
  refine xe2_1 x.top fun n t ho => ?_
  refine xe2_2 x.its fun vs n' hp iv => ?_
  refine ⟨⟨⟨x.ne, ⟨n, t, r.but _ _ (Ne.symm x.lq.1) ho⟩, vs, n', r.but _ _ (Ne.symm x.lq.2) hp, iv⟩, x.q0, x.p0, x.len, x.zs⟩, fun p hp' => ?_, x.lq⟩
  rcases r.new p hp' with h | h
  · exact x.rq p h
  · exact ⟨fun e => (by rw [e, ho] at h; cases h), fun e => (by rw [e, hp] at h; cases h)⟩
section
variable {w : World} {p : Program} {loose : List Str} {mg mb : Str → Option Value}
/-- _law_take(box, e) in a frame over b₀ -/
theorem takeE {n : Nat} {env : Env} {b₀ : Heap} {R₀ : Led} {σ : Vars} {A : Around} {E : Value → Shared → Prop} {s : Shared} {R : Led} {Q : Value → Shared → Prop} {q pp : Addr} {ns : List Int} {z many : Int} {np pos : Pos} {e₁ e₂ : Expr}
    (hA : AOk (n + 2) A) (S : St (GG w p loose mg mb) ⟨env, b₀, R₀⟩ σ R s.heap) (no : noOwn σ = true) (hbx : BxA s.heap b₀ R env.locals q pp ns z)
    (h₁ : EV (GG w p loose mg mb) ⟨env, b₀, R₀⟩ (n + 2) σ e₁ (.fn q)) (h₂ : EV (GG w p loose mg mb) ⟨env, b₀, R₀⟩ (n + 2) σ e₂ (.int many)) (hm : 0 < many)
    (k : ∀ s' R' r t ns' z', Rest s s' → 0 ≤ r → r < many → BxA s'.heap b₀ R' env.locals q pp ns' z' → (∀ p ∈ R, p ∈ R') → (∀ p ∈ R', p ∈ R ∨ s.heap.get? p.1 = none) → (∀ b o, b ≠ q → b ≠ pp → s.heap.get? b = some o → s'.heap.get? b = some o) →
      St (GG w p loose mg mb) ⟨env, b₀, R₀⟩ σ R' s'.heap → Q (.int r t) s')
    (hk : env.scope.kind = .function := by rfl) (hx : env.kindOf "_law_take" = some .globalImplicit := by rfl) (hg : env.globals = mainGlobals := by rfl)
    (hs : starEach [e₁, e₂] env = (false, eval e₁ env) :: starEach [e₂] env := by rfl) (hs2 : starEach [e₂] env = (false, eval e₂ env) :: starEach [] env := by rfl) (hs3 : (backTo pos (starEach [e₂] env)).any (·.1) = false := by rfl) :
    wpAny (GG w p loose mg mb).M A (eval (.Call (.Name "_law_take" np) [e₁, e₂] [] pos) env) Q E s := by
  (refine rwt (eval_Call_eq (by intro _ _ _ h; cases h)) ?_)
  have ev : EV (GG w p loose mg mb) ⟨env, b₀, R₀⟩ (n + 2) σ (.Name "_law_take" np) (.fn 352) := EV.glob rfl hk hx hg (by decide)
  refine wpAny_bind (ev A E s R _ hA S fun v R₁ s₁ r₁ i₁ => ?_)
  (first | refine Is.eInt i₁ fun _ => ?_ | refine Is.eFn i₁ ?_ | refine Is.eBool i₁ ?_ | refine Is.eStr i₁ fun _ => ?_ | refine Is.eNone i₁ ?_ | cases i₁)
  have S₁ := S.gr r₁
  have x₁ : BxA s₁.heap b₀ R₁ env.locals q pp ns z := BxA.lres (f := ⟨env, b₀, R₀⟩) hbx (r₁.lres S)
  refine callWith_K (K := (GG w p loose mg mb).K) (h₀ := s₁.heap) S₁.glOk.k (show keepIn (GG w p loose mg mb).K (.ref 352) = true from rfl) ?_ hs hs3
  refine wpAny_items_cons (h₁ A E s₁ R₁ _ hA S₁ fun v₁ R₂ s₂ r₂ i₂ => wpAny_items_cons (h₂ A E s₂ R₂ _ hA (S₁.gr r₂) fun v₂ R₃ s₃ r₃ i₃ => wpAny_items_nil ?_) hs2) hs
  have S₃ := (S₁.gr r₂).gr r₃
  refine ⟨S₃.glOk.k, ?_⟩
  (first | refine Is.eInt i₂ fun _ => ?_ | refine Is.eFn i₂ ?_ | refine Is.eBool i₂ ?_ | refine Is.eStr i₂ fun _ => ?_ | refine Is.eNone i₂ ?_ | cases i₂); (first | refine Is.eInt i₃ fun _ => ?_ | refine Is.eFn i₃ ?_ | refine Is.eBool i₃ ?_ | refine Is.eStr i₃ fun _ => ?_ | refine Is.eNone i₃ ?_ | cases i₃)
  have x₃ : BxA s₃.heap b₀ R₃ env.locals q pp ns z := BxA.lres (f := ⟨env, b₀, R₀⟩) (BxA.lres (f := ⟨env, b₀, R₀⟩) x₁ (r₂.lres S₁)) (r₃.lres (S₁.gr r₂))
  have hG : GlOk (GG w p loose mg mb) b₀ := (let ⟨m, S⟩ := S; S.gl)
  have rr := (r₁.trans r₂).trans r₃
  refine take_ (hA.le (by exact oq555)) hG (let ⟨m, S⟩ := S₃; S.fr.keep) x₃.toBxOk hm (fun s' r t' ns' z' rs h0 h1 hb' kp => ?_)
  refine k s' R₃ r t' ns' z' (rr.rest.trans rs) h0 h1 ⟨hb', x₃.rq, x₃.lq⟩ rr.sub rr.new (fun b o hb1 hb2 y => kp b o hb1 hb2 (rr.ext b o y)) ?_
  refine S₃.but (wr := [q, pp]) no (fun b o hb y => kp b o (fun e => hb (e ▸ .head _)) (fun e => hb (e ▸ .tail _ (.head _))) y) (fun p hp hm => ?_) (fun b hb => ?_) (fun hm => ?_)
  · rcases List.mem_cons.mp hm with h | h
    · exact (x₃.rq p hp).1 h
    · exact (x₃.rq p hp).2 (List.mem_singleton.mp h)
  · rcases List.mem_cons.mp hb with h | h
    · (refine rwt h ?_); exact x₃.q0
    · (refine rwt (List.mem_singleton.mp h) ?_); exact x₃.p0
  · rcases List.mem_cons.mp hm with h | h
    · exact x₃.lq.1 h
    · exact x₃.lq.2 (List.mem_singleton.mp h)
end

set_option maxRecDepth 100000
set_option maxHeartbeats 4000000
section
variable {w : World} {p : Program} {loose : List Str} {mg mb : Str → Option Value}
/-- _law_refused_at(..) in a frame over b₀ -/
theorem refusedE {n : Nat} {env : Env} {b₀ : Heap} {R₀ : Led} {σ : Vars} {A : Around} {E : Value → Shared → Prop} {s s₀ : Shared} {R : Led} {Q : Value → Shared → Prop} {l : List Env} {P : Addr} {T : List Nat} {base wd : Nat} {k : Int} {np pos : Pos} {e₁ e₂ e₃ : Expr}
    (hA : AOk (n + 6) A) (hfr : A.frames = some (env :: l)) (hfl : env.frame = some env.locals) (hk : env.scope.kind = .function) (S : St (GG w p loose mg mb) ⟨env, b₀, R₀⟩ σ R s.heap) (no : noOwn σ = true) (I : TI l P env.locals s₀ R s) (hLP : env.locals ≠ P) (hPl : P ∉ frs l) (hLl : env.locals ∉ frs l)
    (h0 : ∀ b, b = P ∨ b ∈ frs (env :: l) → b₀.get? b = none)
    (h₁ : EV (GG w p loose mg mb) ⟨env, b₀, R₀⟩ (n + 6) σ e₁ (TX T)) (h₂ : EV (GG w p loose mg mb) ⟨env, b₀, R₀⟩ (n + 6) σ e₂ (.int base)) (h₃ : EV (GG w p loose mg mb) ⟨env, b₀, R₀⟩ (n + 6) σ e₃ (.int wd))
    (hT : RX (GG w p loose mg mb) 4 289 [TX T, .int base, .int wd, .fn 338, .fn 345] (.ref 58) (payAt k))
    (q : ∀ s' R' t, Rest s s' → (∀ p ∈ R, p ∈ R') → TI l P env.locals s₀ R' s' → St (GG w p loose mg mb) ⟨env, b₀, R₀⟩ σ R' s'.heap → Q (.int k t) s')
    (hx : env.kindOf "_law_refused_at" = some .globalImplicit := by rfl) (hg : env.globals = mainGlobals := by rfl)
    (hs : starEach [e₁, e₂, e₃] env = (false, eval e₁ env) :: starEach [e₂, e₃] env := by rfl) (hs2 : starEach [e₂, e₃] env = (false, eval e₂ env) :: starEach [e₃] env := by rfl) (hs3 : starEach [e₃] env = (false, eval e₃ env) :: starEach [] env := by rfl) (hs4 : (backTo pos (starEach [e₂, e₃] env)).any (·.1) = false := by rfl) :
    wpAny (GG w p loose mg mb).M A (eval (.Call (.Name "_law_refused_at" np) [e₁, e₂, e₃] [] pos) env) Q E s := by
  (refine rwt (eval_Call_eq (by intro _ _ _ h; cases h)) ?_)
  have ev : EV (GG w p loose mg mb) ⟨env, b₀, R₀⟩ (n + 6) σ (.Name "_law_refused_at" np) (.fn 418) := EV.glob rfl hk hx hg (by decide)
  refine wpAny_bind (ev A E s R _ hA S fun v R₁ s₁ r₁ i₁ => ?_)
  (first | refine Is.eInt i₁ fun _ => ?_ | refine Is.eFn i₁ ?_ | refine Is.eBool i₁ ?_ | refine Is.eStr i₁ fun _ => ?_ | refine Is.eNone i₁ ?_ | cases i₁)
  have S₁ := S.gr r₁
  refine callWith_K (K := (GG w p loose mg mb).K) (h₀ := s₁.heap) S₁.glOk.k (show keepIn (GG w p loose mg mb).K (.ref 418) = true from rfl) ?_ hs hs4
  refine wpAny_items_cons (h₁ A E s₁ R₁ _ hA S₁ fun v₁ R₂ s₂ r₂ i₂ => wpAny_items_cons (h₂ A E s₂ R₂ _ hA (S₁.gr r₂) fun v₂ R₃ s₃ r₃ i₃ => wpAny_items_cons (h₃ A E s₃ R₃ _ hA ((S₁.gr r₂).gr r₃) fun v₃ R₄ s₄ r₄ i₄ => wpAny_items_nil ?_) hs3) hs2) hs
  have S₄ := ((S₁.gr r₂).gr r₃).gr r₄
  refine ⟨S₄.glOk.k, ?_⟩
  have rr := ((r₁.trans r₂).trans r₃).trans r₄
  have I₄ : TI l P env.locals s₀ R₄ s₄ := I.lres (f := ⟨env, b₀, R₀⟩) rfl hLl hLP (rr.lres S)
  have FF₄ : FF (env :: l) s₄.heap := fun env' he => by
    rcases List.mem_cons.mp he with rfl | he
    · refine xe1_1 (id S₄) fun m S => ?_
      refine xe3_3 S.fr.ns fun o es ep ho hd _ => ?_
      exact ⟨by (refine rwt hk ?_); decide, _, o, hfl, ho, fun vs q => by rw [hd] at q; cases q⟩
    · exact I₄.ff env' he
  have hG : GlOk (GG w p loose mg mb) b₀ := (let ⟨m, S⟩ := S; S.gl)
  have B₄ : Base (GG w p loose mg mb) b₀ (env :: l) s₄.heap := ⟨hG, (let ⟨m, S⟩ := S₄; S.fr.keep), fun b hb => h0 b (.inr hb)⟩
  have eF : frs (env :: l) = env.locals :: frs l := by (rewrite [frs]; refine rwt List.filterMap_cons ?_; refine rwt hfl ?_; with_reducible rfl)
  refine refused (hA.le (by exact oq556)) hfr FF₄ B₄ rr.led (.cons (i₂.mono fun p hp => r₄.sub p (r₃.sub p hp)) (.cons (i₃.mono r₄.sub) (.cons i₄ .nil))) hT (fun s₅ t rs cg => ?_)
  exact q s₅ R₄ t (rr.rest.trans rs) rr.sub (I₄.cgt S₄ hfl hLP hPl rs cg) (S₄.cgt no cg h0 (fun p hp => by (refine rwt eF ?_); exact I₄.led p hp) hLP)
/-- return _law_is_divided(lambda: ..), whatever was raised and taken before -/
theorem KP.div1T {n : Nat} {l : List Env} {P a c : Addr} {s : Shared} {σ : Vars} {name : Str} {scope : Scope} {b₀ : Heap} {R₀ : Led} {body₁ : Expr} {scope₁ : Scope} {clos₁ : List (Str × Addr)} {np₁ lp₁ pos₁ pos : Pos} {rest : List Stmt} {L : Addr} {T : Addr} {ps : Array Value}
    (hLP : L ≠ P) (hPl : P ∉ frs l) (h0 : ∀ b, b = P ∨ b ∈ (L :: frs l) → b₀.get? b = none) (hT : (T, tabObj ps) ∈ R₀) (hbm : BmOk mg b₀) (C : CodeHd b₀ c P)
    (hcl₁ : closureFor scope₁ (envOfC name scope L a (.ref c)) = pure clos₁)
    (hb₁ : ∀ L' h₀ fA c' R', (∀ p ∈ R₀, p ∈ R') → REV (GG w p loose mg mb) ⟨envX ((envOfC name scope L a (.ref c)).qual ++ "<lambda>") scope₁ L' fA (.ref c') clos₁, h₀, R'⟩ n [] body₁ (.ref 37) (fun _ _ => True))
    (hc₁ : ∀ x ∈ scope₁.names, x.2 ≠ .cell)
    (hk : scope.kind = .function := by rfl) (hx : (envOfC name scope L a (.ref c)).kindOf "_law_is_divided" = some .globalImplicit := by rfl)
    (hs₁ : starEach [.Lambda noArgs body₁ scope₁ lp₁] (envOfC name scope L a (.ref c)) = [(false, eval (.Lambda noArgs body₁ scope₁ lp₁) (envOfC name scope L a (.ref c)))] := by rfl)
    (hco₁ : scope₁.isCoroutine = false := by rfl) (hgen₁ : scope₁.isGenerator = false := by rfl) (hkl₁ : scope₁.kind = .function := by rfl) :
    KP (GG w p loose mg mb) ⟨envOfC name scope L a (.ref c), b₀, R₀⟩ (n + 2) l σ
      (.Return (some (.Call (.Name "_law_is_divided" np₁) [.Lambda noArgs body₁ scope₁ lp₁] [] pos₁)) pos :: rest)
      (TI l P L s) (fun s' => Rest s s' ∧ (∀ b o, b₀.get? b = some o → s'.heap.get? b = some o) ∧ (∃ ps, s'.heap.get? P = some (tabObj ps)) ∧ (∃ ps, s'.heap.get? T = some (tabObj ps))) := by
  intro A E s' R' Q hA hfr hS i q
  have eF : frs (envOfC name scope L a (.ref c) :: l) = L :: frs l := rfl
  have hsub : ∀ p ∈ R₀, p ∈ R' := by obtain ⟨m, S⟩ := id hS; exact S.sub
  have keep : ∀ b o, b₀.get? b = some o → s'.heap.get? b = some o := by obtain ⟨m, S⟩ := id hS; exact S.fr.keep
  have hFF' : FF (envOfC name scope L a (.ref c) :: l) s'.heap := fun env' he => by
    rcases List.mem_cons.mp he with rfl | he
    · refine xe1_1 (id hS) fun m S => ?_
      refine xe3_3 S.fr.ns fun o es ep ho hd _ => ?_
      exact ⟨(by show scope.kind ≠ .module; (refine rwt hk ?_); decide), _, o, rfl, ho, fun vs q => by rw [hd] at q; cases q⟩
    · exact i.ff env' he
  refine wpAny_execs_cons (wpAny_Return_some ?_)
  refine isdivE (ps := #[]) (f := ⟨envOfC name scope L a (.ref c), b₀, R₀⟩) (c := c) (P := P) (clos := clos₁) hA hfr hFF' hS h0 hbm rfl C i.tab (show TriplesOk [] from trivial) rfl hcl₁ rfl rfl (fun hm => ?_) i.led (fun L' h₀ fA c' => hb₁ L' h₀ fA c' R' hsub) hc₁ (fun s₂ c' rs lam htab => q s₂ ⟨i.rest.trans rs, fun b o e => lam.keep b o (fun z => ?_) (keep b o e) (fun z => ?_), ⟨_, htab⟩, ⟨_, lam.keep T _ (i.led _ (hsub _ hT)).1 (hS.ledIn _ (hsub _ hT)) (i.led _ (hsub _ hT)).2⟩⟩) hk hx hs₁ hco₁ hgen₁ hkl₁
  · rw [eF] at hm
    rcases List.mem_cons.mp hm with h | h
    · exact hLP h.symm
    · exact hPl h
  · rw [h0 b (.inl z)] at e; cases e
  · rw [h0 b (.inr z)] at e; cases e
end

set_option maxRecDepth 100000
set_option maxHeartbeats 4000000
section
variable {w : World} {p : Program} {loose : List Str} {mg mb : Str → Option Value}
/-- _law_texts_right -/
theorem texts_ {A : Around} {E : Value → Shared → Prop} {s : Shared} {Q : Value → Shared → Prop} {l : List Env} {b₀ : Heap} {q pp : Addr} {ns : List Int} {z : Int} {ps : Array Value} {vs : List Value} (wd base : Nat) (a b : Int) (hw : 1 ≤ wd) (hw2 : wd ≤ 1000) (hbs : 2 ≤ base) (hbs2 : base ≤ 36) (ha : a.natAbs < 2 ^ 10) (hb : b.natAbs < 2 ^ 10) (hb0 : b ≠ 0)
    (hA : AOk 7 A) (hfr : A.frames = some l) (hFF : FF l s.heap) (B : Base (GG w p loose mg mb) b₀ l s.heap) (hz : b₀.objs.size ≤ s.heap.objs.size) (hbm : BmOk mg b₀) (hCd : CodeHd b₀ 424 420)
    (hP0 : b₀.get? 420 = none) (hP : s.heap.get? 420 = some (tabObj #[])) (hPl : 420 ∉ frs l) (hT0 : b₀.get? 387 = none) (hT : s.heap.get? 387 = some (tabObj ps)) (hTl : 387 ∉ frs l)
    (hbx : BxOk s.heap b₀ q pp ns z) (hql : q ∉ frs l) (hpl : pp ∉ frs l) (hI : IsAll [(387, tabObj ps)] vs [.int a, .int b, .int base, .fn q, .int wd])
    (qq : ∀ s', Rest s s' → (∀ b o, b₀.get? b = some o → s'.heap.get? b = some o) → (∃ ps, s'.heap.get? 420 = some (tabObj ps)) → (∃ ps, s'.heap.get? 387 = some (tabObj ps)) → Q (.bool true) s') :
    wpAny (GG w p loose mg mb).M A (call (.ref 425) vs) Q E s := by
  have z5 : a.natAbs < 2 ^ 30 := by exact oq515 ha
  have z6 : b.natAbs < 2 ^ 30 := by exact oq515 hb
  refine xe2_2 (low_ex a hb0) fun P Q₀ l1 e1 => ?_
  refine xe0_2 (low_bound l1 hb0 e1) fun b1 b2 => ?_
  have y1 : P.natAbs < 2 ^ 60 := by exact oq557 z5 b1
  have y2 : Q₀ < 2 ^ 60 := by exact oq558 z6 b2
  have q1 := l1.pos
  have hLn : s.heap.get? s.heap.objs.size = none := Heap.get?_none_of_le (Nat.le_refl _)
  have hlt : ∀ {b o}, s.heap.get? b = some o → b < s.heap.objs.size := fun h => Heap.lt_size h
  refine call_CE (g := GG w p loose mg mb) (n := 6) (R := [(387, tabObj ps)]) (ds := [.int a, .int b, .int base, .fn q, .int wd]) ["a", "b", "base", "box", "w"] [("a", .int a), ("b", .int b), ("box", .fn q)] [("base", .int base), ("w", .int wd)] ["x", "text", "begin", "at", "broken", "spot", "one", "due"] rfl rfl (len5 fun _ _ _ _ _ => rfl) rfl (by decide) (show (["a", "b", "box", "x", "text", "begin", "at", "broken", "spot", "one", "due"] : List Str).Nodup by decide) (fun k => rfl) ?_ rfl ?_ (fun k => rfl) hA B.glOk (fun p hp => by (refine rwt (List.mem_singleton.mp hp) ?_); exact hT) hI (fun h₁ tk cells c1 S₀ c4 c5 k₁ hAd => ?_) rfl rfl rfl
  · intro q hq
    simp only [List.mem_cons, List.not_mem_nil, or_false] at hq
    rcases hq with rfl | rfl | rfl
    · exact .head _
    · exact .tail _ (.head _)
    · exact .tail _ (.tail _ (.tail _ (.head _)))
  · intro q hq
    simp only [List.mem_cons, List.not_mem_nil, or_false] at hq
    rcases hq with rfl | rfl
    · exact .tail _ (.tail _ (.head _))
    · exact .tail _ (.tail _ (.tail _ (.tail _ (.head _))))
  have hCb : CellAt ⟨_, b₀, cells ++ [(387, tabObj ps)]⟩ "base" (.int base) := (c1 _ (.head _)).mono fun _ h => h
  have hCw : CellAt ⟨_, b₀, cells ++ [(387, tabObj ps)]⟩ "w" (.int wd) := (c1 _ (.tail _ (.head _))).mono fun _ h => h
  clear c1 c5
  simp only [List.map_cons, List.map_nil, List.cons_append, List.nil_append] at S₀
  have S₁ := S₀.rebase rfl B.gl B.sub hz
  have loc₁ : ∃ o, h₁.get? s.heap.objs.size = some o := S₀.loc
  have hLl : s.heap.objs.size ∉ frs l := fun hm => by
    refine xe1_1 (frs_old hFF _ hm) fun o ho => ?_
    rw [hLn] at ho; cases ho
  have hLP : s.heap.objs.size ≠ 420 := fun e => by rw [e, hP] at hLn; cases hLn
  have hcl : ∀ p ∈ cells ++ [(387, tabObj ps)], (∃ k : Nat, 1 ≤ k ∧ p.1 = s.heap.objs.size + k) ∨ p.1 = 387 := fun p hp => by
    rcases List.mem_append.mp hp with hp | hp
    · refine xe1_2 (c4 p hp) fun qd hq hl => ?_
      simp only [List.mem_cons, List.not_mem_nil, or_false] at hq
      rcases hq with rfl | rfl
      · have hl : some (s.heap.objs.size + 1) = some p.1 := hl
        exact .inl ⟨1, by decide, (Option.some.inj hl).symm⟩
      · have hl : some (s.heap.objs.size + 1 + 1) = some p.1 := hl
        exact .inl ⟨2, by decide, (Option.some.inj hl).symm⟩
    · (refine rwt (List.mem_singleton.mp hp) ?_); exact .inr rfl
  refine xe2_1 hbx.top fun nb tb hbo => ?_
  refine xe2_2 hbx.its fun vb nb' hbp ivb => ?_
  have big : ∀ {k b : Nat} {o : Obj}, s.heap.get? b = some o → s.heap.objs.size + k ≠ b := fun {k b o} h e => by
    have := Heap.lt_size h
    rw [← e] at this
    exact absurd this (Nat.not_lt.mpr (Nat.le_add_right _ _))
  have T₁ : TI l 420 s.heap.objs.size s (cells ++ [(387, tabObj ps)]) { s with heap := h₁, toks := tk } := by
    refine ⟨.mk', hFF.keeps k₁, k₁ _ _ hP, loc₁, fun p hp => ?_⟩
    rcases hcl p hp with ⟨k, hk, e⟩ | e
    · (refine rwt e ?_)
      refine ⟨big hP, fun hm => ?_⟩
      rcases List.mem_cons.mp hm with h | h
      · exact absurd h (Nat.ne_of_gt (Nat.lt_add_of_pos_right hk))
      · refine xe1_1 (frs_old hFF _ h) fun o ho => ?_
        exact big ho rfl
    · (refine rwt e ?_)
      refine ⟨by decide, fun hm => ?_⟩
      rcases List.mem_cons.mp hm with h | h
      · exact big (k := 0) hT h.symm
      · exact hTl h
  have X₁ : BxA h₁ b₀ (cells ++ [(387, tabObj ps)]) s.heap.objs.size q pp ns z := by
    refine ⟨⟨⟨hbx.ne, ⟨nb, tb, k₁ _ _ hbo⟩, vb, nb', k₁ _ _ hbp, ivb⟩, hbx.q0, hbx.p0, hbx.len, hbx.zs⟩, fun p hp => ?_, big (k := 0) hbo, big (k := 0) hbp⟩
    rcases hcl p hp with ⟨k, hk, e⟩ | e
    · (refine rwt e ?_); exact ⟨big hbo, big hbp⟩
    · (refine rwt e ?_)
      refine ⟨fun h => ?_, fun h => ?_⟩
      · rw [← h, hT] at hbo; cases hbo
      · rw [← h, hT] at hbp; cases hbp
  have hI₁ : ∀ {name : Str} {scope : Scope} {a' : Addr} {cd : Value}, ∀ R' s' R'' s'', LRes ⟨envOfC name scope s.heap.objs.size a' cd, b₀, cells ++ [(387, tabObj ps)]⟩ R' s' R'' s'' → (TI l 420 s.heap.objs.size s R' s' ∧ BxA s'.heap b₀ R' s.heap.objs.size q pp ns z) → (TI l 420 s.heap.objs.size s R'' s'' ∧ BxA s''.heap b₀ R'' s.heap.objs.size q pp ns z) :=
    fun R' s' R'' s'' r i => ⟨i.1.lres rfl hLl hLP r, BxA.lres (f := ⟨envOfC _ _ s.heap.objs.size _ _, b₀, cells ++ [(387, tabObj ps)]⟩) i.2 r⟩
  refine KP.run (I := fun R' s' => TI l 420 s.heap.objs.size s R' s' ∧ BxA s'.heap b₀ R' s.heap.objs.size q pp ns z) (Post := fun s' => Rest s s' ∧ (∀ b o, b₀.get? b = some o → s'.heap.get? b = some o) ∧ (∃ ps, s'.heap.get? 420 = some (tabObj ps)) ∧ (∃ ps, s'.heap.get? 387 = some (tabObj ps))) hAd (Around.frames_deeper hfr) S₁ ⟨T₁, X₁⟩ (fun s' hp => qq s' hp.1 hp.2.1 hp.2.2.1 hp.2.2.2) ?_
  clear S₀ S₁
  refine KP.stmt hI₁ (LX.assign (d := RT wd P Q₀) (by wtm_at "E") (by wtm_at "u") ⟨_, rfl, ?_⟩)
  refine KP.stmt hI₁ (LX.assign (d := TX (rt base P Q₀)) (by wtm_at "E") (by wtm_at "u") ⟨_, rfl, ?_⟩)
  have F7 : (if Q₀ = 1 then none else some (ntd base Q₀)) = none ↔ Q₀ = 1 := by by_cases h : Q₀ = 1 <;> simp [h]
  have F1 := ntd_ne hbs P.natAbs
  have F2 := ntd_lt hbs P.natAbs
  have F3 : val base (ntd base P.natAbs) = P.natAbs := val_ntd hbs _
  have F4 : (ntd base P.natAbs).length ≤ 60 := by have := nt_len hbs y1 (by decide); rwa [nt_eq, List.length_map] at this
  have F5 : ∀ es, (if Q₀ = 1 then none else some (ntd base Q₀)) = some es → es ≠ [] ∧ (∀ d ∈ es, d < base) ∧ val base es = Q₀ ∧ es.length ≤ 60 := fun es h => by
    by_cases hq : Q₀ = 1
    · rw [if_pos hq] at h; cases h
    · rw [if_neg hq] at h; cases h
      exact ⟨ntd_ne hbs _, ntd_lt hbs _, val_ntd hbs _, by have := nt_len hbs y2 (by decide); rwa [nt_eq, List.length_map] at this⟩
  have F6 : P * (((if Q₀ = 1 then none else some (ntd base Q₀)).elim 1 (val base) : Nat) : Int) = sgv (decide (P < 0)) (val base (ntd base P.natAbs)) * (Q₀ : Int) := by
    have h1 : (((if Q₀ = 1 then none else some (ntd base Q₀)).elim 1 (val base) : Nat)) = Q₀ := by
      by_cases h : Q₀ = 1
      · (refine rwt (if_pos h) ?_; refine rwt h ?_); rfl
      · (refine rwt (if_neg h) ?_); exact val_ntd hbs _
    (refine rwt h1 ?_; refine rwt F3 ?_)
    congr 1
    unfold sgv
    by_cases h : P < 0
    · (refine rwt (decide_eq_true h) ?_; refine rwt (if_pos rfl) ?_); exact oq559 h
    · (refine rwt (decide_eq_false h) ?_; refine rwt (if_neg (by decide)) ?_); exact oq19 h
  (refine rwt (rt_ftx ..) ?_)
  generalize (if Q₀ = 1 then none else some (ntd base Q₀)) = o at F5 F6 F7 ⊢
  have F8 : val base (ntd base P.natAbs) < 2 ^ 60 := by exact oq560 y1 F3
  clear F3
  generalize ntd base P.natAbs = ds at F1 F2 F4 F6 F8 ⊢
  have F9 : ∀ es, o = some es → es ≠ [] ∧ (∀ d ∈ es, d < base) ∧ val base es < 2 ^ 60 ∧ es.length ≤ 400 ∧ 0 < val base es := fun es h => by
    refine xe0_4 (F5 es h) fun g1 g2 g3 g4 => ?_
    exact ⟨g1, g2, by exact oq561 g3 y2, by exact oq562 g4, by exact oq563 q1 g3⟩
  have hlen : (ftx (decide (P < 0)) ds o).length ≤ 200 := by
    have h1 : (sgt (decide (P < 0))).length ≤ 1 := by cases (decide (P < 0)) <;> decide
    have h2 : (sfx o).length ≤ 61 := by
      cases o with
      | none => decide
      | some es => have := (F5 es rfl).2.2.2; simp [sfx]; exact oq564 this
    (refine rwt (ftx_eq ..) ?_; refine rwt List.length_append ?_; refine rwt List.length_append ?_; refine rwt (List.length_map ..) ?_); exact oq565 F4 h1 h2
  have hslash : decide (0 ≤ Txt.find ⟨(ftx (decide (P < 0)) ds o).toArray⟩ ⟨#[47]⟩) = ((Q₀ : Int) != 1) := by
    have hs : 47 ∉ sgt (decide (P < 0)) ++ ds.map sg := fun h => by
      rcases List.mem_append.mp h with h | h
      · exact sgt_out _ h
      · exact no47 _ h
    cases o with
    | none =>
      have : Q₀ = 1 := F7.mp rfl
      (refine rwt (ftx_eq ..) ?_; refine rwt (show sfx none = [] from rfl) ?_; refine rwt (List.append_nil ..) ?_; refine rwt (find_out hs) ?_; refine rwt this ?_); rfl
    | some es =>
      have : Q₀ ≠ 1 := fun h => by cases F7.mpr h
      (refine rwt (ftx_eq ..) ?_; refine rwt (show sfx (some es) = 47 :: es.map sg from rfl) ?_; refine rwt (find_at hs) ?_; refine rwt (decide_eq_true (Int.natCast_nonneg _)) ?_)
      symm
      rw [bne_iff_ne]
      exact oq566 this
  refine KP.stmt hI₁ (LX.if_ (TR.or2 (TR.cmp (EV.callN (by wtm_at "E") (by wtm_at "S") (fn_r_from_text wd base (decide (P < 0)) ds o P Q₀ hbs hbs2 hw hw2 F1 F2 F8 (by exact oq562 F4) F9 F6 l1) (by decide) rfl) (by wtm_at "E") (CMP.neR (okD_RT ..)) rfl)
    (fun _ => TR.cmp (EV.cmp (EV.eq EV.str (show _ = D.str ⟨#[47]⟩ by with_unfolding_all rfl)) (by wtm_at "E") CMP.inS rfl) (by wtm_at "E") CMP.neB rfl)) (fun h => absurd h ?_) (fun _ => LP.nil ⟨_, rfl, ?_⟩))
  · (refine rwt (in_find ..) ?_; refine rwt hslash ?_)
    simp
  clear hslash F6
  generalize decide (P < 0) = bN at hlen ⊢
  have hsb : (sgt bN).length = if bN = true then 1 else 0 := sgt_len bN
  have hsl : (sgt bN).length ≤ (ftx bN ds o).length := by (refine rwt (ftx_eq ..) ?_; refine rwt List.length_append ?_; refine rwt List.length_append ?_); exact oq567
  refine KP.stmt hI₁ (LX.assign (d := .int ((sgt bN).length : Nat)) (EV.eq (EV.intB (EV.cmp (EV.headTX (by wtm_at "E") EV.int (by exact oq568 hlen)) (EV.eq EV.str (show _ = TX [45] by with_unfolding_all rfl)) CMP.eqTX rfl) rfl) (by unfold ftx; rw [head_neg bN F1]; cases bN <;> rfl)) (by wtm_at "u") ⟨_, rfl, ?_⟩)
  refine KP.raw (I' := TI l 420 s.heap.objs.size s) (J := fun σ' => ∃ at_ : Nat, (sgt bN).length ≤ at_ ∧ at_ ≤ (ftx bN ds o).length ∧ σ' = [V "a" (.int a), V "b" (.int b), V "box" (.fn q), V "x" (RT wd P Q₀), V "text" (TX (ftx bN ds o)), V "begin" (.int ((sgt bN).length : Nat)), V "at" (.int (at_ : Nat)), U "broken", U "spot", U "one", U "due"]) ?_ ?_
  · intro A' E' s₂ R₂ K hA' hfr' S₂ i₂ kk
    refine wpAny_Assign_Name (wpAny_BinOp (EV.at (h₀ := b₀) (R₀ := cells ++ [(387, tabObj ps)]) (d := .int ((sgt bN).length : Nat)) hA' S₂ (by wtm_at "E") (fun v₁ R₃ s₃ r₃ i₃ S₃ => ?_))) rfl
    have T₃ := i₂.1.lres rfl hLl hLP (r₃.lres S₂)
    have X₃ := BxA.lres i₂.2 (r₃.lres S₂)
    refine takeE (n := 4) (many := ((ftx bN ds o).length : Nat) - ((sgt bN).length : Nat) + 1) hA' S₃ rfl X₃ (by wtm_at "E") (EV.bin (EV.bin (EV.eq (EV.lenS (by wtm_at "E") (by (refine rwt (tx_len ..) ?_); exact oq568 hlen) rfl) (by (refine rwt (tx_len ..) ?_; with_reducible rfl))) (by wtm_at "E") OP.sub) EV.int OP.add) (by exact oq569 hsl) (fun s₄ R₄ r t ns' z' rs₄ h0 h1 X₄ m₄ n₄ k₄ S₄ => ?_) rfl rfl rfl rfl rfl rfl
    (first | refine Is.eInt i₃ fun _ => ?_ | refine Is.eFn i₃ ?_ | refine Is.eBool i₃ ?_ | refine Is.eStr i₃ fun _ => ?_ | refine Is.eNone i₃ ?_ | cases i₃)
    refine OP.add (g := GG w p loose mg mb) (a := ((sgt bN).length : Nat)) (b := r) _ _ _ [] _ _ _ (hA'.le (Nat.zero_le _)) (fun _ h => nomatch h) (.int _ _) (.int _ _) (fun v tk iv => ?_)
    (first | refine Is.eInt iv fun _ => ?_ | refine Is.eFn iv ?_ | refine Is.eBool iv ?_ | refine Is.eStr iv fun _ => ?_ | refine Is.eNone iv ?_ | cases iv)
    refine storeL_ (x := "at") (d := .int (((sgt bN).length + r.toNat : Nat) : Int)) (S₄.toks) (show Is R₄ _ _ from ?_) (by wtm_at "u") (fun s₅ r₅ S₅ => ?_) rfl rfl
    · (refine rwt (show (((sgt bN).length + r.toNat : Nat) : Int) = ((sgt bN).length : Int) + r by exact oq570 h0) ?_)
      exact .int _ _
    · have n420q : (420 : Addr) ≠ q := fun e => by rw [← e, hP] at hbo; cases hbo
      have n420p : (420 : Addr) ≠ pp := fun e => by rw [← e, hP] at hbp; cases hbp
      have T₄ : TI l 420 s.heap.objs.size s R₄ { s₄ with toks := tk } := by
        refine ⟨(T₃.rest.trans rs₄).trans .toks, fun env he => ?_, k₄ _ _ n420q n420p T₃.tab, ?_, fun p hp => ?_⟩
        · refine xe0_2 (T₃.ff env he) fun x1 r_0 => ?_
          refine xe2_3 r_0 fun L' o' x2 x3 x4 => ?_
          have hm : L' ∈ frs l := List.mem_filterMap.mpr ⟨env, he, x2⟩
          exact ⟨x1, L', o', x2, k₄ _ _ (fun e => hql (e ▸ hm)) (fun e => hpl (e ▸ hm)) x3, x4⟩
        · refine xe1_1 T₃.loc fun o' ho' => ?_
          exact ⟨o', k₄ _ _ X₃.lq.1 X₃.lq.2 ho'⟩
        · rcases n₄ p hp with h | h
          · exact T₃.led p h
          · exact T₃.fresh h
      exact kk s₅ R₄ _ ⟨(sgt bN).length + r.toNat, by exact oq571, by exact oq572 hsl h1, rfl⟩ S₅ (T₄.lres rfl hLl hLP r₅)
  · intro σ' hh_
    refine xe1_3 hh_ fun at_ ha1 ha2 e_1 => ?_
    subst e_1
    try clear hh_
    have hI₂ : ∀ {name : Str} {scope : Scope} {a' : Addr} {cd : Value}, ∀ R' s' R'' s'', LRes ⟨envOfC name scope s.heap.objs.size a' cd, b₀, cells ++ [(387, tabObj ps)]⟩ R' s' R'' s'' → TI l 420 s.heap.objs.size s R' s' → TI l 420 s.heap.objs.size s R'' s'' := fun R' s' R'' s'' r i => i.lres rfl hLl hLP r
    have hcut : ∀ c : Nat, ((ftx bN ds o).take at_).length + [c].length ≤ 1000000 := fun c => by (refine rwt List.length_take ?_); show _ + 1 ≤ _; exact oq573 hlen
    have hcut2 : ∀ c : Nat, ((ftx bN ds o).take at_ ++ [c]).length + ((ftx bN ds o).drop at_).length ≤ 1000000 := fun c => by (refine rwt List.length_append ?_; refine rwt List.length_take ?_; refine rwt List.length_drop ?_); show _ + 1 + _ ≤ _; exact oq574 hlen
    refine KP.stmt hI₂ (LX.swap2 (d₁ := TX ((ftx bN ds o).take at_ ++ [63] ++ (ftx bN ds o).drop at_)) (d₂ := .int (at_ : Nat)) (EV.bin (EV.bin (EV.takeTX (by wtm_at "E") (by wtm_at "E") (by exact oq568 hlen) ha2) (EV.eq EV.str (show _ = TX [63] by with_unfolding_all rfl)) (OP.addTX (hcut 63))) (EV.dropTX (by wtm_at "E") (by wtm_at "E") (by exact oq568 hlen) ha2) (OP.addTX (hcut2 63))) (by wtm_at "E") (by wtm_at "U") ⟨_, rfl, ?_⟩)
    refine KP.ifJ (J := fun σ' => ∃ (c : Nat) (zc : Int), (c ≠ 45 ∧ c ≠ 47) ∧ Txt.find signsS (Txt.lower ⟨#[c]⟩) = zc ∧ ¬ (0 ≤ zc ∧ zc < base) ∧ σ' = [V "a" (.int a), V "b" (.int b), V "box" (.fn q), V "x" (RT wd P Q₀), V "text" (TX (ftx bN ds o)), V "begin" (.int ((sgt bN).length : Nat)), V "at" (.int (at_ : Nat)), V "broken" (TX ((ftx bN ds o).take at_ ++ [c] ++ (ftx bN ds o).drop at_)), V "spot" (.int (at_ : Nat)), U "one", U "due"]) hI₂
      (TR.and3 (TR.cmp (by wtm_at "E") (by wtm_at "E") CMP.eqI rfl) (fun _ => TR.cmp (by wtm_at "E") EV.int CMP.neI rfl) (fun _ _ => TR.cmp (by wtm_at "E") EV.int CMP.ltI rfl)) (fun h => ?_) (fun _ => ⟨63, -1, by decide, dig_bad, by exact oq575, rfl⟩) ?_
    · simp only [Bool.and_eq_true, decide_eq_true_eq] at h
      refine LP.cons (LX.swap2 (d₁ := TX ((ftx bN ds o).take at_ ++ [122] ++ (ftx bN ds o).drop at_)) (d₂ := .int (at_ : Nat)) (EV.bin (EV.bin (EV.takeTX (by wtm_at "E") (by wtm_at "E") (by exact oq568 hlen) ha2) (EV.eq EV.str (show _ = TX [122] by with_unfolding_all rfl)) (OP.addTX (hcut 122))) (EV.dropTX (by wtm_at "E") (by wtm_at "E") (by exact oq568 hlen) ha2) (OP.addTX (hcut2 122))) (by wtm_at "E") (by wtm_at "U") (ThenL.next (LP.nil ⟨_, rfl, 122, 35, by decide, dig_ok (i := 35) (by decide), by lia, rfl⟩)))
    · intro σ' hh_
      refine xe2_4 hh_ fun c zc hc1 hc2 hc3 e_1 => ?_
      subst e_1
      try clear hh_
      have h0 : ∀ b, b = 420 ∨ b ∈ (s.heap.objs.size :: frs l) → b₀.get? b = none := fun b hb => by
        rcases hb with rfl | hb
        · exact hP0
        · rcases List.mem_cons.mp hb with rfl | hb
          · exact Heap.get?_none_of_le hz
          · exact B.out b hb
      refine KP.forC hLl hLP (ITERT.tup (EV.tup (ds := [.tup [TX ((ftx bN ds o).take at_ ++ [c] ++ (ftx bN ds o).drop at_), .int (at_ : Nat)], .tup [TX [], .int 0], .tup [TX [45], .int 1], .tup [TX [49, 47], .int 2]])
        (ES.cons (by wtm_at "E") (ES.cons (EV.tup (ES.cons (EV.eq EV.str (show _ = TX [] by with_unfolding_all rfl)) (by wtm_at "S") rfl) (Nat.le_of_ble_eq_true rfl)) (ES.cons (EV.tup (ES.cons (EV.eq EV.str (show _ = TX [45] by with_unfolding_all rfl)) (by wtm_at "S") rfl) (Nat.le_of_ble_eq_true rfl)) (ES.cons (EV.tup (ES.cons (EV.eq EV.str (show _ = TX [49, 47] by with_unfolding_all rfl)) (by wtm_at "S") rfl) (Nat.le_of_ble_eq_true rfl)) ES.nil rfl) rfl) rfl) rfl) (Nat.le_of_ble_eq_true rfl)))
        (fun i σ => ∃ s₁ s₂ : Sl, s₁.plain = true ∧ s₂.plain = true ∧ σ = [V "a" (.int a), V "b" (.int b), V "box" (.fn q), V "x" (RT wd P Q₀), V "text" (TX (ftx bN ds o)), V "begin" (.int ((sgt bN).length : Nat)), V "at" (.int (at_ : Nat)), V "broken" (TX ((ftx bN ds o).take at_ ++ [c] ++ (ftx bN ds o).drop at_)), V "spot" (.int (at_ : Nat)), (PySem.Str.ofString "one", s₁), (PySem.Str.ofString "due", s₂)])
        ⟨_, _, rfl, rfl, rfl⟩ ?_ ?_
      · intro i d σ hd hh_
        refine xe2_3 hh_ fun s₁ s₂ p₁ p₂ e_1 => ?_
        subst e_1
        try clear hh_
        have key : ∃ T k, d = .tup [TX T, .int k] ∧ RX (GG w p loose mg mb) 4 289 [TX T, .int base, .int wd, .fn 338, .fn 345] (.ref 58) (payAt k) := by
          rcases i with _ | _ | _ | _ | i
          · exact ⟨_, _, (Option.some.inj hd).symm, rx_broken wd base bN ds o c at_ zc hbs hbs2 hw hw2 F1 F2 F8 (by exact oq562 F4) (fun es h => ⟨(F9 es h).2.1, (F9 es h).2.2.1, (F9 es h).2.2.2.1⟩) ha1 ha2 hc1 hc2 hc3⟩
          · exact ⟨_, _, (Option.some.inj hd).symm, rx_e wd base⟩
          · exact ⟨_, _, (Option.some.inj hd).symm, rx_m wd base⟩
          · exact ⟨_, _, (Option.some.inj hd).symm, rx_b wd base hbs hbs2 hw hw2⟩
          · cases hd
        refine xe2_2 key fun T kz e_1 hT' => ?_
        subst e_1
        try clear key
        refine ⟨TX T, .int kz, _, rfl, .cons (.tail (.tail (.tail (.tail (.tail (.tail (.tail (.tail (.tail (.here p₁)))))))))) (.cons (.tail (.tail (.tail (.tail (.tail (.tail (.tail (.tail (.tail (.tail (.here p₂))))))))))) .nil), ?_⟩
        intro A' E' s₂ R₂ K hA' hfr' S₂ I₂ kk
        refine wpAny_execs_cons (wpAny_If (wpAny_isTrue_Compare1 (refusedE (n := 0) hA' hfr' rfl rfl S₂ rfl I₂ hLP hPl hLl h0 (by wtm_at "E") (by wtm_at "E") (by wtm_at "E") hT' (fun s₃ R₃ t rs m₃ I₃ S₃ => ?_) rfl rfl rfl rfl rfl rfl) (by with_unfolding_all rfl)))
        refine EV.at (h₀ := b₀) (R₀ := cells ++ [(387, tabObj ps)]) (d := .int kz) hA' S₃ (by wtm_at "E") (fun v R₄ s₄ r₄ i₄ S₄ => ?_)
        refine CMP.neI (g := GG w p loose mg mb) (a := kz) (b := kz) _ _ _ R₄ _ _ _ (hA'.le (Nat.zero_le _)) r₄.led (.int _ _) i₄ (fun tk' => wpAny_truthy_bool ?_)
        (refine rwt (bne_self_eq_false ..) ?_; refine rwt (if_neg (by decide)) ?_)
        refine wpAny_execs_nil (wpAny_execs_nil ?_)
        exact kk _ R₄ _ ⟨_, _, rfl, rfl, rfl⟩ S₄ (by
          have := I₃.lres rfl hLl hLP (r₄.lres S₃)
          exact ⟨this.rest.trans .toks, this.ff, this.tab, this.loc, this.led⟩) (fun p hp => r₄.sub p (m₃ p hp)) ((rs.trans r₄.rest).trans .toks)
      · intro σ hh_
        refine xe2_3 hh_ fun s₁ s₂ p₁ p₂ e_1 => ?_
        subst e_1
        try clear hh_
        refine KP.div1T (n := 4) (c := 424) (P := 420) (T := 387) (ps := ps) (clos₁ := _) hLP hPl h0 (List.mem_append.mpr (.inr (.head _))) hbm hCd rfl (fun L' h₀ fA c' R' hs => ?_) (by decide) rfl rfl rfl rfl rfl rfl
        exact REV.call (by wtm_at "E") (ES.cons (EV.eq EV.str (show _ = TX [49, 47, 48] by with_unfolding_all rfl)) (ES.cons (EV.freeAt (hCb.to rfl hs) rfl rfl (by decide) (by decide)) (ES.cons (EV.freeAt (hCw.to rfl hs) rfl rfl (by decide) (by decide)) (by wtm_at "S") rfl) rfl) rfl) (rx_nought wd base hbs hbs2 hw hw2) (by decide) rfl
end

set_option maxRecDepth 100000
set_option maxHeartbeats 4000000
section
variable {w : World} {p : Program} {loose : List Str} {mg mb : Str → Option Value}
/-- _law_box -/
theorem box_ {A : Around} {E : Value → Shared → Prop} {s : Shared} {Q : Value → Shared → Prop} {a : Addr} {vs : List Value} {ns : List Int} (hA : AOk 2 A) (hG : GlOk (GG w p loose mg mb) s.heap) (hl : s.heap.IsList a vs.toArray) (iv : IsAll [] vs (ns.map .int)) (hn : ns.length ≤ 1000)
    (k : ∀ s' q pp z, Rest s s' → (∀ b o, s.heap.get? b = some o → s'.heap.get? b = some o) → s.heap.get? q = none → s.heap.get? pp = none → Bx s'.heap q pp ((ns.take 30).map fun n => ((n.natAbs : Nat) : Int)) z → (0 ≤ z ∧ z < 1000003) → Q (.ref q) s') :
    wpAny (GG w p loose mg mb).M A (call (.ref 357) [.ref a]) Q E s := by
  refine call_P (g := GG w p loose mg mb) (n := 1) (R := []) (ds := [.fn a]) ["script"] ["box", "number"] rfl rfl (len1 fun _ => rfl) rfl (by decide) rfl hA hG (fun _ h => nomatch h) (.cons (.fn a) .nil) (fun h₁ S hk₁ hAd => ?_)
  simp only [mkVars, List.zip_cons_cons, List.zip_nil_right, List.map_cons, List.map_nil, List.cons_append, List.nil_append] at S
  have hLn : s.heap.get? s.heap.objs.size = none := Heap.get?_none_of_le (Nat.le_refl _)
  have hnl : (ns.map D.int).length ≤ 1000000 := by (refine rwt (List.length_map ..) ?_); exact oq489 hn
  refine wpAny_execs_cons (wpAny_Assign_Name (EV.at (h₀ := s.heap) (R₀ := []) (d := .list [.list ((ns.take 30).map fun n => .int ((n.natAbs : Nat) : Int)), .int 17]) hAd S (EV.list (ES.cons (EV.compI (enc := D.int) (zs := ns.take 30) (F := fun n => ((n.natAbs : Nat) : Int)) (ITER.list (EV.eq (EV.sliceFn (b := 30) (by wtm_at "E") hl iv EV.int hnl) (by (refine rwt List.map_take ?_; with_reducible rfl)))) (fun a b h => by injection h) (fun _ => rfl) (fun C h₀' R₀' z hz hs => by wtm_at "E") (by (refine rwt List.length_take ?_); exact oq576) rfl) (by wtm_at "S") rfl) (Nat.le_of_ble_eq_true rfl)) (fun v R₁ s₁ r₁ i₁ S₁ => ?_)) rfl)
  cases i₁ with
  | list hm ha =>
  rename_i q vq kq
  cases ha with
  | cons i1 ha =>
  cases i1 with
  | list hm1 ha1 =>
  rename_i pp vp kp
  cases ha with
  | cons i2 ha =>
  cases ha
  cases i2
  rename_i t17
  refine xe1_1 (id S₁) fun m S₁m => ?_
  have hqo := (S₁m.led _ hm).1
  have hqL := (S₁m.led _ hm).2.1
  have hq0 : s.heap.get? q = none := by
    rcases (S₁m.led _ hm).2.2 with h | h
    · cases h
    · exact h
  have hpo := (S₁m.led _ hm1).1
  have hpL := (S₁m.led _ hm1).2.1
  have hp0 : s.heap.get? pp = none := by
    rcases (S₁m.led _ hm1).2.2 with h | h
    · cases h
    · exact h
  have hqp : q ≠ pp := fun e => by
    dsimp only at hqo hpo
    rw [← e, hqo] at hpo
    have hvp : [Value.ref pp, .int 17 t17] = vp := by
      have h := Option.some.inj hpo
      have h2 : Data.seq [Value.ref pp, .int 17 t17].toArray kq = Data.seq vp.toArray kp := congrArg Obj.data h
      injection h2 with h3 h4
      simpa using h3
    subst hvp
    cases hcs : (List.take 30 ns).map fun n => D.int ((n.natAbs : Nat) : Int) with
    | nil => rw [hcs] at ha1; cases ha1
    | cons d r =>
      rw [hcs] at ha1
      cases hns : List.take 30 ns with
      | nil => rw [hns] at hcs; cases hcs
      | cons n0 r0 =>
        rw [hns] at hcs
        cases hcs
        cases ha1 with
        | cons j1 j2 => cases j1
  refine storeL_ (d := .fn q) S₁ (.fn q) (by wtm_at "u") (fun s₂ r₂ S₂ => ?_) rfl rfl
  have S₂' := S₂.flat rfl (fun x d hx R v i => by
    rcases List.mem_cons.mp hx with e | hx
    · cases e; (first | refine Is.eInt i fun _ => ?_ | refine Is.eFn i ?_ | refine Is.eBool i ?_ | refine Is.eStr i fun _ => ?_ | refine Is.eNone i ?_ | cases i); exact .fn _
    · rcases List.mem_cons.mp hx with e | hx
      · cases e; (first | refine Is.eInt i fun _ => ?_ | refine Is.eFn i ?_ | refine Is.eBool i ?_ | refine Is.eStr i fun _ => ?_ | refine Is.eNone i ?_ | cases i); exact .fn _
      · rcases List.mem_cons.mp hx with e | hx
        · cases e
        · cases hx)
  have ivp : IsAll [] vp (((ns.take 30).map fun n => ((n.natAbs : Nat) : Int)).map .int) := by
    have e : ((ns.take 30).map fun n => ((n.natAbs : Nat) : Int)).map D.int = (ns.take 30).map fun n => D.int ((n.natAbs : Nat) : Int) := by (refine rwt List.map_map ?_); rfl
    (refine rwt e ?_)
    have go : ∀ (xs : List Int) (us : List Value), IsAll R₁ us (xs.map fun n => D.int ((n.natAbs : Nat) : Int)) → IsAll [] us (xs.map fun n => D.int ((n.natAbs : Nat) : Int)) := by
      intro xs
      induction xs with
      | nil => intro us h; cases h; exact .nil
      | cons x xs ih =>
        intro us h
        cases h with
        | cons h1 h2 =>
          cases h1
          exact .cons (.int _ _) (ih _ h2)
    exact go _ _ ha1
  have hb₂ : Bx s₂.heap q pp ((ns.take 30).map fun n => ((n.natAbs : Nat) : Int)) 17 := ⟨hqp, ⟨_, _, r₂.but _ _ hqL hqo⟩, _, _, r₂.but _ _ hpL hpo, ivp⟩
  show wpAny _ _ (execs _ _) _ _ s₂
  refine wpAny_execs_cons (forBox (g := GG w p loose mg mb) (f := ⟨_, s.heap, []⟩) (n := 1) (R := []) hAd (ITER.list (EV.sliceFn (b := 30) (by wtm_at "E") hl iv EV.int hnl)) S₂' hb₂ (by decide) hq0 (Ne.symm hqL) (Ne.symm hpL) (fun _ h => nomatch h)
    (fun i σ => ∃ sl : Sl, sl.plain = true ∧ σ = [V "script" (.fn a), V "box" (.fn q), (PySem.Str.ofString "number", sl)]) ⟨.un, rfl, rfl⟩ (by
      intro i σ hh_
      refine xe1_2 hh_ fun sl h1 e_1 => ?_
      subst e_1
      try clear hh_
      simp only [noOwn, List.all_cons, List.all_nil, h1, Bool.and_true]; rfl) ?_ ?_ (by intro _; rfl) rfl rfl)
  · intro i d σ hd hh_
    refine xe1_2 hh_ fun sl h1 e_1 => ?_
    subst e_1
    try clear hh_
    have hd' : ∃ x, d = .int x := by
      have := List.mem_of_getElem? hd
      refine xe1_2 (List.mem_map.mp (List.mem_of_mem_take this)) fun x _ e => ?_
      exact ⟨x, e.symm⟩
    refine xe1_1 hd' fun x e_1 => ?_
    subst e_1
    try clear hd'
    refine ⟨_, .tail (.tail (.here h1)), ⟨_, rfl, rfl⟩, ?_⟩
    intro A' E' s₃ R₃ K' z hA' S₃ hb₃ hz₃ kk
    refine xe2_1 hb₃.top fun n3 t3 ho3 => ?_
    refine xe2_2 hb₃.its fun v3 k3 hp3 iv3 => ?_
    refine wpAny_execs_cons (wpAny_Assign_Subscript (wpAny_BinOp (wpAny_BinOp (wpAny_BinOp (box1R hA' S₃ ho3 (by wtm_at "E") EV.int (fun R₄ s₄ r₄ S₄ => ?_))))) rfl)
    refine EV.at (h₀ := s.heap) (R₀ := []) (d := .int 37) hA' S₄ EV.int (fun v5 R₅ s₅ r₅ i₅ S₅ => ?_)
    (first | refine Is.eInt i₅ fun _ => ?_ | refine Is.eFn i₅ ?_ | refine Is.eBool i₅ ?_ | refine Is.eStr i₅ fun _ => ?_ | refine Is.eNone i₅ ?_ | cases i₅)
    refine OP.mul (g := GG w p loose mg mb) (a := z) (b := 37) (by exact oq577 hz₃) _ _ _ [] _ _ _ (hA'.le (Nat.zero_le _)) (fun _ h => nomatch h) (.int _ _) (.int _ _) (fun v6 tk6 i6 => ?_)
    cases i6
    refine EV.at (h₀ := s.heap) (R₀ := []) (d := .int ((x.natAbs : Nat) : Int)) hA' (show St _ _ _ R₅ { s₅ with toks := tk6 }.heap from S₅) (by wtm_at "E") (fun v7 R₇ s₇ r₇ i₇ S₇ => ?_)
    (first | refine Is.eInt i₇ fun _ => ?_ | refine Is.eFn i₇ ?_ | refine Is.eBool i₇ ?_ | refine Is.eStr i₇ fun _ => ?_ | refine Is.eNone i₇ ?_ | cases i₇)
    refine OP.add (g := GG w p loose mg mb) (a := z * 37) (b := ((x.natAbs : Nat) : Int)) _ _ _ [] _ _ _ (hA'.le (Nat.zero_le _)) (fun _ h => nomatch h) (.int _ _) (.int _ _) (fun v8 tk8 i8 => ?_)
    cases i8
    refine EV.at (h₀ := s.heap) (R₀ := []) (d := .int 1000003) hA' (show St _ _ _ R₇ { s₇ with toks := tk8 }.heap from S₇) EV.int (fun v9 R₉ s₉ r₉ i₉ S₉ => ?_)
    (first | refine Is.eInt i₉ fun _ => ?_ | refine Is.eFn i₉ ?_ | refine Is.eBool i₉ ?_ | refine Is.eStr i₉ fun _ => ?_ | refine Is.eNone i₉ ?_ | cases i₉)
    refine OP.mod (g := GG w p loose mg mb) (a := z * 37 + ((x.natAbs : Nat) : Int)) (b := 1000003) (by decide) _ _ _ [] _ _ _ (hA'.le (Nat.zero_le _)) (fun _ h => nomatch h) (.int _ _) (.int _ _) (fun v10 tk10 i10 => ?_)
    cases i10
    refine EV.at (h₀ := s.heap) (R₀ := []) (d := .fn q) hA' (show St _ _ _ R₉ { s₉ with toks := tk10 }.heap from S₉) (by wtm_at "E") (fun v11 R₁₁ s₁₁ r₁₁ i₁₁ S₁₁ => ?_)
    (first | refine Is.eInt i₁₁ fun _ => ?_ | refine Is.eFn i₁₁ ?_ | refine Is.eBool i₁₁ ?_ | refine Is.eStr i₁₁ fun _ => ?_ | refine Is.eNone i₁₁ ?_ | cases i₁₁)
    refine EV.at (h₀ := s.heap) (R₀ := []) (d := .int 1) hA' S₁₁ EV.int (fun v12 R₁₂ s₁₂ r₁₂ i₁₂ S₁₂ => ?_)
    (first | refine Is.eInt i₁₂ fun _ => ?_ | refine Is.eFn i₁₂ ?_ | refine Is.eBool i₁₂ ?_ | refine Is.eStr i₁₂ fun _ => ?_ | refine Is.eNone i₁₂ ?_ | cases i₁₂)
    have keep : ∀ b o, s₃.heap.get? b = some o → s₁₂.heap.get? b = some o := fun b o y => r₁₂.ext _ _ (r₁₁.ext _ _ (r₉.ext _ _ (r₇.ext _ _ (r₅.ext _ _ (r₄.ext _ _ y)))))
    have rest : Rest s₃ s₁₂ := ((((((((r₄.rest.trans r₅.rest).trans .toks).trans r₇.rest).trans .toks).trans r₉.rest).trans .toks).trans r₁₁.rest).trans r₁₂.rest)
    refine setBox (keep _ _ ho3) (fun h' n'' hs hq' => wpAny_execs_nil ?_)
    exact kk { s₁₂ with heap := h' } _ (rest.trans .heap) ⟨hqp, ⟨n'', _, hq'⟩, v3, k3, (hs.2 pp (Ne.symm hqp)).trans (keep _ _ hp3), iv3⟩ ⟨Int.fmod_nonneg_of_pos _ (by decide), Int.fmod_lt_of_pos _ (by decide)⟩ (fun b o hbq y => (hs.2 b hbq).trans (keep b o y))
  · rintro σ' R' s₃ z' ⟨sl, h1, rfl⟩ S₃ hb₃ hz₃ rs₃
    refine wpAny_execs_cons (wpAny_Return_some (EV.at (h₀ := s.heap) (R₀ := []) (d := .fn q) hAd S₃ (by wtm_at "E") (fun v R₄ s₄ r₄ i₄ S₄ => ?_)))
    (first | refine Is.eInt i₄ fun _ => ?_ | refine Is.eFn i₄ ?_ | refine Is.eBool i₄ ?_ | refine Is.eStr i₄ fun _ => ?_ | refine Is.eNone i₄ ?_ | cases i₄)
    refine xe2_1 hb₃.top fun n3 t3 ho3 => ?_
    refine xe2_2 hb₃.its fun v3 k3 hp3 iv3 => ?_
    exact k s₄ q pp z' ((((Rest.mk'.trans r₁.rest).trans r₂.rest).trans rs₃).trans r₄.rest) (let ⟨m, S⟩ := S₄; S.fr.keep) hq0 hp0 ⟨hqp, ⟨_, _, r₄.ext _ _ ho3⟩, _, _, r₄.ext _ _ hp3, iv3⟩ hz₃
end

set_option maxRecDepth 100000
set_option maxHeartbeats 4000000
/-- what holds in law's frame -/
structure LI (b₀ : Heap) (L q pp : Addr) (s₀ : Shared) (ps : Array Value) (R' : Led) (s' : Shared) : Prop where
  rest : Rest s₀ s'
  t387 : s'.heap.get? 387 = some (tabObj ps)
  t420 : s'.heap.get? 420 = some (tabObj #[])
  loc : ∃ o, s'.heap.get? L = some o
  led : ∀ p ∈ R', p.1 ≠ 387 ∧ p.1 ≠ 420 ∧ p.1 ≠ L
  bx : ∃ ns z, BxA s'.heap b₀ R' L q pp ns z
section
variable {b₀ : Heap} {L q pp : Addr} {s₀ : Shared} {ps : Array Value}
theorem LI.keep {R : Led} {s s' : Shared} (I : LI b₀ L q pp s₀ ps R s) (h1 : (387 : Addr) ≠ L) (h2 : (420 : Addr) ≠ L) {f : Fm} (hf : f.env.locals = L) {R' : Led} (r : LRes f R s R' s') : LI b₀ L q pp s₀ ps R' s' := by
  subst hf
  refine xe2_1 I.bx fun ns z x => ?_
  refine ⟨I.rest.trans r.rest, r.but _ _ h1 I.t387, r.but _ _ h2 I.t420, r.loc, fun p hp => ?_, ns, z, x.lres r⟩
  rcases r.new p hp with h | h
  · exact I.led p h
  · refine ⟨fun e => ?_, fun e => ?_, fun e => ?_⟩
    · rw [e, I.t387] at h; cases h
    · rw [e, I.t420] at h; cases h
    · refine xe1_1 I.loc fun o ho => ?_
      rw [e, ho] at h; cases h
theorem LI.toks {R : Led} {s : Shared} {tk : Nat} (I : LI b₀ L q pp s₀ ps R s) : LI b₀ L q pp s₀ ps R { s with toks := tk } := ⟨I.rest.trans .toks, I.t387, I.t420, I.loc, I.led, I.bx⟩
theorem KP.rawD {g : Gl} {f : Fm} {n : Nat} {σ : Vars} {ι : Type} {l : List Env} {st : Stmt} {rest : List Stmt} {I : Led → Shared → Prop} {I' : ι → Led → Shared → Prop} {Post : Shared → Prop} {J : ι → Vars → Prop}
    (h : ∀ (A : Around) (E : Value → Shared → Prop) (s : Shared) (R : Led) (Q : Flow → Shared → Prop), AOk n A → A.frames = some (f.env :: l) → St g f σ R s.heap → I R s → (∀ i s' R' σ', J i σ' → St g f σ' R' s'.heap → I' i R' s' → Q .next s') → wpAny g.M A (exec st f.env) Q E s)
    (hr : ∀ i σ', J i σ' → KP g f n l σ' rest (I' i) Post) : KP g f n l σ (st :: rest) I Post :=
  fun A E s R Q hA hfr hS hi q => wpAny_execs_cons (h A E s R _ hA hfr hS hi fun i s' R' σ' hJ S' i' => hr i σ' hJ A E s' R' Q hA hfr S' i' q)
end
section
variable {w : World} {p : Program} {loose : List Str} {mg mb : Str → Option Value} {b₀ : Heap} {q pp : Addr} {s₀ : Shared} {ps : Array Value}
/-- a draw in law's frame -/
theorem takeL {n : Nat} {env : Env} {R₀ : Led} {σ : Vars} {A : Around} {E : Value → Shared → Prop} {s : Shared} {R : Led} {Q : Value → Shared → Prop} {many : Int} {np pos : Pos} {e₁ e₂ : Expr}
    (hA : AOk (n + 2) A) (S : St (GG w p loose mg mb) ⟨env, b₀, R₀⟩ σ R s.heap) (no : noOwn σ = true) (I : LI b₀ env.locals q pp s₀ ps R s)
    (h₁ : EV (GG w p loose mg mb) ⟨env, b₀, R₀⟩ (n + 2) σ e₁ (.fn q)) (h₂ : EV (GG w p loose mg mb) ⟨env, b₀, R₀⟩ (n + 2) σ e₂ (.int many)) (hm : 0 < many)
    (k : ∀ s' R' r t, 0 ≤ r → r < many → (∀ p ∈ R, p ∈ R') → LI b₀ env.locals q pp s₀ ps R' s' → St (GG w p loose mg mb) ⟨env, b₀, R₀⟩ σ R' s'.heap → Q (.int r t) s')
    (hk : env.scope.kind = .function := by rfl) (hx : env.kindOf "_law_take" = some .globalImplicit := by rfl) (hg : env.globals = mainGlobals := by rfl)
    (hs : starEach [e₁, e₂] env = (false, eval e₁ env) :: starEach [e₂] env := by rfl) (hs2 : starEach [e₂] env = (false, eval e₂ env) :: starEach [] env := by rfl) (hs3 : (backTo pos (starEach [e₂] env)).any (·.1) = false := by rfl) :
    wpAny (GG w p loose mg mb).M A (eval (.Call (.Name "_law_take" np) [e₁, e₂] [] pos) env) Q E s := by
  refine xe2_1 I.bx fun ns z x => ?_
  refine xe2_1 x.top fun nq tq hqo => ?_
  refine xe2_2 x.its fun vq kq hpo _ => ?_
  have n1 : (387 : Addr) ≠ q := fun e => by have := I.t387; rw [e, hqo] at this; cases this
  have n2 : (387 : Addr) ≠ pp := fun e => by have := I.t387; rw [e, hpo] at this; cases this
  have n3 : (420 : Addr) ≠ q := fun e => by have := I.t420; rw [e, hqo] at this; cases this
  have n4 : (420 : Addr) ≠ pp := fun e => by have := I.t420; rw [e, hpo] at this; cases this
  refine takeE hA S no x h₁ h₂ hm (fun s' R' r t ns' z' rs h0 h1 x' m' n' k' S' => k s' R' r t h0 h1 m' ?_ S') hk hx hg hs hs2 hs3
  refine ⟨I.rest.trans rs, k' _ _ n1 n2 I.t387, k' _ _ n3 n4 I.t420, ?_, fun p hp => ?_, ns', z', x'⟩
  · refine xe1_1 I.loc fun o ho => ?_
    exact ⟨o, k' _ _ x.lq.1 x.lq.2 ho⟩
  · rcases n' p hp with h | h
    · exact I.led p h
    · refine ⟨fun e => ?_, fun e => ?_, fun e => ?_⟩
      · rw [e, I.t387] at h; cases h
      · rw [e, I.t420] at h; cases h
      · refine xe1_1 I.loc fun o ho => ?_
        rw [e, ho] at h; cases h
end

set_option maxRecDepth 100000
set_option maxHeartbeats 4000000
section
variable {g : Gl} {f : Fm} {n : Nat} {σ : Vars}
/-- a call of a def of the top, the arguments done -/
theorem callRaw {A : Around} {E : Value → Shared → Prop} {s : Shared} {R : Led} {Q : Value → Shared → Prop} {func : Expr} {args : List Expr} {pos : Pos} {a : Addr} {ds : List D} (hA : AOk n A) (S : St g f σ R s.heap) (hf : EV g f n σ func (.fn a)) (ha : ES g f n σ pos args ds)
    (h : ∀ vs R' s', Gr R s R' s' → IsAll R' vs ds → wpAny g.M A (call (.ref a) vs) Q E s')
    (hkeep : keepIn g.K (.ref a) = true := by rfl) (hne : ∀ o n p, func ≠ .Attribute o n p := by intro _ _ _ h; cases h) (hne' : args ≠ [] := by intro h; cases h)
    (he : ∀ e es, args = e :: es → starEach args f.env = (false, eval e f.env) :: starEach es f.env ∧ (backTo pos (starEach es f.env)).any (·.1) = false := by (intro _ _ h; cases h; exact ⟨rfl, rfl⟩)) : wpAny g.M A (eval (.Call func args [] pos) f.env) Q E s := by
  (refine rwt (eval_Call_eq hne) ?_)
  refine wpAny_bind (hf A E s R _ hA S fun v R₁ s₁ r₁ i₁ => ?_)
  (first | refine Is.eInt i₁ fun _ => ?_ | refine Is.eFn i₁ ?_ | refine Is.eBool i₁ ?_ | refine Is.eStr i₁ fun _ => ?_ | refine Is.eNone i₁ ?_ | cases i₁)
  cases args with
  | nil => exact absurd rfl hne'
  | cons e es =>
    obtain ⟨h1, h2⟩ := he e es rfl
    have S₁ := S.gr r₁
    refine callWith_K (h₀ := s₁.heap) S₁.glOk.k hkeep (ha A E s₁ R₁ _ hA S₁ fun vs R₂ s₂ r₂ i₂ => ⟨(S₁.gr r₂).glOk.k, ?_⟩) h1 h2
    exact h vs R₂ s₂ (r₁.trans r₂) i₂
/-- if not e: return False, e raw -/
theorem ifNot_ {A : Around} {E : Value → Shared → Prop} {s : Shared} {Q : Flow → Shared → Prop} {e : Expr} {p₁ p₂ : Pos} {body : List Stmt} {env : Env} (h : wpAny g.M A (eval e env) (fun v s' => v = .bool true ∧ Q .next s') E s)
    (he : ∀ whole, isTrue e env whole = (do let v ← whole; standAt e.pos; holding [v] (truthy v)) := by intro _; rfl) : wpAny g.M A (exec (.If (.UnaryOp .Not e p₁) body [] p₂) env) Q E s :=
  wpAny_If (wpAny_isTrue_Not (wpAny_isTrue_value (wpAny_mono h (fun v s' hv => by
    obtain ⟨rfl, hq⟩ := hv
    exact wpAny_truthy_bool (wpAny_execs_nil hq)) fun _ _ x => x) (he _)))
/-- if not e or not t: return False, e raw -/
theorem ifNotOr_ {A : Around} {E : Value → Shared → Prop} {s : Shared} {Q : Flow → Shared → Prop} {e t : Expr} {p₁ p₂ p₃ p₄ : Pos} {body : List Stmt} {env : Env} (h : wpAny g.M A (eval e env) (fun v s' => v = .bool true ∧ wpAny g.M A (eval t env) (fun v s' => v = .bool true ∧ Q .next s') E s') E s)
    (he : ∀ whole, isTrue e env whole = (do let v ← whole; standAt e.pos; holding [v] (truthy v)) := by intro _; rfl) (ht : ∀ whole, isTrue t env whole = (do let v ← whole; standAt t.pos; holding [v] (truthy v)) := by intro _; rfl) : wpAny g.M A (exec (.If (.BoolOp .Or [.UnaryOp .Not e p₁, .UnaryOp .Not t p₂] p₃) body [] p₄) env) Q E s :=
  wpAny_If (wpAny_isTrue_BoolOp (wpAny_allTrue_Or_cons (wpAny_isTrue_Not (wpAny_isTrue_value (wpAny_mono h (fun v s' hv => by
    obtain ⟨rfl, h2⟩ := hv
    exact wpAny_truthy_bool (wpAny_allTrue_Or_cons (wpAny_isTrue_Not (wpAny_isTrue_value (wpAny_mono h2 (fun v s'' hv => by
      obtain ⟨rfl, hq⟩ := hv
      exact wpAny_truthy_bool (wpAny_allTrue_Or_nil (wpAny_execs_nil hq))) fun _ _ x => x) (ht _))))) fun _ _ x => x) (he _)))))
end
section
variable {w : World} {p : Program} {loose : List Str} {mg mb : Str → Option Value} {b₀ : Heap} {q pp : Addr} {s₀ : Shared} {ps : Array Value}
theorem Is.flat5 {R R' : Led} {a b c d e : Int} {vs : List Value} (h : IsAll R vs [.int a, .int b, .int c, .int d, .int e]) : IsAll R' vs [.int a, .int b, .int c, .int d, .int e] := by
  cases h with
  | cons h1 h => cases h1; cases h with
  | cons h2 h => cases h2; cases h with
  | cons h3 h => cases h3; cases h with
  | cons h4 h => cases h4; cases h with
  | cons h5 h => cases h5; cases h; exact .cons (.int _ _) (.cons (.int _ _) (.cons (.int _ _) (.cons (.int _ _) (.cons (.int _ _) .nil))))
/-- the frame of law -/
theorem ffOne {env : Env} {R₀ R : Led} {σ : Vars} {h : Heap} (S : St (GG w p loose mg mb) ⟨env, b₀, R₀⟩ σ R h) (hfl : env.frame = some env.locals) (hk : env.scope.kind = .function) : FF [env] h := fun env' he => by
  (refine rwt (List.mem_singleton.mp he) ?_)
  refine xe1_1 (id S) fun m S => ?_
  refine xe3_3 S.fr.ns fun o es ep ho hd _ => ?_
  exact ⟨by (refine rwt hk ?_); decide, _, o, hfl, ho, fun vs q => by rw [hd] at q; cases q⟩
/-- _law_reckoned_right(..) in law's frame -/
theorem reckonE {env : Env} {R₀ : Led} {σ : Vars} {A : Around} {E : Value → Shared → Prop} {s : Shared} {R : Led} {Q : Value → Shared → Prop} {a b c d : Int} {wd : Nat} {np pos : Pos} {args : List Expr}
    (hA : AOk 9 A) (hfr : A.frames = some [env]) (hfl : env.frame = some env.locals) (S : St (GG w p loose mg mb) ⟨env, b₀, R₀⟩ σ R s.heap) (no : noOwn σ = true) (hn1 : (387 : Addr) ≠ env.locals) (hn2 : (420 : Addr) ≠ env.locals) (I : LI b₀ env.locals q pp s₀ #[] R s)
    (hbm : BmOk mg b₀) (hCd : CodeHd b₀ 391 387) (h387 : b₀.get? 387 = none)
    (hw : 1 ≤ wd) (hw2 : wd ≤ 1000) (ha : a.natAbs < 2 ^ 10) (hb : b.natAbs < 2 ^ 10) (hc : c.natAbs < 2 ^ 10) (hd : d.natAbs < 2 ^ 10) (hb0 : b ≠ 0) (hd0 : d ≠ 0)
    (hs : ES (GG w p loose mg mb) ⟨env, b₀, R₀⟩ 9 σ pos args [.int a, .int b, .int c, .int d, .int wd])
    (k : ∀ s' R' ps, LI b₀ env.locals q pp s₀ ps R' s' → St (GG w p loose mg mb) ⟨env, b₀, R₀⟩ σ R' s'.heap → Q (.bool true) s')
    (hk : env.scope.kind = .function := by rfl) (hx : env.kindOf "_law_reckoned_right" = some .globalImplicit := by rfl) (hg : env.globals = mainGlobals := by rfl) (hne' : args ≠ [] := by intro h; cases h)
    (he : ∀ e es, args = e :: es → starEach args env = (false, eval e env) :: starEach es env ∧ (backTo pos (starEach es env)).any (·.1) = false := by (intro _ _ h; cases h; exact ⟨rfl, rfl⟩)) :
    wpAny (GG w p loose mg mb).M A (eval (.Call (.Name "_law_reckoned_right" np) args [] pos) env) Q E s := by
  refine callRaw (f := ⟨env, b₀, R₀⟩) hA S (EV.glob rfl hk hx hg (by decide)) hs (fun vs R₁ s₁ r₁ i₁ => ?_) rfl (by intro _ _ _ h; cases h) hne' he
  have S₁ := S.gr r₁
  have I₁ := I.keep hn1 hn2 (f := ⟨env, b₀, R₀⟩) rfl (r₁.lres S)
  have hL0 : b₀.get? env.locals = none := by
    refine xe1_1 S fun m S => ?_
    exact Heap.get?_none_of_le S.fr.above
  have hz : b₀.objs.size ≤ s₁.heap.objs.size := by
    refine xe1_1 S₁.loc fun o ho => ?_
    refine xe1_1 S fun m S => ?_
    exact Nat.le_trans S.fr.above (Nat.le_of_lt (Heap.lt_size ho))
  have hfrs : ∀ b, b ∈ frs [env] → b = env.locals := fun b hb => by
    rw [show frs [env] = [env.locals] from by simp [frs, hfl]] at hb
    exact List.mem_singleton.mp hb
  have hG : GlOk (GG w p loose mg mb) b₀ := (let ⟨m, S⟩ := S; S.gl)
  refine reckoned wd a b c d hw hw2 ha hb hc hd hb0 hd0 hA hfr (ffOne S₁ hfl hk) ⟨hG, (let ⟨m, S⟩ := S₁; S.fr.keep), fun b hb => by (refine rwt (hfrs b hb) ?_); exact hL0⟩ hz hbm hCd h387 I₁.t387 (fun hm => hn1 (hfrs _ hm)) r₁.led (fun p hp => ⟨(I₁.led p hp).1, fun hm => (I₁.led p hp).2.2 (hfrs _ hm)⟩) i₁ (fun s₂ rs lam tab => ?_)
  refine xe1_1 tab fun ps tab => ?_
  have hkp : ∀ b o, b ≠ 387 → b ≠ env.locals → s₁.heap.get? b = some o → s₂.heap.get? b = some o := fun b o h1 h2 e => lam.keep b o h1 e (fun hm => h2 (hfrs _ hm))
  have S₂ : St (GG w p loose mg mb) ⟨env, b₀, R₀⟩ σ R₁ s₂.heap := S₁.lam no lam (fun b hb => by
    rcases hb with rfl | hb
    · exact h387
    · (refine rwt (hfrs b hb) ?_); exact hL0) (fun p hp => ⟨(I₁.led p hp).1, fun hm => (I₁.led p hp).2.2 (hfrs _ hm)⟩) (Ne.symm hn1)
  refine xe2_1 I₁.bx fun ns z x => ?_
  refine xe2_1 x.top fun nq tq hqo => ?_
  refine xe2_2 x.its fun vq kq hpo iv => ?_
  have n1 : q ≠ 387 := fun e => by rw [e, I₁.t387] at hqo; cases hqo
  have n2 : pp ≠ 387 := fun e => by rw [e, I₁.t387] at hpo; cases hpo
  refine k s₂ R₁ ps ⟨I₁.rest.trans rs, tab, hkp _ _ (by decide) hn2 I₁.t420, S₂.loc, I₁.led, ns, z, ⟨⟨⟨x.ne, ⟨nq, tq, hkp _ _ n1 (Ne.symm x.lq.1) hqo⟩, vq, kq, hkp _ _ n2 (Ne.symm x.lq.2) hpo, iv⟩, x.q0, x.p0, x.len, x.zs⟩, x.rq, x.lq⟩⟩ S₂
/-- _law_nearest_right(a, b, 1 + _law_take(box, m), w) in law's frame -/
theorem nearE {env : Env} {R₀ : Led} {σ : Vars} {A : Around} {E : Value → Shared → Prop} {s : Shared} {R : Led} {Q : Value → Shared → Prop} {a b : Int} {wd : Nat} {m : Int} {np np' pos pos' bp : Pos} {e₁ e₂ e₃ e₄ e₅ e₆ : Expr}
    (hA : AOk 9 A) (S : St (GG w p loose mg mb) ⟨env, b₀, R₀⟩ σ R s.heap) (no : noOwn σ = true) (hn1 : (387 : Addr) ≠ env.locals) (hn2 : (420 : Addr) ≠ env.locals) (I : LI b₀ env.locals q pp s₀ ps R s)
    (hw : 1 ≤ wd) (hw2 : wd ≤ 1000) (ha : a.natAbs < 2 ^ 12) (hb : b.natAbs < 2 ^ 12) (hb0 : b ≠ 0) (hm : 0 < m) (hm2 : m < 1000)
    (h₁ : EV (GG w p loose mg mb) ⟨env, b₀, R₀⟩ 9 σ e₁ (.int a)) (h₂ : EV (GG w p loose mg mb) ⟨env, b₀, R₀⟩ 9 σ e₂ (.int b)) (h₃ : EV (GG w p loose mg mb) ⟨env, b₀, R₀⟩ 9 σ e₃ (.int 1)) (h₄ : EV (GG w p loose mg mb) ⟨env, b₀, R₀⟩ 9 σ e₄ (.fn q)) (h₅ : EV (GG w p loose mg mb) ⟨env, b₀, R₀⟩ 9 σ e₅ (.int m)) (h₆ : EV (GG w p loose mg mb) ⟨env, b₀, R₀⟩ 9 σ e₆ (.int wd))
    (k : ∀ s' R', LI b₀ env.locals q pp s₀ ps R' s' → St (GG w p loose mg mb) ⟨env, b₀, R₀⟩ σ R' s'.heap → Q (.bool true) s')
    (hk : env.scope.kind = .function := by rfl) (hx : env.kindOf "_law_nearest_right" = some .globalImplicit := by rfl) (hx' : env.kindOf "_law_take" = some .globalImplicit := by rfl) (hg : env.globals = mainGlobals := by rfl)
    (hs : starEach [e₁, e₂, .BinOp e₃ .Add (.Call (.Name "_law_take" np') [e₄, e₅] [] pos') bp, e₆] env = (false, eval e₁ env) :: starEach [e₂, .BinOp e₃ .Add (.Call (.Name "_law_take" np') [e₄, e₅] [] pos') bp, e₆] env := by rfl)
    (hs2 : starEach [e₂, .BinOp e₃ .Add (.Call (.Name "_law_take" np') [e₄, e₅] [] pos') bp, e₆] env = (false, eval e₂ env) :: starEach [.BinOp e₃ .Add (.Call (.Name "_law_take" np') [e₄, e₅] [] pos') bp, e₆] env := by rfl)
    (hs3 : starEach [.BinOp e₃ .Add (.Call (.Name "_law_take" np') [e₄, e₅] [] pos') bp, e₆] env = (false, eval (.BinOp e₃ .Add (.Call (.Name "_law_take" np') [e₄, e₅] [] pos') bp) env) :: starEach [e₆] env := by rfl)
    (hs4 : starEach [e₆] env = (false, eval e₆ env) :: starEach [] env := by rfl)
    (hpl : (backTo pos (starEach [e₂, .BinOp e₃ .Add (.Call (.Name "_law_take" np') [e₄, e₅] [] pos') bp, e₆] env)).any (·.1) = false := by rfl)
    (ht : starEach [e₄, e₅] env = (false, eval e₄ env) :: starEach [e₅] env := by rfl) (ht2 : starEach [e₅] env = (false, eval e₅ env) :: starEach [] env := by rfl) (ht3 : (backTo pos' (starEach [e₅] env)).any (·.1) = false := by rfl) :
    wpAny (GG w p loose mg mb).M A (eval (.Call (.Name "_law_nearest_right" np) [e₁, e₂, .BinOp e₃ .Add (.Call (.Name "_law_take" np') [e₄, e₅] [] pos') bp, e₆] [] pos) env) Q E s := by
  (refine rwt (eval_Call_eq (by intro _ _ _ h; cases h)) ?_)
  have ev : EV (GG w p loose mg mb) ⟨env, b₀, R₀⟩ 9 σ (.Name "_law_nearest_right" np) (.fn 411) := EV.glob rfl hk hx hg (by decide)
  refine wpAny_bind (ev A E s R _ hA S fun v R₁ s₁ r₁ i₁ => ?_)
  (first | refine Is.eInt i₁ fun _ => ?_ | refine Is.eFn i₁ ?_ | refine Is.eBool i₁ ?_ | refine Is.eStr i₁ fun _ => ?_ | refine Is.eNone i₁ ?_ | cases i₁)
  have S₁ := S.gr r₁
  refine callWith_K (K := (GG w p loose mg mb).K) (h₀ := s₁.heap) S₁.glOk.k (show keepIn (GG w p loose mg mb).K (.ref 411) = true from rfl) ?_ hs hpl
  refine wpAny_items_cons (h₁ A E s₁ R₁ _ hA S₁ fun v₁ R₂ s₂ r₂ i₂ => wpAny_items_cons (h₂ A E s₂ R₂ _ hA (S₁.gr r₂) fun v₂ R₃ s₃ r₃ i₃ => wpAny_items_cons (wpAny_BinOp (h₃ A E s₃ R₃ _ hA ((S₁.gr r₂).gr r₃) fun v₃ R₄ s₄ r₄ i₄ => ?_)) hs3) hs2) hs
  have S₄ := ((S₁.gr r₂).gr r₃).gr r₄
  have I₄ := I.keep hn1 hn2 (f := ⟨env, b₀, R₀⟩) rfl ((((r₁.trans r₂).trans r₃).trans r₄).lres S)
  refine takeL (n := 7) hA S₄ no I₄ h₄ h₅ hm (fun s₅ R₅ r t h0 h1 m₅ I₅ S₅ => ?_) hk hx' hg ht ht2 ht3
  (first | refine Is.eInt i₄ fun _ => ?_ | refine Is.eFn i₄ ?_ | refine Is.eBool i₄ ?_ | refine Is.eStr i₄ fun _ => ?_ | refine Is.eNone i₄ ?_ | cases i₄)
  refine OP.add (g := GG w p loose mg mb) (a := 1) (b := r) _ _ _ [] _ _ _ (hA.le (Nat.zero_le _)) (fun _ h => nomatch h) (.int _ _) (.int _ _) (fun v tk iv => ?_)
  (first | refine Is.eInt iv fun _ => ?_ | refine Is.eFn iv ?_ | refine Is.eBool iv ?_ | refine Is.eStr iv fun _ => ?_ | refine Is.eNone iv ?_ | cases iv)
  refine wpAny_items_cons (h₆ A E _ R₅ _ hA (show St _ _ _ R₅ { s₅ with toks := tk }.heap from S₅) fun v₆ R₆ s₆ r₆ i₆ => wpAny_items_nil ?_) hs4
  have S₆ := (show St _ _ _ R₅ { s₅ with toks := tk }.heap from S₅).gr r₆
  refine ⟨S₆.glOk.k, ?_⟩
  refine xe2_2 (low_ex a hb0) fun x y l1 e1 => ?_
  have ir : (1 + r : Int) = (((1 + r.toNat : Nat) : Nat) : Int) := by exact oq578 h0
  have I₆ := (I₅.toks (tk := tk)).keep hn1 hn2 (f := ⟨env, b₀, R₀⟩) rfl (r₆.lres S₅)
  refine fn_law_nearest_right wd a b (1 + r.toNat) x y e1 l1 hb0 (by exact oq579) (by exact oq580 hm2 h1) hw hw2 ha hb A E s₆ R₆ _ _ (hA.le (by decide)) S₆.glOk r₆.led (.cons ?_ (.cons ?_ (.cons (ir ▸ .int _ _) (.cons i₆ .nil)))) (fun v R₇ s₇ r₇ i₇ => ?_)
  · (first | refine Is.eInt i₂ fun _ => ?_ | refine Is.eFn i₂ ?_ | refine Is.eBool i₂ ?_ | refine Is.eStr i₂ fun _ => ?_ | refine Is.eNone i₂ ?_ | cases i₂); exact .int _ _
  · (first | refine Is.eInt i₃ fun _ => ?_ | refine Is.eFn i₃ ?_ | refine Is.eBool i₃ ?_ | refine Is.eStr i₃ fun _ => ?_ | refine Is.eNone i₃ ?_ | cases i₃); exact .int _ _
  (first | refine Is.eInt i₇ fun _ => ?_ | refine Is.eFn i₇ ?_ | refine Is.eBool i₇ ?_ | refine Is.eStr i₇ fun _ => ?_ | refine Is.eNone i₇ ?_ | cases i₇)
  exact k s₇ R₇ (I₆.keep hn1 hn2 (f := ⟨env, b₀, R₀⟩) rfl (r₇.lres S₆)) (S₆.gr r₇)
/-- _law_texts_right(a, b, 2 + _law_take(box, m), box, w) in law's frame -/
theorem textsE {env : Env} {σ : Vars} {A : Around} {E : Value → Shared → Prop} {s : Shared} {R : Led} {Q : Value → Shared → Prop} {a b : Int} {wd : Nat} {m : Int} {np np' pos pos' bp : Pos} {e₁ e₂ e₃ e₄ e₅ e₆ e₇ : Expr}
    (hA : AOk 9 A) (hfr : A.frames = some [env]) (hfl : env.frame = some env.locals) (S : St (GG w p loose mg mb) ⟨env, b₀, []⟩ σ R s.heap) (no : noOwn σ = true) (hn1 : (387 : Addr) ≠ env.locals) (hn2 : (420 : Addr) ≠ env.locals) (I : LI b₀ env.locals q pp s₀ ps R s)
    (hbm : BmOk mg b₀) (hCd : CodeHd b₀ 424 420) (h387 : b₀.get? 387 = none) (h420 : b₀.get? 420 = none)
    (hw : 1 ≤ wd) (hw2 : wd ≤ 1000) (ha : a.natAbs < 2 ^ 10) (hb : b.natAbs < 2 ^ 10) (hb0 : b ≠ 0) (hm : 0 < m) (hm2 : m ≤ 35)
    (h₁ : EV (GG w p loose mg mb) ⟨env, b₀, []⟩ 9 σ e₁ (.int a)) (h₂ : EV (GG w p loose mg mb) ⟨env, b₀, []⟩ 9 σ e₂ (.int b)) (h₃ : EV (GG w p loose mg mb) ⟨env, b₀, []⟩ 9 σ e₃ (.int 2)) (h₄ : EV (GG w p loose mg mb) ⟨env, b₀, []⟩ 9 σ e₄ (.fn q)) (h₅ : EV (GG w p loose mg mb) ⟨env, b₀, []⟩ 9 σ e₅ (.int m)) (h₆ : EV (GG w p loose mg mb) ⟨env, b₀, []⟩ 9 σ e₆ (.fn q)) (h₇ : EV (GG w p loose mg mb) ⟨env, b₀, []⟩ 9 σ e₇ (.int wd))
    (k : ∀ s', Rest s₀ s' → (∀ b o, b₀.get? b = some o → s'.heap.get? b = some o) → (∃ ps, s'.heap.get? 420 = some (tabObj ps)) → (∃ ps, s'.heap.get? 387 = some (tabObj ps)) → Q (.bool true) s')
    (hk : env.scope.kind = .function := by rfl) (hx : env.kindOf "_law_texts_right" = some .globalImplicit := by rfl) (hx' : env.kindOf "_law_take" = some .globalImplicit := by rfl) (hg : env.globals = mainGlobals := by rfl)
    (hs : starEach [e₁, e₂, .BinOp e₃ .Add (.Call (.Name "_law_take" np') [e₄, e₅] [] pos') bp, e₆, e₇] env = (false, eval e₁ env) :: starEach [e₂, .BinOp e₃ .Add (.Call (.Name "_law_take" np') [e₄, e₅] [] pos') bp, e₆, e₇] env := by rfl)
    (hs2 : starEach [e₂, .BinOp e₃ .Add (.Call (.Name "_law_take" np') [e₄, e₅] [] pos') bp, e₆, e₇] env = (false, eval e₂ env) :: starEach [.BinOp e₃ .Add (.Call (.Name "_law_take" np') [e₄, e₅] [] pos') bp, e₆, e₇] env := by rfl)
    (hs3 : starEach [.BinOp e₃ .Add (.Call (.Name "_law_take" np') [e₄, e₅] [] pos') bp, e₆, e₇] env = (false, eval (.BinOp e₃ .Add (.Call (.Name "_law_take" np') [e₄, e₅] [] pos') bp) env) :: starEach [e₆, e₇] env := by rfl)
    (hs4 : starEach [e₆, e₇] env = (false, eval e₆ env) :: starEach [e₇] env := by rfl) (hs5 : starEach [e₇] env = (false, eval e₇ env) :: starEach [] env := by rfl)
    (hpl : (backTo pos (starEach [e₂, .BinOp e₃ .Add (.Call (.Name "_law_take" np') [e₄, e₅] [] pos') bp, e₆, e₇] env)).any (·.1) = false := by rfl)
    (ht : starEach [e₄, e₅] env = (false, eval e₄ env) :: starEach [e₅] env := by rfl) (ht2 : starEach [e₅] env = (false, eval e₅ env) :: starEach [] env := by rfl) (ht3 : (backTo pos' (starEach [e₅] env)).any (·.1) = false := by rfl) :
    wpAny (GG w p loose mg mb).M A (eval (.Call (.Name "_law_texts_right" np) [e₁, e₂, .BinOp e₃ .Add (.Call (.Name "_law_take" np') [e₄, e₅] [] pos') bp, e₆, e₇] [] pos) env) Q E s := by
  (refine rwt (eval_Call_eq (by intro _ _ _ h; cases h)) ?_)
  have ev : EV (GG w p loose mg mb) ⟨env, b₀, []⟩ 9 σ (.Name "_law_texts_right" np) (.fn 425) := EV.glob rfl hk hx hg (by decide)
  refine wpAny_bind (ev A E s R _ hA S fun v R₁ s₁ r₁ i₁ => ?_)
  (first | refine Is.eInt i₁ fun _ => ?_ | refine Is.eFn i₁ ?_ | refine Is.eBool i₁ ?_ | refine Is.eStr i₁ fun _ => ?_ | refine Is.eNone i₁ ?_ | cases i₁)
  have S₁ := S.gr r₁
  refine callWith_K (K := (GG w p loose mg mb).K) (h₀ := s₁.heap) S₁.glOk.k (show keepIn (GG w p loose mg mb).K (.ref 425) = true from rfl) ?_ hs hpl
  refine wpAny_items_cons (h₁ A E s₁ R₁ _ hA S₁ fun v₁ R₂ s₂ r₂ i₂ => wpAny_items_cons (h₂ A E s₂ R₂ _ hA (S₁.gr r₂) fun v₂ R₃ s₃ r₃ i₃ => wpAny_items_cons (wpAny_BinOp (h₃ A E s₃ R₃ _ hA ((S₁.gr r₂).gr r₃) fun v₃ R₄ s₄ r₄ i₄ => ?_)) hs3) hs2) hs
  have S₄ := ((S₁.gr r₂).gr r₃).gr r₄
  have I₄ := I.keep hn1 hn2 (f := ⟨env, b₀, []⟩) rfl ((((r₁.trans r₂).trans r₃).trans r₄).lres S)
  refine takeL (n := 7) hA S₄ no I₄ h₄ h₅ hm (fun s₅ R₅ r t h0 h1 m₅ I₅ S₅ => ?_) hk hx' hg ht ht2 ht3
  (first | refine Is.eInt i₄ fun _ => ?_ | refine Is.eFn i₄ ?_ | refine Is.eBool i₄ ?_ | refine Is.eStr i₄ fun _ => ?_ | refine Is.eNone i₄ ?_ | cases i₄)
  refine OP.add (g := GG w p loose mg mb) (a := 2) (b := r) _ _ _ [] _ _ _ (hA.le (Nat.zero_le _)) (fun _ h => nomatch h) (.int _ _) (.int _ _) (fun v tk iv => ?_)
  (first | refine Is.eInt iv fun _ => ?_ | refine Is.eFn iv ?_ | refine Is.eBool iv ?_ | refine Is.eStr iv fun _ => ?_ | refine Is.eNone iv ?_ | cases iv)
  refine wpAny_items_cons (h₆ A E _ R₅ _ hA (show St _ _ _ R₅ { s₅ with toks := tk }.heap from S₅) fun v₆ R₆ s₆ r₆ i₆ => wpAny_items_cons (h₇ A E s₆ R₆ _ hA ((show St _ _ _ R₅ { s₅ with toks := tk }.heap from S₅).gr r₆) fun v₇ R₇ s₇ r₇ i₇ => wpAny_items_nil ?_) hs5) hs4
  have S₆ := (show St _ _ _ R₅ { s₅ with toks := tk }.heap from S₅).gr r₆
  have S₇ := S₆.gr r₇
  refine ⟨S₇.glOk.k, ?_⟩
  have ir : (2 + r : Int) = (((2 + r.toNat : Nat) : Nat) : Int) := by exact oq581 h0
  have I₇ := (I₅.toks (tk := tk)).keep hn1 hn2 (f := ⟨env, b₀, []⟩) rfl ((r₆.trans r₇).lres S₅)
  have hL0 : b₀.get? env.locals = none := by
    refine xe1_1 S fun m S => ?_
    exact Heap.get?_none_of_le S.fr.above
  have hz : b₀.objs.size ≤ s₇.heap.objs.size := by
    refine xe1_1 S₇.loc fun o ho => ?_
    refine xe1_1 S fun m S => ?_
    exact Nat.le_trans S.fr.above (Nat.le_of_lt (Heap.lt_size ho))
  have hfrs : ∀ b, b ∈ frs [env] → b = env.locals := fun b hb => by
    rw [show frs [env] = [env.locals] from by simp [frs, hfl]] at hb
    exact List.mem_singleton.mp hb
  have hG : GlOk (GG w p loose mg mb) b₀ := (let ⟨m, S⟩ := S; S.gl)
  refine xe2_1 I₇.bx fun ns z x => ?_
  refine texts_ wd (2 + r.toNat) a b hw hw2 (by exact oq582) (by exact oq583 hm2 h1) ha hb hb0 (hA.le (by decide)) hfr (ffOne S₇ hfl hk) ⟨hG, (let ⟨m, S⟩ := S₇; S.fr.keep), fun b hb => by (refine rwt (hfrs b hb) ?_); exact hL0⟩ hz hbm hCd h420 I₇.t420 (fun hm => hn2 (hfrs _ hm)) h387 I₇.t387 (fun hm => hn1 (hfrs _ hm)) x.toBxOk (fun hm => x.lq.1 (hfrs _ hm).symm) (fun hm => x.lq.2 (hfrs _ hm).symm) (.cons ?_ (.cons ?_ (.cons (ir ▸ .int _ _) (.cons ?_ (.cons ?_ .nil))))) (fun s₈ rs h1 h2 h3 => k s₈ (I₇.rest.trans rs) h1 h2 h3)
  · (first | refine Is.eInt i₂ fun _ => ?_ | refine Is.eFn i₂ ?_ | refine Is.eBool i₂ ?_ | refine Is.eStr i₂ fun _ => ?_ | refine Is.eNone i₂ ?_ | cases i₂); exact .int _ _
  · (first | refine Is.eInt i₃ fun _ => ?_ | refine Is.eFn i₃ ?_ | refine Is.eBool i₃ ?_ | refine Is.eStr i₃ fun _ => ?_ | refine Is.eNone i₃ ?_ | cases i₃); exact .int _ _
  · (first | refine Is.eInt i₆ fun _ => ?_ | refine Is.eFn i₆ ?_ | refine Is.eBool i₆ ?_ | refine Is.eStr i₆ fun _ => ?_ | refine Is.eNone i₆ ?_ | cases i₆); exact .fn _
  · (first | refine Is.eInt i₇ fun _ => ?_ | refine Is.eFn i₇ ?_ | refine Is.eBool i₇ ?_ | refine Is.eStr i₇ fun _ => ?_ | refine Is.eNone i₇ ?_ | cases i₇); exact .int _ _
end

set_option maxRecDepth 100000
set_option maxHeartbeats 8000000
theorem intsAll : ∀ {vs : List Value} {ns : List Int}, IntsAre vs ns → IsAll [] vs (ns.map .int)
  | _, _, .nil => .nil
  | _, _, .cons n t h => .cons (.int n t) (intsAll h)
/-- law's frame at its start -/
theorem St.law {w : World} {p : Program} {loose : List Str} {mean : ExcName → Option Value} {mg mb : Str → Option Value} {env : Env} {gh h₁ : Heap} {m : Str → Option Value} {l : Addr} (F : Fr gh env.locals h₁ m) (X : (GG w p loose mg mb).K.In gh) (T : Top p loose mean mg mb gh) (hm : m "script" = some (.ref l)) :
    St (GG w p loose mg mb) ⟨env, gh, []⟩ [V "script" (.fn l), U "box", U "w", U "a", U "b", U "c", U "d"] [] h₁ := by
  refine ⟨m, F, ⟨X, topRead_of T⟩, (fun _ h => nomatch h), (fun _ h => nomatch h), (show (["script", "box", "w", "a", "b", "c", "d"] : List Str).Nodup by decide), fun x d hx => ?_, fun x ds hx => ?_, fun x ds y es hx => ?_⟩
  · rcases List.mem_cons.mp hx with e | hx
    · cases e; exact ⟨_, hm, .fn l⟩
    · simp [U] at hx
  · simp [U, V] at hx
  · simp [U, V] at hx
/-- what is known when law has returned -/
structure LawPost (gh : Heap) (s s' : Shared) : Prop where
  rest : Rest s s'
  keep : ∀ b o, gh.get? b = some o → s'.heap.get? b = some o
  t420 : ∃ ps, s'.heap.get? 420 = some (tabObj ps)
  t387 : ∃ ps, s'.heap.get? 387 = some (tabObj ps)
theorem lawTop {w : World} {p : Program} {loose : List Str} {mean : ExcName → Option Value} {mg mb : Str → Option Value} {env : Env} {gh : Heap} {m : Str → Option Value} {l : Addr} {s : Shared} {Q : Flow → Shared → Prop} {E : Value → Shared → Prop} {body : List Stmt}
    (F : Fr gh env.locals s.heap m) (X : (GG w p loose mg mb).K.In gh) (T : Top p loose mean mg mb gh) (hm : m "script" = some (.ref l)) (N : News gh env.locals s.heap [(420, tabObj #[]), (387, tabObj #[])])
    (walk : KP (GG w p loose mg mb) ⟨env, gh, []⟩ 9 [] [V "script" (.fn l), U "box", U "w", U "a", U "b", U "c", U "d"] body (fun R s' => R = [] ∧ Rest s s' ∧ s'.heap.get? 387 = some (tabObj #[]) ∧ s'.heap.get? 420 = some (tabObj #[])) (LawPost gh s))
    (close : ∀ s', LawPost gh s s' → Q (.ret (.bool true)) s') : wpAny (GG w p loose mg mb).M (callerA.deeper env) (execs body env) Q E s := by
  refine KP.run (l := []) (n := 9) ⟨rfl, (show 1 + claimMargin + 1 + 9 < recursionLimit by decide +kernel), (show 4 + 3 + 100 + 16 * 9 < cLine by decide +kernel)⟩ rfl (St.law F X T hm) ⟨rfl, .refl _, (N _ (.tail _ (.head _))).1, (N _ (.head _)).1⟩ close walk
theorem law_main : PySem.Challenge.rw_nn0031_01.Holds := by
  refine hd (by
    k_go0
    (all_goals try k_fold)
    rename_i w s₀ s₁ mg mb G Y fa o pm cd doc kV ho hcd hg X V T B TE TW ns hs hlay0 hL1 hr1 hl2 w4 w3 l vs w0 hL ra w1 r0 hI hr hcd1 hcd2 hD h₁ X' T' K' F' codeT N' l0
    obtain ⟨loose, T''⟩ : ∃ loose, Top topProg loose (ExcName.means s₀.heap) mg mb (ghostOf s₁.heap [(424, 420), (391, 387)]) := ⟨_, T'⟩
    refine lawTop F' X' T'' rfl N' ?walk (fun s' hp => ?_)
    case walk =>
      have hints := intsAll hI
      have hlen : ns.length ≤ 1000 := by exact oq584 hcd1
      have hn1 : (387 : Addr) ≠ s₁.heap.objs.size := Nat.ne_of_lt l0.2
      have hn2 : (420 : Addr) ≠ s₁.heap.objs.size := Nat.ne_of_lt l0.1
      have hbm : BmOk mg (ghostOf s₁.heap [(424, 420), (391, 387)]) := T'.bmain
      have hLn : (ghostOf s₁.heap [(424, 420), (391, 387)]).get? s₁.heap.objs.size = none := Heap.get?_none_of_le F'.above
      have h387 : (ghostOf s₁.heap [(424, 420), (391, 387)]).get? 387 = none := (N' _ (.tail _ (.head _))).2.2
      have h420 : (ghostOf s₁.heap [(424, 420), (391, 387)]).get? 420 = none := (N' _ (.head _)).2.2
      have hgz := F'.above
      have hGl : GlOk (GG w topProg loose mg mb) (ghostOf s₁.heap [(424, 420), (391, 387)]) := ⟨X', topRead_of T''⟩
      clear G Y ho hcd hg hT8 X V T B TE TW hs hlay0 hL1 hr1 hl2 hL ra w1 r0 hI hr hcd1 hcd2 hD T' T'' K' N' F' X'
      dsimp only at codeT codeHd
      generalize ghostOf s₁.heap [(424, 420), (391, 387)] = gh at *
      generalize ({ heap := h₁, gens := s₁.gens, drawn := s₁.drawn, toks := _, os := s₁.os } : Shared) = sS
      generalize s₁.heap.objs.size = L at *
      -- box
      refine KP.rawD (ι := Addr × Addr) (I' := fun qp => LI gh L qp.1 qp.2 sS #[]) (J := fun qp σ' => σ' = [V "script" (.fn l), V "box" (.fn qp.1), U "w", U "a", U "b", U "c", U "d"]) ?_ ?_
      · intro A' E' s' R' K hA hfr S i k
        refine xe0_4 i fun e_1 rs t387 t420 => ?_
        subst e_1
        try clear i
        refine wpAny_Assign_Name ?_ rfl
        (refine rwt (eval_Call_eq (by intro _ _ _ h; cases h)) ?_)
        refine wpAny_bind (EV.at (h₀ := gh) (R₀ := []) (d := .fn 357) hA S (EV.glob rfl rfl rfl rfl (by decide)) (fun v R₁ s₂ r₁ i₁ S₁ => ?_))
        (first | refine Is.eInt i₁ fun _ => ?_ | refine Is.eFn i₁ ?_ | refine Is.eBool i₁ ?_ | refine Is.eStr i₁ fun _ => ?_ | refine Is.eNone i₁ ?_ | cases i₁)
        refine callWith_K (K := (GG w topProg loose mg mb).K) (h₀ := s₂.heap) S₁.glOk.k rfl ?_ rfl rfl
        refine wpAny_items_cons (EV.at (h₀ := gh) (R₀ := []) (d := .fn l) hA S₁ (by wtm_at "E") (fun v R₂ s₃ r₂ i₂ S₂ => wpAny_items_nil ?_)) rfl
        (first | refine Is.eInt i₂ fun _ => ?_ | refine Is.eFn i₂ ?_ | refine Is.eBool i₂ ?_ | refine Is.eStr i₂ fun _ => ?_ | refine Is.eNone i₂ ?_ | cases i₂)
        refine ⟨S₂.glOk.k, ?_⟩
        have keep₂ : ∀ b o, gh.get? b = some o → s₃.heap.get? b = some o := (let ⟨m, S⟩ := S₂; S.fr.keep)
        have rr := r₁.trans r₂
        have hL₃ : ∃ o, s₃.heap.get? L = some o := S₂.loc
        refine box_ (hA.le (by decide)) S₂.glOk (let ⟨o, ho, r⟩ := lifted; ⟨o, keep₂ _ _ ho, r⟩) hints hlen (fun s₄ q pp z rs₄ k₄ q0 p0 hb hz => ?_)
        refine storeL_ (d := .fn q) (S₂.grow k₄) (.fn q) (by wtm_at "u") (fun s₅ r₅ S₅ => ?_) rfl rfl
        refine k (q, pp) s₅ _ _ rfl S₅ (LI.keep (s := s₄) (R := R₂) ⟨(rs.trans rr.rest).trans rs₄, k₄ _ _ (rr.ext _ _ t387), k₄ _ _ (rr.ext _ _ t420), (let ⟨o, ho⟩ := hL₃; ⟨o, k₄ _ _ ho⟩), fun p hp => ?_, _, z, ⟨⟨hb, ?_, ?_, ?_, hz⟩, fun p hp => ⟨fun e => ?_, fun e => ?_⟩, fun e => ?_, fun e => ?_⟩⟩ hn1 hn2 rfl r₅)
        · rcases rr.new p hp with h | h
          · cases h
          · refine ⟨fun e => ?_, fun e => ?_, fun e => ?_⟩
            · rw [e, t387] at h; cases h
            · rw [e, t420] at h; cases h
            · refine xe1_1 S.loc fun o ho => ?_
              have ho : s'.heap.get? L = some o := ho
              rw [e, ho] at h; cases h
        · cases x : gh.get? q with
          | none => rfl
          | some o => rw [keep₂ _ _ x] at q0; cases q0
        · cases x : gh.get? pp with
          | none => rfl
          | some o => rw [keep₂ _ _ x] at p0; cases p0
        · (refine rwt (List.length_map ..) ?_; refine rwt List.length_take ?_); exact oq585
        · have := S₂.ledIn p hp
          rw [e, q0] at this; cases this
        · have := S₂.ledIn p hp
          rw [e, p0] at this; cases this
        · refine xe1_1 hL₃ fun o ho => ?_
          try clear hL₃
          rw [e, q0] at ho; cases ho
        · refine xe1_1 hL₃ fun o ho => ?_
          try clear hL₃
          rw [e, p0] at ho; cases ho
      rintro ⟨q, pp⟩ σ' rfl
      dsimp only
      -- w
      refine KP.raw (I' := LI gh L q pp sS #[]) (J := fun σ' => ∃ wd : Nat, 2 ≤ wd ∧ wd ≤ 9 ∧ σ' = [V "script" (.fn l), V "box" (.fn q), V "w" (.int (wd : Nat)), U "a", U "b", U "c", U "d"]) ?_ ?_
      · intro A' E' s' R' K hA hfr S I k
        refine wpAny_Assign_Name (wpAny_BinOp (EV.at (h₀ := gh) (R₀ := []) (d := .int 2) hA S EV.int (fun v R₁ s₂ r₁ i₁ S₁ => ?_))) rfl
        (first | refine Is.eInt i₁ fun _ => ?_ | refine Is.eFn i₁ ?_ | refine Is.eBool i₁ ?_ | refine Is.eStr i₁ fun _ => ?_ | refine Is.eNone i₁ ?_ | cases i₁)
        have I₁ := I.keep hn1 hn2 rfl (r₁.lres S)
        refine takeL (n := 7) hA S₁ rfl I₁ (by wtm_at "E") EV.int (by decide) (fun s₃ R₃ r t h0 h1 m₃ I₃ S₃ => ?_) rfl rfl rfl rfl rfl rfl
        refine OP.add (g := GG w topProg loose mg mb) (a := 2) (b := r) _ _ _ [] _ _ _ (hA.le (Nat.zero_le _)) (fun _ h => nomatch h) (.int _ _) (.int _ _) (fun v tk iv => ?_)
        (first | refine Is.eInt iv fun _ => ?_ | refine Is.eFn iv ?_ | refine Is.eBool iv ?_ | refine Is.eStr iv fun _ => ?_ | refine Is.eNone iv ?_ | cases iv)
        refine storeL_ (x := "w") (d := .int ((2 + r.toNat : Nat) : Int)) (show St _ _ _ R₃ { s₃ with toks := tk }.heap from S₃) (show Is R₃ _ _ from ?_) (by wtm_at "u") (fun s₄ r₄ S₄ => ?_) rfl rfl
        · (refine rwt (show ((2 + r.toNat : Nat) : Int) = 2 + r by exact oq586 h0) ?_)
          exact .int _ _
        · exact k s₄ R₃ _ ⟨2 + r.toNat, by exact oq582, by exact oq587 h1, rfl⟩ S₄ (I₃.toks.keep hn1 hn2 rfl r₄)
      intro σ' hh_
      refine xe1_3 hh_ fun wd hw1 hw2 e_1 => ?_
      subst e_1
      try clear hh_
      -- a, b
      refine KP.raw (I' := LI gh L q pp sS #[]) (J := fun σ' => ∃ a b : Int, -200 ≤ a ∧ a ≤ 199 ∧ 1 ≤ b ∧ b ≤ 90 ∧ σ' = [V "script" (.fn l), V "box" (.fn q), V "w" (.int (wd : Nat)), V "a" (.int a), V "b" (.int b), U "c", U "d"]) ?_ ?_
      · intro A' E' s' R' K hA hfr S I k
        refine swap2_ (σ := [V "script" (.fn l), V "box" (.fn q), V "w" (.int (wd : Nat)), U "a", U "b", U "c", U "d"]) hA (wpAny_BinOp (takeL (n := 7) hA S rfl I (by wtm_at "E") EV.int (by decide) (fun s₃ R₃ r t h0 h1 m₃ I₃ S₃ => ?_) rfl rfl rfl rfl rfl rfl)) rfl rfl rfl rfl rfl rfl rfl
        refine EV.at (h₀ := gh) (R₀ := []) (d := .int 200) hA S₃ EV.int (fun v R₄ s₄ r₄ i₄ S₄ => ?_)
        (first | refine Is.eInt i₄ fun _ => ?_ | refine Is.eFn i₄ ?_ | refine Is.eBool i₄ ?_ | refine Is.eStr i₄ fun _ => ?_ | refine Is.eNone i₄ ?_ | cases i₄)
        have I₄ := I₃.keep hn1 hn2 rfl (r₄.lres S₃)
        refine OP.sub (g := GG w topProg loose mg mb) (a := r) (b := 200) _ _ _ [] _ _ _ (hA.le (Nat.zero_le _)) (fun _ h => nomatch h) (.int _ _) (.int _ _) (fun v tk iv => ?_)
        (first | refine Is.eInt iv fun _ => ?_ | refine Is.eFn iv ?_ | refine Is.eBool iv ?_ | refine Is.eStr iv fun _ => ?_ | refine Is.eNone iv ?_ | cases iv)
        refine wpAny_BinOp (EV.at (h₀ := gh) (R₀ := []) (d := .int 1) hA (show St _ _ _ R₄ { s₄ with toks := tk }.heap from S₄) EV.int (fun v R₅ s₅ r₅ i₅ S₅ => ?_))
        (first | refine Is.eInt i₅ fun _ => ?_ | refine Is.eFn i₅ ?_ | refine Is.eBool i₅ ?_ | refine Is.eStr i₅ fun _ => ?_ | refine Is.eNone i₅ ?_ | cases i₅)
        have I₅ := I₄.toks.keep hn1 hn2 rfl (r₅.lres S₄)
        refine takeL (n := 7) hA S₅ rfl I₅ (by wtm_at "E") EV.int (by decide) (fun s₆ R₆ r' t' h0' h1' m₆ I₆ S₆ => ?_) rfl rfl rfl rfl rfl rfl
        refine OP.add (g := GG w topProg loose mg mb) (a := 1) (b := r') _ _ _ [] _ _ _ (hA.le (Nat.zero_le _)) (fun _ h => nomatch h) (.int _ _) (.int _ _) (fun v tk' iv => ?_)
        (first | refine Is.eInt iv fun _ => ?_ | refine Is.eFn iv ?_ | refine Is.eBool iv ?_ | refine Is.eStr iv fun _ => ?_ | refine Is.eNone iv ?_ | cases iv)
        exact ⟨R₆, .int (r - 200), .int (1 + r'), _, .int _ _, .int _ _, S₆, by wtm_at "U", fun R₇ s₇ r₇ S₇ => k s₇ R₇ _ ⟨r - 200, 1 + r', by exact oq588 h0, by exact oq589 h1, by exact oq590 h0', by exact oq591 h1', rfl⟩ S₇ (I₆.toks.keep hn1 hn2 rfl r₇)⟩
      intro σ' hh_
      refine xe2_5 hh_ fun a b ha1 ha2 hb1 hb2 e_1 => ?_
      subst e_1
      try clear hh_
      -- c, d
      refine KP.raw (I' := LI gh L q pp sS #[]) (J := fun σ' => ∃ c d : Int, -20 ≤ c ∧ c ≤ 39 ∧ d ≠ 0 ∧ -24 ≤ d ∧ d ≤ 24 ∧ σ' = [V "script" (.fn l), V "box" (.fn q), V "w" (.int (wd : Nat)), V "a" (.int a), V "b" (.int b), V "c" (.int c), V "d" (.int d)]) ?_ ?_
      · intro A' E' s' R' K hA hfr S I k
        refine swap2_ (σ := [V "script" (.fn l), V "box" (.fn q), V "w" (.int (wd : Nat)), V "a" (.int a), V "b" (.int b), U "c", U "d"]) hA (wpAny_BinOp (takeL (n := 7) hA S rfl I (by wtm_at "E") EV.int (by decide) (fun s₃ R₃ r t h0 h1 m₃ I₃ S₃ => ?_) rfl rfl rfl rfl rfl rfl)) rfl rfl rfl rfl rfl rfl rfl
        refine EV.at (h₀ := gh) (R₀ := []) (d := .int 20) hA S₃ EV.int (fun v R₄ s₄ r₄ i₄ S₄ => ?_)
        (first | refine Is.eInt i₄ fun _ => ?_ | refine Is.eFn i₄ ?_ | refine Is.eBool i₄ ?_ | refine Is.eStr i₄ fun _ => ?_ | refine Is.eNone i₄ ?_ | cases i₄)
        have I₄ := I₃.keep hn1 hn2 rfl (r₄.lres S₃)
        refine OP.sub (g := GG w topProg loose mg mb) (a := r) (b := 20) _ _ _ [] _ _ _ (hA.le (Nat.zero_le _)) (fun _ h => nomatch h) (.int _ _) (.int _ _) (fun v tk iv => ?_)
        (first | refine Is.eInt iv fun _ => ?_ | refine Is.eFn iv ?_ | refine Is.eBool iv ?_ | refine Is.eStr iv fun _ => ?_ | refine Is.eNone iv ?_ | cases iv)
        refine wpAny_BinOp (Subscript_ (EV.at (h₀ := gh) (R₀ := []) (d := .list [.int 1, .int (0 - 1)]) hA (show St _ _ _ R₄ { s₄ with toks := tk }.heap from S₄) (EV.list (by wtm_at "S") (Nat.le_of_ble_eq_true rfl)) (fun vl R₅ s₅ r₅ i₅ S₅ => ?_)))
        have I₅ := I₄.toks.keep hn1 hn2 rfl (r₅.lres S₄)
        refine takeL (n := 7) hA S₅ rfl I₅ (by wtm_at "E") EV.int (by decide) (fun s₆ R₆ r' t' h0' h1' m₆ I₆ S₆ => ?_) rfl rfl rfl rfl rfl rfl
        cases i₅ with
        | list hm ha =>
        rename_i al vl kl
        have hl : s₆.heap.IsList al vl.toArray := ⟨_, S₆.ledIn _ (m₆ _ hm), rfl, _, rfl⟩
        have hit : ∃ sgn : Int, (sgn = 1 ∨ sgn = -1) ∧ ([D.int 1, D.int (0 - 1)] : List D)[r'.toNat]? = some (.int sgn) := by
          rcases (show r' = 0 ∨ r' = 1 by exact oq592 h0' h1') with rfl | rfl
          · exact ⟨1, .inl rfl, rfl⟩
          · exact ⟨-1, .inr rfl, rfl⟩
        refine xe1_2 hit fun sgn hsg hd => ?_
        try clear hit
        refine xe1_2 (ha.get hd) fun x hx ix => ?_
        cases ix
        refine tail_any hl.typeIs slot_list_getitem.lookup (wpAny_getItem_list hl h0' (by exact oq593 h1') (by simpa using hx) ?_) rfl
        refine wpAny_BinOp (EV.at (h₀ := gh) (R₀ := []) (d := .int 1) hA S₆ EV.int (fun v R₇ s₇ r₇ i₇ S₇ => ?_))
        (first | refine Is.eInt i₇ fun _ => ?_ | refine Is.eFn i₇ ?_ | refine Is.eBool i₇ ?_ | refine Is.eStr i₇ fun _ => ?_ | refine Is.eNone i₇ ?_ | cases i₇)
        have I₇ := I₆.keep hn1 hn2 rfl (r₇.lres S₆)
        refine takeL (n := 7) hA S₇ rfl I₇ (by wtm_at "E") EV.int (by decide) (fun s₈ R₈ r'' t'' h0'' h1'' m₈ I₈ S₈ => ?_) rfl rfl rfl rfl rfl rfl
        refine OP.add (g := GG w topProg loose mg mb) (a := 1) (b := r'') _ _ _ [] _ _ _ (hA.le (Nat.zero_le _)) (fun _ h => nomatch h) (.int _ _) (.int _ _) (fun v tk' iv => ?_)
        (first | refine Is.eInt iv fun _ => ?_ | refine Is.eFn iv ?_ | refine Is.eBool iv ?_ | refine Is.eStr iv fun _ => ?_ | refine Is.eNone iv ?_ | cases iv)
        refine OP.mul (g := GG w topProg loose mg mb) (a := sgn) (b := 1 + r'') (by exact oq594 hsg) _ _ _ [] _ _ _ (hA.le (Nat.zero_le _)) (fun _ h => nomatch h) (.int _ _) (.int _ _) (fun v tk'' iv => ?_)
        (first | refine Is.eInt iv fun _ => ?_ | refine Is.eFn iv ?_ | refine Is.eBool iv ?_ | refine Is.eStr iv fun _ => ?_ | refine Is.eNone iv ?_ | cases iv)
        have hdd : sgn * (1 + r'') ≠ 0 ∧ -24 ≤ sgn * (1 + r'') ∧ sgn * (1 + r'') ≤ 24 := by
          rcases hsg with rfl | rfl
          · (refine rwt (Int.one_mul ..) ?_); exact oq595 h0'' h1''
          · (refine rwt (Int.neg_mul ..) ?_; refine rwt (Int.one_mul ..) ?_); exact oq596 h0'' h1''
        exact ⟨R₈, .int (r - 20), .int (sgn * (1 + r'')), _, .int _ _, .int _ _, S₈, by wtm_at "U", fun R₉ s₉ r₉ S₉ => k s₉ R₉ _ ⟨r - 20, sgn * (1 + r''), by exact oq597 h0, by exact oq598 h1, hdd.1, hdd.2.1, hdd.2.2, rfl⟩ S₉ (I₈.toks.toks.keep hn1 hn2 rfl r₉)⟩
      intro σ' hh_
      refine xe2_6 hh_ fun c d hc1 hc2 hd0 hd1 hd2 e_1 => ?_
      subst e_1
      try clear hh_
      -- reckoned
      refine KP.rawD (ι := Array Value) (I' := fun ps => LI gh L q pp sS ps) (J := fun ps σ' => σ' = [V "script" (.fn l), V "box" (.fn q), V "w" (.int (wd : Nat)), V "a" (.int a), V "b" (.int b), V "c" (.int c), V "d" (.int d)]) ?_ ?_
      · intro A' E' s' R' K hA hfr S I k
        exact ifNot_ (g := GG w topProg loose mg mb) (reckonE (a := a) (b := b) (c := c) (d := d) (wd := wd) hA hfr rfl S rfl hn1 hn2 I hbm (by assumption) h387 (by exact oq238 hw1) (by exact oq599 hw2) (by exact oq600 ha1 ha2) (by exact oq601 hb1 hb2) (by exact oq602 hc1 hc2) (by exact oq603 hd1 hd2) (by exact oq167 hb1) (by exact oq604 hd0) (by wtm_at "S") (fun s₂ R₂ ps I₂ S₂ => ⟨rfl, k ps s₂ R₂ _ rfl S₂ I₂⟩) rfl rfl rfl)
      rintro ps σ' rfl
      -- parts
      refine xe2_2 (low_ex a (show b ≠ 0 by exact oq167 hb1)) fun x1 y1 l1 e1 => ?_
      refine xe2_2 (low_ex c hd0) fun x2 y2 l2 e2 => ?_
      refine KP.stmt (fun R s R' s' r I => LI.keep I hn1 hn2 rfl r) (LX.if_ (TR.or2 (TR.not (TR.value (EV.callN (by wtm_at "E") (by wtm_at "S") (fn_law_parts_right wd a b x1 y1 e1 l1 (by exact oq167 hb1) (by exact oq238 hw1) (by exact oq599 hw2) (by exact oq605 ha1 ha2) (by exact oq606 hb1 hb2)) (by decide) rfl)))
        (fun _ => TR.not (TR.value (EV.callN (by wtm_at "E") (by wtm_at "S") (fn_law_parts_right wd c d x2 y2 e2 l2 hd0 (by exact oq238 hw1) (by exact oq599 hw2) (by exact oq607 hc1 hc2) (by exact oq608 hd1 hd2)) (by decide) rfl)))) (fun h => by cases h) (fun _ => LP.nil ⟨_, rfl, ?_⟩))
      -- nearest
      refine KP.raw (I' := LI gh L q pp sS ps) (J := fun σ' => σ' = [V "script" (.fn l), V "box" (.fn q), V "w" (.int (wd : Nat)), V "a" (.int a), V "b" (.int b), V "c" (.int c), V "d" (.int d)]) ?_ ?_
      · intro A' E' s' R' K hA hfr S I k
        refine ifNotOr_ (g := GG w topProg loose mg mb) (nearE (a := a) (b := b) (wd := wd) (m := 24) hA S rfl hn1 hn2 I (by exact oq238 hw1) (by exact oq599 hw2) (by exact oq605 ha1 ha2) (by exact oq606 hb1 hb2) (by exact oq167 hb1) (by decide) (by decide) (by wtm_at "E") (by wtm_at "E") EV.int (by wtm_at "E") EV.int (by wtm_at "E") (fun s₂ R₂ I₂ S₂ => ⟨rfl, ?_⟩) rfl rfl rfl rfl rfl rfl rfl rfl rfl rfl rfl rfl)
        refine EV.at (h₀ := gh) (R₀ := []) (d := .bool true) hA S₂ (EV.callN (by wtm_at "E") (by wtm_at "S") (show FN (GG w topProg loose mg mb) 8 411 [.int 5, .int 2, .int 1, .int wd] (.bool true) from fn_law_nearest_right wd 5 2 1 5 2 (by decide) ⟨by decide, by decide⟩ (by decide) (by decide) (by decide) (by exact oq238 hw1) (by exact oq599 hw2) (by decide) (by decide)) (by decide) rfl) (fun v R₃ s₃ r₃ i₃ S₃ => ?_)
        (first | refine Is.eInt i₃ fun _ => ?_ | refine Is.eFn i₃ ?_ | refine Is.eBool i₃ ?_ | refine Is.eStr i₃ fun _ => ?_ | refine Is.eNone i₃ ?_ | cases i₃)
        exact ⟨rfl, k s₃ R₃ _ rfl S₃ (I₂.keep hn1 hn2 rfl (r₃.lres S₂))⟩
      rintro σ' rfl
      refine KP.stmt (fun R s R' s' r I => LI.keep I hn1 hn2 rfl r) (LX.if_ (TR.not (TR.value (EV.callN (by wtm_at "E") (by wtm_at "S") (show FN (GG w topProg loose mg mb) 8 411 [.int 5, .int 13, .int 8, .int wd] (.bool true) from fn_law_nearest_right wd 5 13 8 5 13 (by decide) ⟨by decide, by decide⟩ (by decide) (by decide) (by decide) (by exact oq238 hw1) (by exact oq599 hw2) (by decide) (by decide)) (by decide) rfl)))
        (fun h => by cases h) (fun _ => LP.nil ⟨_, rfl, ?_⟩))
      -- texts
      intro A' E' s' R' Q hA hfr S I k
      exact wpAny_execs_cons (wpAny_Return_some (textsE (a := a) (b := b) (wd := wd) (m := 35) hA hfr rfl S rfl hn1 hn2 I hbm (by assumption) h387 h420 (by exact oq238 hw1) (by exact oq599 hw2) (by exact oq600 ha1 ha2) (by exact oq601 hb1 hb2) (by exact oq167 hb1) (by decide) (by decide) (by wtm_at "E") (by wtm_at "E") EV.int (by wtm_at "E") EV.int (by wtm_at "E") (by wtm_at "E") (fun s₂ rs h1 h2 h3 => k s₂ ⟨rs, h1, h2, h3⟩) rfl rfl rfl rfl rfl rfl rfl rfl rfl rfl rfl rfl rfl))
    refine ⟨⟨.inl ⟨.bool true, .bool true, [], rfl, fun _ => rfl, .bool true, ?_, fun _ => ⟨.nil, fun _ h => nomatch h⟩⟩, hp.keep, ?_, ?_⟩, hp.t420, hp.t387, trivial⟩
    · exact law_post ns
    · obtain ⟨h', tk', rfl⟩ := hp.rest; rfl
    · obtain ⟨h', tk', rfl⟩ := hp.rest; exact hg)

end Mine
theorem PySem.Challenge.cw_nn0031_01_holds : PySem.Challenge.rw_nn0031_01.Holds := by
  exact Mine.law_main
