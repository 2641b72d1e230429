import PyProof.Rows.All
import Wide.All
import OpenK.AllK
import Wide.FinOn
import PySem.Challenge.RW_pc0128_01
open PySem PySem.W PyProof.Rows
set_option Elab.async false
set_option linter.all false
set_option compiler.extract_closed false
theorem Mine.same : PySem.Manifest.find? = PySem.Manifest.find? := rfl
name_quick tw8642067239939848140 for PySem.Manifest.find? by Mine.same
name_quick tw13145125596335152023 for PySem.Manifest.find? by Mine.same
name_quick tw16494616584097029746 for PySem.Manifest.find? by Mine.same
name_quick tw15560500314895047343 for PySem.Manifest.find? by Mine.same
name_quick tw3093977132361051618 for PySem.Manifest.find? by Mine.same
name_quick tw4011157648589011858 for PySem.Manifest.find? by Mine.same
name_quick tw17057272898397164401 for PySem.Manifest.find? by Mine.same
name_quick tw607167704815816724 for PySem.Manifest.find? by Mine.same
name_quick tw3424931102881643321 for PySem.Manifest.find? by Mine.same
name_quick tw6434138532213402376 for PySem.Manifest.find? by Mine.same
name_quick tw8424611434330503625 for PySem.Manifest.find? by Mine.same
name_quick tw11838138170533393997 for PySem.Manifest.find? by Mine.same
name_quick tw15900120412870309639 for PySem.Manifest.find? by Mine.same
name_quick tw9467589175468403638 for PySem.Manifest.find? by Mine.same
name_quick tw724751600484774222 for PySem.Manifest.find? by Mine.same
name_quick tw5189142188285759775 for PySem.Manifest.find? by Mine.same
name_quick tw7250012664060256230 for PySem.Manifest.find? by Mine.same
name_quick tw10938465397075749097 for PySem.Manifest.find? by Mine.same
name_quick tw5221553953786025915 for PySem.Manifest.find? by Mine.same
name_quick tw11939915149646268982 for PySem.Manifest.find? by Mine.same
name_quick tw9951705424602377420 for PySem.Manifest.find? by Mine.same
name_quick tw16697116713213952808 for PySem.Manifest.find? by Mine.same
name_quick tw1218959903707654005 for PySem.Manifest.find? by Mine.same
name_quick tw16846860572762119324 for PySem.Manifest.find? by Mine.same
name_quick tw16406328271908756883 for PySem.Manifest.find? by Mine.same
name_quick tw11994158751524154303 for PySem.Manifest.find? by Mine.same
name_quick tw13759679279233594173 for PySem.Manifest.find? by Mine.same
name_quick tw8620020772036689432 for PySem.Manifest.find? by Mine.same
name_quick tw17532440430192770315 for PySem.Manifest.find? by Mine.same
name_quick tw3118938333895590913 for PySem.Manifest.find? by Mine.same
name_quick tw7365555872484859036 for PySem.Manifest.find? by Mine.same
name_quick tw13016732220969518872 for PySem.Manifest.find? by Mine.same
name_quick tw6380047634161181297 for PySem.Manifest.find? by Mine.same
name_quick tw10996506086634736982 for PySem.Manifest.find? by Mine.same
name_quick tw14714103240675001986 for PySem.Manifest.find? by Mine.same
name_quick tw6448080314894763839 for PySem.Manifest.find? by Mine.same
name_quick tw6059929106960060952 for PySem.Manifest.find? by Mine.same
name_quick tw4434333111790514575 for PySem.Manifest.find? by Mine.same
name_quick tw6722154040420286063 for PySem.Manifest.find? by Mine.same
name_quick tw13180171748994924942 for PySem.Manifest.find? by Mine.same
name_quick tw8703263022893421829 for PySem.Manifest.find? by Mine.same
name_quick tw1355338860687761863 for PySem.Manifest.find? by Mine.same
name_quick tw392140993173905013 for PySem.Manifest.find? by Mine.same
name_quick tw16413264400604254196 for PySem.Manifest.find? by Mine.same
name_quick tw17863021456227041891 for PySem.Manifest.find? by Mine.same
name_quick tw16350708796919097252 for PySem.Manifest.find? by Mine.same
name_quick tw7094674258960923220 for PySem.Manifest.find? by Mine.same
name_quick tw17476080006546285661 for PySem.Manifest.find? by Mine.same
name_quick tw13678640442995254988 for PySem.Manifest.find? by Mine.same
name_quick tw4275521005467322725 for PySem.Manifest.find? by Mine.same
name_quick tw18260038339965228139 for PySem.Manifest.find? by Mine.same
name_quick tw13607416678640721797 for PySem.Manifest.find? by Mine.same
name_quick tw4797165386629745026 for PySem.Manifest.find? by Mine.same
name_quick tw1537898542681612871 for PySem.Manifest.find? by Mine.same
name_quick tw9759809726879904816 for PySem.Manifest.find? by Mine.same
name_quick tw18340240734955500558 for PySem.Manifest.find? by Mine.same
name_quick tw4224760802259116069 for PySem.Manifest.find? by Mine.same
name_quick tw17730428716208468724 for PySem.Manifest.find? by Mine.same
name_quick tw7668040173513444633 for PySem.Manifest.find? by Mine.same
name_quick tw14386061602966655976 for PySem.Manifest.find? by Mine.same
name_quick tw9376109419431680627 for PySem.Manifest.find? by Mine.same
name_quick tw15894407043143930727 for PySem.Manifest.find? by Mine.same
name_quick tw4549333791460862111 for PySem.Manifest.find? by Mine.same
name_quick tw17988542015724977305 for PySem.Manifest.find? by Mine.same
name_quick tw3778451253796500701 for PySem.Manifest.find? by Mine.same
name_quick tw4407734736301137906 for PySem.Manifest.find? by Mine.same
name_quick tw11519604305632133818 for PySem.Manifest.find? by Mine.same
name_quick tw15323854079317868165 for PySem.Manifest.find? by Mine.same
name_quick tw10500077913531017323 for PySem.Manifest.find? by Mine.same
name_quick tw8537084889766193716 for PySem.Manifest.find? by Mine.same
name_quick tw1291980286583624508 for PySem.Manifest.find? by Mine.same
name_quick tw4090926877573551719 for PySem.Manifest.find? by Mine.same
name_quick tw6929956602132211858 for PySem.Manifest.find? by Mine.same
name_quick tw16049961110935095269 for PySem.Manifest.find? by Mine.same
name_quick tw1414301608579184545 for PySem.Manifest.find? by Mine.same
name_quick tw5925582254088234700 for PySem.Manifest.find? by Mine.same
name_quick tw17001327861769816259 for PySem.Manifest.find? by Mine.same
name_quick tw7504490480230193789 for PySem.Manifest.find? by Mine.same
name_quick tw16916688483869632129 for PySem.Manifest.find? by Mine.same
name_quick tw3766158894648301139 for PySem.Manifest.find? by Mine.same
name_quick tw5721027456603625697 for PySem.Manifest.find? by Mine.same
name_quick tw11270796479367742343 for PySem.Manifest.find? by Mine.same
name_quick tw13036272033356848781 for PySem.Manifest.find? by Mine.same
name_quick tw6426273055680023932 for PySem.Manifest.find? by Mine.same
name_quick tw7392212959928792091 for PySem.Manifest.find? by Mine.same
name_quick tw17434858337260393937 for PySem.Manifest.find? by Mine.same
name_quick tw5718504769338547837 for PySem.Manifest.find? by Mine.same
name_quick tw11317593695737139937 for PySem.Manifest.find? by Mine.same
name_quick tw3880421473898291048 for PySem.Manifest.find? by Mine.same
name_quick tw18101931140130867144 for PySem.Manifest.find? by Mine.same
name_quick tw13512673800721320934 for PySem.Manifest.find? by Mine.same
name_quick tw9529234661008812162 for PySem.Manifest.find? by Mine.same
name_quick tw8708707556590381134 for PySem.Manifest.find? by Mine.same
name_quick tw16817318245366136608 for PySem.Manifest.find? by Mine.same
name_quick tw13987355940573415152 for PySem.Manifest.find? by Mine.same
name_quick tw9948023125614773506 for PySem.Manifest.find? by Mine.same
name_quick tw16349804527192203551 for PySem.Manifest.find? by Mine.same
name_quick tw5529568453561195837 for PySem.Manifest.find? by Mine.same
name_quick tw16180582048198870337 for PySem.Manifest.find? by Mine.same
name_quick tw16241802466949684156 for PySem.Manifest.find? by Mine.same
name_quick tw3577408171920636059 for PySem.Manifest.find? by Mine.same
name_quick tw12329403913580668285 for PySem.Manifest.find? by Mine.same
name_quick tw2408619945344806742 for PySem.Manifest.find? by Mine.same
name_quick tw1962928258387122110 for PySem.Manifest.find? by Mine.same
name_quick tw470574548607681690 for PySem.Manifest.find? by Mine.same
name_quick tw1419416864934026935 for PySem.Manifest.find? by Mine.same
name_quick tw4978915544186085027 for PySem.Manifest.find? by Mine.same
name_quick tw8719427161674164953 for PySem.Manifest.find? by Mine.same
name_quick tw15542503528162795033 for PySem.Manifest.find? by Mine.same
name_quick tw12734952128020822468 for PySem.Manifest.find? by Mine.same
name_quick tw3209381107111851631 for PySem.Manifest.find? by Mine.same
name_quick tw15376083050721069600 for PySem.Manifest.find? by Mine.same
name_quick tw2627984346626558326 for PySem.Manifest.find? by Mine.same
name_quick tw7783732958741208154 for PySem.Manifest.find? by Mine.same
name_quick tw13809362725867891129 for PySem.Manifest.find? by Mine.same
name_quick tw17069979004554194336 for PySem.Manifest.find? by Mine.same
name_quick tw3764465048917985505 for PySem.Manifest.find? by Mine.same
name_quick tw11462045893675790159 for PySem.Manifest.find? by Mine.same
name_quick tw1702518465993881591 for PySem.Manifest.find? by Mine.same
name_quick tw5032809538720368765 for PySem.Manifest.find? by Mine.same
name_quick tw5357591511691535388 for PySem.Manifest.find? by Mine.same
name_quick tw5345256250457102556 for PySem.Manifest.find? by Mine.same
name_quick tw10227693086864044499 for PySem.Manifest.find? by Mine.same
name_quick tw13335737130258781183 for PySem.Manifest.find? by Mine.same
name_quick tw17000458434675057986 for PySem.Manifest.find? by Mine.same
name_quick tw17517737089405305841 for PySem.Manifest.find? by Mine.same
name_quick tw15980859228951719591 for PySem.Manifest.find? by Mine.same
name_quick tw13615603153576403970 for PySem.Manifest.find? by Mine.same
name_quick tw11625766737575182897 for PySem.Manifest.find? by Mine.same
name_quick tw6550987210724342151 for PySem.Manifest.find? by Mine.same
name_quick tw441327347791068078 for PySem.Manifest.find? by Mine.same
name_quick tw8693227569615203950 for PySem.Manifest.find? by Mine.same
name_quick tw11707433790658880453 for PySem.Manifest.find? by Mine.same
name_quick tw13640514254501968386 for PySem.Manifest.find? by Mine.same
name_quick tw9012449721348205671 for PySem.Manifest.find? by Mine.same
name_quick tw8579058602437062094 for PySem.Manifest.find? by Mine.same
name_quick tw5465617051466427057 for PySem.Manifest.find? by Mine.same
name_quick tw3362959441861295915 for PySem.Manifest.find? by Mine.same
name_quick tw14896874001708588922 for PySem.Manifest.find? by Mine.same
name_quick tw3972328310683599613 for PySem.Manifest.find? by Mine.same
name_quick tw6019396324639902685 for PySem.Manifest.find? by Mine.same
name_quick tw4775785305629353868 for PySem.Manifest.find? by Mine.same
name_quick tw14537914154153760125 for PySem.Manifest.find? by Mine.same
name_quick tw1662865533458754262 for PySem.Manifest.find? by Mine.same
name_quick tw10919533547850550483 for PySem.Manifest.find? by Mine.same
name_quick tw14108194823987119177 for PySem.Manifest.find? by Mine.same
name_quick tw136631920214876835 for PySem.Manifest.find? by Mine.same
name_quick tw912392155897948271 for PySem.Manifest.find? by Mine.same
name_quick tw15112985482279097393 for PySem.Manifest.find? by Mine.same
name_quick tw7299303143086499733 for PySem.Manifest.find? by Mine.same
name_quick tw7581352650102555174 for PySem.Manifest.find? by Mine.same
name_quick tw13981391230805400906 for PySem.Manifest.find? by Mine.same
name_quick tw8017206721242287953 for PySem.Manifest.find? by Mine.same
name_quick tw3470799630455053000 for PySem.Manifest.find? by Mine.same
name_quick tw15195428891847259777 for PySem.Manifest.find? by Mine.same
name_quick tw608726401823008365 for PySem.Manifest.find? by Mine.same
name_quick tw14433975572909055671 for PySem.Manifest.find? by Mine.same
name_quick tw13002492023102617099 for PySem.Manifest.find? by Mine.same
name_quick tw1749818173716722547 for PySem.Manifest.find? by Mine.same
name_quick tw5701610774189311196 for PySem.Manifest.find? by Mine.same
name_quick tw3891137856419664920 for PySem.Manifest.find? by Mine.same
name_quick tw7496433998918960881 for PySem.Manifest.find? by Mine.same
name_quick tw13254397897704925713 for PySem.Manifest.find? by Mine.same
name_quick tw2599325451414397859 for PySem.Manifest.find? by Mine.same
name_quick tw6363645014702824404 for PySem.Manifest.find? by Mine.same
name_quick tw3442601649717412197 for PySem.Manifest.find? by Mine.same
name_quick tw1156252341971683116 for PySem.Manifest.find? by Mine.same
name_quick tw6648295256997805279 for PySem.Manifest.find? by Mine.same
name_quick tw3436264866546951355 for PySem.Manifest.find? by Mine.same
name_quick tw4075660801711882420 for PySem.Manifest.find? by Mine.same
name_quick tw6967401301877209104 for PySem.Manifest.find? by Mine.same
name_quick tw11796506867022685745 for PySem.Manifest.find? by Mine.same
name_quick tw10073347824450446311 for PySem.Manifest.find? by Mine.same
name_quick tw1258299570235058372 for PySem.Manifest.find? by Mine.same
name_quick tw13912434898499826684 for PySem.Manifest.find? by Mine.same
name_quick tw7788680626742099145 for PySem.Manifest.find? by Mine.same
name_quick tw7009043117176579089 for PySem.Manifest.find? by Mine.same
name_quick tw17274371674624000324 for PySem.Manifest.find? by Mine.same
name_quick tw1503297043503765363 for PySem.Manifest.find? by Mine.same
name_quick tw43969757491396457 for PySem.Manifest.find? by Mine.same
name_quick tw11445135464325071761 for PySem.Manifest.find? by Mine.same
name_quick tw11985326045990495214 for PySem.Manifest.find? by Mine.same
name_quick tw16176465441171805009 for PySem.Manifest.find? by Mine.same
name_quick tw14821650378409806113 for PySem.Manifest.find? by Mine.same
name_quick tw3152983702415266003 for PySem.Manifest.find? by Mine.same
name_quick tw13776390136698705113 for PySem.Manifest.find? by Mine.same
name_quick tw2422670821966735624 for PySem.Manifest.find? by Mine.same
name_quick tw3897208038386817340 for PySem.Manifest.find? by Mine.same
name_quick tw7286323032743288035 for PySem.Manifest.find? by Mine.same
name_quick tw282004115355043989 for PySem.Manifest.find? by Mine.same
name_quick tw2862820112641550484 for PySem.Manifest.find? by Mine.same
name_quick tw932993149863042379 for PySem.Manifest.find? by Mine.same
name_quick tw16531745337717519161 for PySem.Manifest.find? by Mine.same
name_quick tw7232422423428716515 for PySem.Manifest.find? by Mine.same
name_quick tw1829445100760108279 for PySem.Manifest.find? by Mine.same
name_quick tw12450158673883907302 for PySem.Manifest.find? by Mine.same
name_quick tw17730448691065144110 for PySem.Manifest.find? by Mine.same
name_quick tw16593013826814733010 for PySem.Manifest.find? by Mine.same
name_quick tw12268644228514654432 for PySem.Manifest.find? by Mine.same
name_quick tw2334299552400917057 for PySem.Manifest.find? by Mine.same
name_quick tw4071324889030633612 for PySem.Manifest.find? by Mine.same
name_quick tw10528696920762540405 for PySem.Manifest.find? by Mine.same
name_quick tw12635297910168745909 for PySem.Manifest.find? by Mine.same
name_quick tw900395245841561262 for PySem.Manifest.find? by Mine.same
name_quick tw16752143609539240740 for PySem.Manifest.find? by Mine.same
name_quick tw9979284746773624096 for PySem.Manifest.find? by Mine.same
name_quick tw8595292554425487202 for PySem.Manifest.find? by Mine.same
name_quick tw18350330562280901221 for PySem.Manifest.find? by Mine.same
name_quick tw16869277618539721502 for PySem.Manifest.find? by Mine.same
name_quick tw682011567655089306 for PySem.Manifest.find? by Mine.same
name_quick tw14126943448341045398 for PySem.Manifest.find? by Mine.same
name_quick tw16741492637210864865 for PySem.Manifest.find? by Mine.same
name_quick tw14224011070414065920 for PySem.Manifest.find? by Mine.same
name_quick tw9763268239775435451 for PySem.Manifest.find? by Mine.same
name_quick tw15480198773659482676 for PySem.Manifest.find? by Mine.same
name_quick tw13317431791736044220 for PySem.Manifest.find? by Mine.same
name_quick tw13900631225919944168 for PySem.Manifest.find? by Mine.same
name_quick tw17537794083376710389 for PySem.Manifest.find? by Mine.same
name_quick tw11108263761283441063 for PySem.Manifest.find? by Mine.same
name_quick tw2460228577881660442 for PySem.Manifest.find? by Mine.same
name_quick tw11892598404827812706 for PySem.Manifest.find? by Mine.same
name_quick tw9862997608875712007 for PySem.Manifest.find? by Mine.same
name_quick tw5882768191206486792 for PySem.Manifest.find? by Mine.same
name_quick tw9407582987413476825 for PySem.Manifest.find? by Mine.same
name_quick tw8860024209350480642 for PySem.Manifest.find? by Mine.same
name_quick tw2905824091091238844 for PySem.Manifest.find? by Mine.same
name_quick tw12022618010286034681 for PySem.Manifest.find? by Mine.same
name_quick tw15034313371233782410 for PySem.Manifest.find? by Mine.same
name_quick tw662354867322794072 for PySem.Manifest.find? by Mine.same
name_quick tw11863081143760314161 for PySem.Manifest.find? by Mine.same
name_quick tw1735497430108182060 for PySem.Manifest.find? by Mine.same
name_quick tw17164873540382356111 for PySem.Manifest.find? by Mine.same
name_quick tw16643706677886111943 for PySem.Manifest.find? by Mine.same
name_quick tw5732905514179830355 for PySem.Manifest.find? by Mine.same
name_quick tw3560238982266916124 for PySem.Manifest.find? by Mine.same
name_quick tw6679490504615227074 for PySem.Manifest.find? by Mine.same
name_quick tw18056578402003937789 for PySem.Manifest.find? by Mine.same
name_quick tw6792406925840432001 for PySem.Manifest.find? by Mine.same
name_quick tw5902227825499142635 for PySem.Manifest.find? by Mine.same
name_quick tw15790677782504353289 for PySem.Manifest.find? by Mine.same
name_quick tw387338674003428930 for PySem.Manifest.find? by Mine.same
name_quick tw8376441433122354887 for PySem.Manifest.find? by Mine.same
name_quick tw16374537267813192141 for PySem.Manifest.find? by Mine.same
name_quick tw8253183596043897158 for PySem.Manifest.find? by Mine.same
name_quick tw14530364306720264245 for PySem.Manifest.find? by Mine.same
name_quick tw9787463984185863102 for PySem.Manifest.find? by Mine.same
name_quick tw5076957145309523181 for PySem.Manifest.find? by Mine.same
name_quick tw11186114360453789277 for PySem.Manifest.find? by Mine.same
name_quick tw1574873078441994576 for PySem.Manifest.find? by Mine.same
name_quick tw17828083071136270317 for PySem.Manifest.find? by Mine.same
name_quick tw1620339239838986703 for PySem.Manifest.find? by Mine.same
name_quick tw1772237422875290029 for PySem.Manifest.find? by Mine.same
name_quick tw11452132507678324671 for PySem.Manifest.find? by Mine.same
name_quick tw12635813782599140982 for PySem.Manifest.find? by Mine.same
name_quick tw6662432510661729299 for PySem.Manifest.find? by Mine.same
name_quick tw14553827428707814869 for PySem.Manifest.find? by Mine.same
name_quick tw4748654258956052638 for PySem.Manifest.find? by Mine.same
name_quick tw5697894365363955025 for PySem.Manifest.find? by Mine.same
name_quick tw15423634916342008072 for PySem.Manifest.find? by Mine.same
name_quick tw2193789692954389824 for PySem.Manifest.find? by Mine.same
name_quick tw12945451867199242903 for PySem.Manifest.find? by Mine.same
name_quick tw4039474712603431140 for PySem.Manifest.find? by Mine.same
name_quick tw16018607276475445134 for PySem.Manifest.find? by Mine.same
name_quick tw5706481520468235054 for PySem.Manifest.find? by Mine.same
name_quick tw15490439104401381959 for PySem.Manifest.find? by Mine.same
name_quick tw17552769576498331613 for PySem.Manifest.find? by Mine.same
name_quick tw3315324234476444515 for PySem.Manifest.find? by Mine.same
name_quick tw11964429278604863157 for PySem.Manifest.find? by Mine.same
name_quick tw17300597898927385350 for PySem.Manifest.find? by Mine.same
name_quick tw9315938663221665524 for PySem.Manifest.find? by Mine.same
name_quick tw7892128664451923741 for PySem.Manifest.find? by Mine.same
name_quick tw9626621113073979434 for PySem.Manifest.find? by Mine.same
name_quick tw3094477031063562474 for PySem.Manifest.find? by Mine.same
name_quick tw3976722010076183465 for PySem.Manifest.find? by Mine.same
name_quick tw11130039905162102590 for PySem.Manifest.find? by Mine.same
name_quick tw16643379632663270332 for PySem.Manifest.find? by Mine.same
name_quick tw2951486255847992690 for PySem.Manifest.find? by Mine.same
name_quick tw13789449189825218787 for PySem.Manifest.find? by Mine.same
name_quick tw9136488742655976645 for PySem.Manifest.find? by Mine.same
name_quick tw8796240567053077481 for PySem.Manifest.find? by Mine.same
name_quick tw15450981722951097364 for PySem.Manifest.find? by Mine.same
name_quick tw17804436615005485693 for PySem.Manifest.find? by Mine.same
name_quick tw11704322186244449048 for PySem.Manifest.find? by Mine.same
name_quick tw13141144453892091621 for PySem.Manifest.find? by Mine.same
name_quick tw4552823106982906706 for PySem.Manifest.find? by Mine.same
name_quick tw15168306246750427876 for PySem.Manifest.find? by Mine.same
name_quick tw14979626087600564940 for PySem.Manifest.find? by Mine.same
name_quick tw3856783459128436802 for PySem.Manifest.find? by Mine.same
name_quick tw17968720173961103018 for PySem.Manifest.find? by Mine.same
name_quick tw18220123701641295943 for PySem.Manifest.find? by Mine.same
name_quick tw11974353845819946628 for PySem.Manifest.find? by Mine.same
name_quick tw1638017585896720355 for PySem.Manifest.find? by Mine.same
name_quick tw15278061642289888581 for PySem.Manifest.find? by Mine.same
name_quick tw17954471519018878134 for PySem.Manifest.find? by Mine.same
name_quick tw7397068168572129948 for PySem.Manifest.find? by Mine.same
name_quick tw1402947280878808549 for PySem.Manifest.find? by Mine.same
name_quick tw6714822604882049554 for PySem.Manifest.find? by Mine.same
name_quick tw11161088081135249708 for PySem.Manifest.find? by Mine.same
name_quick tw8032284361305108907 for PySem.Manifest.find? by Mine.same
name_quick tw14210447440969649564 for PySem.Manifest.find? by Mine.same
name_quick tw11566699232636054958 for PySem.Manifest.find? by Mine.same
name_quick tw16966814322356759819 for PySem.Manifest.find? by Mine.same
name_quick tw11729385059970357855 for PySem.Manifest.find? by Mine.same
name_quick tw14127181297215883289 for PySem.Manifest.find? by Mine.same
name_quick tw2039238271031011813 for PySem.Manifest.find? by Mine.same
name_quick tw3636048126100218174 for PySem.Manifest.find? by Mine.same
name_quick tw17975652961387846372 for PySem.Manifest.find? by Mine.same
name_quick tw4558998842232669794 for PySem.Manifest.find? by Mine.same
name_quick tw12832477231654346042 for PySem.Manifest.find? by Mine.same
name_quick tw12172078356533094185 for PySem.Manifest.find? by Mine.same
name_quick tw9305782018832362445 for PySem.Manifest.find? by Mine.same
name_quick tw7275051467321613617 for PySem.Manifest.find? by Mine.same
name_quick tw13559156169165276386 for PySem.Manifest.find? by Mine.same
name_quick tw10029231156530900338 for PySem.Manifest.find? by Mine.same
name_quick tw8075568018651887793 for PySem.Manifest.find? by Mine.same
name_quick tw17672482021469178181 for PySem.Manifest.find? by Mine.same
name_quick tw13236226663087606529 for PySem.Manifest.find? by Mine.same
name_quick tw7035115661146626270 for PySem.Manifest.find? by Mine.same
name_quick tw12659028871203227004 for PySem.Manifest.find? by Mine.same
name_quick tw2452820758585089575 for PySem.Manifest.find? by Mine.same
name_quick tw6434265647005701932 for PySem.Manifest.find? by Mine.same
name_quick tw505943868828395459 for PySem.Manifest.find? by Mine.same
name_quick tw5111356299099525756 for PySem.Manifest.find? by Mine.same
name_quick tw151948405760981731 for PySem.Manifest.find? by Mine.same
name_quick tw5349121933718820234 for PySem.Manifest.find? by Mine.same
name_quick tw8753696776887207221 for PySem.Manifest.find? by Mine.same
name_quick tw11788150170368784547 for PySem.Manifest.find? by Mine.same
name_quick tw9501820088010722379 for PySem.Manifest.find? by Mine.same
name_quick tw1706496860858754268 for PySem.Manifest.find? by Mine.same
name_quick tw4527066259768149269 for PySem.Manifest.find? by Mine.same
name_quick tw14023627001141898710 for PySem.Manifest.find? by Mine.same
name_quick tw10010936943081839664 for PySem.Manifest.find? by Mine.same
name_quick tw12371321757623732685 for PySem.Manifest.find? by Mine.same
name_quick tw3177591051634278968 for PySem.Manifest.find? by Mine.same
name_quick tw2447775223705975068 for PySem.Manifest.find? by Mine.same
name_quick tw4636218855388986860 for PySem.Manifest.find? by Mine.same
name_quick tw11636919720809706868 for PySem.Manifest.find? by Mine.same
name_quick tw10833955939284561965 for PySem.Manifest.find? by Mine.same
name_quick tw704327219915372674 for PySem.Manifest.find? by Mine.same
name_quick tw10063671712614023339 for PySem.Manifest.find? by Mine.same
name_quick tw721709456127091705 for PySem.Manifest.find? by Mine.same
name_quick tw17964007177503468958 for PySem.Manifest.find? by Mine.same
name_quick tw15806122291839087668 for PySem.Manifest.find? by Mine.same
name_quick tw183835017167291270 for PySem.Manifest.find? by Mine.same
name_quick tw13215998728584607739 for PySem.Manifest.find? by Mine.same
name_quick tw313226197891681235 for PySem.Manifest.find? by Mine.same
name_quick tw6135381517318000843 for PySem.Manifest.find? by Mine.same
name_quick tw9564595351457756722 for PySem.Manifest.find? by Mine.same
name_quick tw3670520836272599126 for PySem.Manifest.find? by Mine.same
name_quick tw11420187438672877268 for PySem.Manifest.find? by Mine.same
name_quick tw14884601019740666482 for PySem.Manifest.find? by Mine.same
name_quick tw9011979029575296479 for PySem.Manifest.find? by Mine.same
name_quick tw16874561944515371726 for PySem.Manifest.find? by Mine.same
name_quick tw1617757218408452269 for PySem.Manifest.find? by Mine.same
name_quick tw12290603225136948437 for PySem.Manifest.find? by Mine.same
name_quick tw7198390536060210744 for PySem.Manifest.find? by Mine.same
name_quick tw13642483538084851733 for PySem.Manifest.find? by Mine.same
name_quick tw3698559305507148144 for PySem.Manifest.find? by Mine.same
name_quick tw10948738476641704880 for PySem.Manifest.find? by Mine.same
name_quick tw10470071008263537045 for PySem.Manifest.find? by Mine.same
name_quick tw2719445374943340272 for PySem.Manifest.find? by Mine.same
name_quick tw9908251947323293946 for PySem.Manifest.find? by Mine.same
name_quick tw11333186260410459676 for PySem.Manifest.find? by Mine.same
name_quick tw12392613427281201732 for PySem.Manifest.find? by Mine.same
name_quick tw9458956999447867950 for PySem.Manifest.find? by Mine.same
name_quick tw12981051755390344553 for PySem.Manifest.find? by Mine.same
name_quick tw12233582284571471492 for PySem.Manifest.find? by Mine.same
name_quick tw5978237884098788730 for PySem.Manifest.find? by Mine.same
name_quick tw16414604833108395602 for PySem.Manifest.find? by Mine.same
name_quick tw17169450816612108026 for PySem.Manifest.find? by Mine.same
name_quick tw8098380416015320538 for PySem.Manifest.find? by Mine.same
name_quick tw15066959818950650227 for PySem.Manifest.find? by Mine.same
name_quick tw7650934615059315214 for PySem.Manifest.find? by Mine.same
name_quick tw1258717718454355964 for PySem.Manifest.find? by Mine.same
name_quick tw7401281599722004195 for PySem.Manifest.find? by Mine.same
name_quick tw12393455550290869266 for PySem.Manifest.find? by Mine.same
name_quick tw8047484207015712433 for PySem.Manifest.find? by Mine.same
name_quick tw4658958612460137192 for PySem.Manifest.find? by Mine.same
name_quick tw15823609455315575823 for PySem.Manifest.find? by Mine.same
name_quick tw17018628822417861297 for PySem.Manifest.find? by Mine.same
name_quick tw12177639751122801600 for PySem.Manifest.find? by Mine.same
name_quick tw16792545251062261874 for PySem.Manifest.find? by Mine.same
name_quick tw14854873802348172939 for PySem.Manifest.find? by Mine.same
name_quick tw17846936440860909165 for PySem.Manifest.find? by Mine.same
name_quick tw15475462885187679331 for PySem.Manifest.find? by Mine.same
name_quick tw2478078296215019888 for PySem.Manifest.find? by Mine.same
name_quick tw18211773271919218964 for PySem.Manifest.find? by Mine.same
name_quick tw558745408833754511 for PySem.Manifest.find? by Mine.same
name_quick tw11277716924127702174 for PySem.Manifest.find? by Mine.same
name_quick tw17000155066101142889 for PySem.Manifest.find? by Mine.same
name_quick tw4292500188555128830 for PySem.Manifest.find? by Mine.same
name_quick tw2315820567201803617 for PySem.Manifest.find? by Mine.same
name_quick tw8206430501311747189 for PySem.Manifest.find? by Mine.same
name_quick tw15919542637913265678 for PySem.Manifest.find? by Mine.same
name_quick tw16427306112580772713 for PySem.Manifest.find? by Mine.same
name_quick tw11306939235166856333 for PySem.Manifest.find? by Mine.same
name_quick tw3282434896037501709 for PySem.Manifest.find? by Mine.same
name_quick tw16145008321745377990 for PySem.Manifest.find? by Mine.same
name_quick tw5770868932273138760 for PySem.Manifest.find? by Mine.same
name_quick tw1377046205977697930 for PySem.Manifest.find? by Mine.same
name_quick tw17279654841073493023 for PySem.Manifest.find? by Mine.same
name_quick tw9931943479562821362 for PySem.Manifest.find? by Mine.same
name_quick tw878741703135273975 for PySem.Manifest.find? by Mine.same
name_quick tw10317580896714288900 for PySem.Manifest.find? by Mine.same
name_quick tw3386650904741475044 for PySem.Manifest.find? by Mine.same
name_quick tw16548257151911338427 for PySem.Manifest.find? by Mine.same
name_quick tw10205541121877940668 for PySem.Manifest.find? by Mine.same
name_quick tw6004533443673955352 for PySem.Manifest.find? by Mine.same
name_quick tw2664551874359636763 for PySem.Manifest.find? by Mine.same
name_quick tw17111948838632640456 for PySem.Manifest.find? by Mine.same
name_quick tw2660918139993853925 for PySem.Manifest.find? by Mine.same
name_quick tw8224813933742928703 for PySem.Manifest.find? by Mine.same
name_quick tw10007627690174824804 for PySem.Manifest.find? by Mine.same
name_quick tw12825359941727978080 for PySem.Manifest.find? by Mine.same
name_quick tw460243522976405022 for PySem.Manifest.find? by Mine.same
name_quick tw2670528217467546775 for PySem.Manifest.find? by Mine.same
name_quick tw1055568401681811165 for PySem.Manifest.find? by Mine.same
name_quick tw3039592710220408265 for PySem.Manifest.find? by Mine.same
name_quick tw17497748084772794779 for PySem.Manifest.find? by Mine.same
name_quick tw8265968502654686089 for PySem.Manifest.find? by Mine.same
name_quick tw12237943961548833269 for PySem.Manifest.find? by Mine.same
name_quick tw12898947447245864913 for PySem.Manifest.find? by Mine.same
name_quick tw9676229304581654039 for PySem.Manifest.find? by Mine.same
name_quick tw11588390666370768167 for PySem.Manifest.find? by Mine.same
name_quick tw14066793110252480789 for PySem.Manifest.find? by Mine.same
name_quick tw3619232141914619222 for PySem.Manifest.find? by Mine.same
name_quick tw6683783046931543321 for PySem.Manifest.find? by Mine.same
name_quick tw2968979199505139716 for PySem.Manifest.find? by Mine.same
name_quick tw15766043655864335149 for PySem.Manifest.find? by Mine.same
name_quick tw1370275717833778536 for PySem.Manifest.find? by Mine.same
name_quick tw14168537005229113720 for PySem.Manifest.find? by Mine.same
name_quick tw15007238320947547705 for PySem.Manifest.find? by Mine.same
name_quick tw18345786424863182364 for PySem.Manifest.find? by Mine.same
name_quick tw7098571738820278039 for PySem.Manifest.find? by Mine.same
name_quick tw7915892664330473996 for PySem.Manifest.find? by Mine.same
name_quick tw16349216596472256690 for PySem.Manifest.find? by Mine.same
name_quick tw14112274594779413971 for PySem.Manifest.find? by Mine.same
name_quick tw5823794197072137003 for PySem.Manifest.find? by Mine.same
name_quick tw347637069881736656 for PySem.Manifest.find? by Mine.same
name_quick tw4302124980754421698 for PySem.Manifest.find? by Mine.same
name_quick tw11013792430000457035 for PySem.Manifest.find? by Mine.same
name_quick tw10314498396905981064 for PySem.Manifest.find? by Mine.same
name_quick tw14326252917377295143 for PySem.Manifest.find? by Mine.same
name_quick tw10323183001455561277 for PySem.Manifest.find? by Mine.same
name_quick tw7581816359482902497 for PySem.Manifest.find? by Mine.same
name_quick tw4933834842325187142 for PySem.Manifest.find? by Mine.same
name_quick tw8254874467085976505 for PySem.Manifest.find? by Mine.same
name_quick tw10706342367453228570 for PySem.Manifest.find? by Mine.same
name_quick tw4980102563643897964 for PySem.Manifest.find? by Mine.same
name_quick tw9594665118957945026 for PySem.Manifest.find? by Mine.same
name_quick tw7299951869573292228 for PySem.Manifest.find? by Mine.same
name_quick tw4679858250743294509 for PySem.Manifest.find? by Mine.same
name_quick tw9396933662098498411 for PySem.Manifest.find? by Mine.same
name_quick tw12850107946570832962 for PySem.Manifest.find? by Mine.same
name_quick tw15663404670287596823 for PySem.Manifest.find? by Mine.same
name_quick tw7745614565497352828 for PySem.Manifest.find? by Mine.same
name_quick tw9674257727999782656 for PySem.Manifest.find? by Mine.same
name_quick tw117213463901210413 for PySem.Manifest.find? by Mine.same
name_quick tw5135500740108067664 for PySem.Manifest.find? by Mine.same
name_quick tw8450942572126056277 for PySem.Manifest.find? by Mine.same
namespace Mine
set_option maxRecDepth 100000
set_option maxHeartbeats 8000000
open_top hd for PySem.Challenge.rw_pc0128_01
set_option maxHeartbeats 200000
end Mine
open PySem.Spec PySem.Calls
set_option maxRecDepth 100000
namespace Mine
section
noncomputable abbrev pr : Program := PySem.Challenge.rw_pc0128_01.row.toRowW.prog
noncomputable abbrev vw : Program := hd.view_39
noncomputable abbrev lo : List Str := [Str.ofString "LedgerError", Str.ofString "decimal", Str.ofString "quotient"]
noncomputable abbrev KK (w : World) : Frag := hd.heap_39 w.params

/-! what a value means -/
inductive AV where
  | none
  | bool (b : Bool)
  | int (i : Int)
  | str (x : Str)
  | tup (xs : List AV)
  | raw (v : Value)
  | clo (k : Nat) (c : Addr)
  | rng (n : Int)
noncomputable abbrev rf (a : Addr) : AV := .raw (.ref a)

structure CloFn where
  name : Str
  qual : Str
  params : Arguments
  body : List Stmt
  scope : Scope
  var : Str
noncomputable def deedsBody : List Stmt := match pr.main.body.find? (fun s => match s with | .FunctionDef n .. => n == Str.ofString "_law_deeds" | _ => false) with
  | some (.FunctionDef _ _ b _ _ _ _ _ _ _) => b
  | _ => []
noncomputable def CF (k : Nat) : CloFn := match deedsBody[k]? with
  | some (.FunctionDef n a b _ _ _ sc _ _ _) => ⟨n, Str.ofString "_law_deeds.<locals>." ++ n, a, b, sc, Str.ofString "log"⟩
  | _ => ⟨Str.empty, Str.empty, ⟨[], [], none, [], [], none, []⟩, [], ⟨.function, [], false, false, []⟩, Str.empty⟩

noncomputable abbrev tupOf (its : Array Value) (n : Nat) : Obj := { cls := .type "tuple", data := .seq its n }
mutual
inductive RV (h : Heap) : Value → AV → Prop
  | none : RV h .none .none
  | bool (b : Bool) : RV h (.bool b) (.bool b)
  | int (i : Int) (t : Tok) : RV h (.int i t) (.int i)
  | str (x : Str) (t : Tok) : RV h (.str x t) (.str x)
  | raw (v : Value) : RV h v (.raw v)
  | tup {a : Addr} {vs : List Value} {xs : List AV} {n : Nat} : h.get? a = some (tupOf vs.toArray n) → RVs h vs xs → RV h (.ref a) (.tup xs)
  | clo {a c cc : Addr} {o ok : Obj} {k : Nat} {doc pm ct : Value} {ks : Array Value} {tq : Tok} : h.get? a = some o →
      o.data = .func (fnX (CF k).name (CF k).qual (CF k).params (CF k).body (CF k).scope [((CF k).var, c)] .none .none doc pm none (.ref cc) ct) → h.get? cc = some ok → ok.cls = .type "code" → ok.data = .fields ks → ks[1]? = some (.str (CF k).qual tq) →
      RV h (.ref a) (.clo k c)
  | rng {a : Addr} {n : Int} {t u v : Tok} : IsRange h a 0 n 1 t u v → RV h (.ref a) (.rng n)
inductive RVs (h : Heap) : List Value → List AV → Prop
  | nil : RVs h [] []
  | cons {v : Value} {vs : List Value} {x : AV} {xs : List AV} : RV h v x → RVs h vs xs → RVs h (v :: vs) (x :: xs)
end

noncomputable abbrev ImmC (v : Value) : Prop := v = .type "code" ∨ v = .type "range"
noncomputable def Imm (o : Obj) : Prop := match o.data with
  | .seq _ _ => o.cls = .type "tuple"
  | .func _ => True
  | .fields _ => ImmC o.cls
  | _ => False
noncomputable def KeepI (h h' : Heap) : Prop := ∀ b o, h.get? b = some o → Imm o → h'.get? b = some o
noncomputable def RV.K (h : Heap) (P : Value → Prop) (v : Value) : AV → Prop
  | .none => True → P .none
  | .bool b => True → P (.bool b)
  | .int i => ∀ t, P (.int i t)
  | .str x => ∀ t, P (.str x t)
  | .raw u => True → P u
  | .tup xs => ∀ a vs n, h.get? a = some (tupOf vs.toArray n) → RVs h vs xs → P (.ref a)
  | .clo _ _ => True → P v
  | .rng n => ∀ a t u z, IsRange h a 0 n 1 t u z → P (.ref a)
@[elab_as_elim] theorem RV.E {h : Heap} {v : Value} {x : AV} {P : Value → Prop} (r : RV h v x) (k : RV.K h P v x) : P v := by
  cases r with
  | tup e q => exact k _ _ _ e q
  | rng e => exact k _ _ _ _ e
  | _ => first | exact k ⟨⟩ | exact k _
@[elab_as_elim] theorem RV.tupE {h : Heap} {v : Value} {xs : List AV} {P : Value → Prop} (r : RV h v (.tup xs)) (k : ∀ a vs n, h.get? a = some (tupOf vs.toArray n) → RVs h vs xs → P (.ref a)) : P v := r.E k
noncomputable def RVs.K (h : Heap) (P : List Value → Prop) : List AV → Prop
  | [] => True → P []
  | x :: xs => ∀ v ws, RV h v x → RVs h ws xs → P (v :: ws)
@[elab_as_elim] theorem RVs.E {h : Heap} {vs : List Value} {xs : List AV} {P : List Value → Prop} (r : RVs h vs xs) (k : RVs.K h P xs) : P vs := by
  cases r with
  | nil => exact k ⟨⟩
  | cons a b => exact k _ _ a b
@[elab_as_elim] theorem RVs.oneE {h : Heap} {vs : List Value} {a : AV} {P : List Value → Prop} (r : RVs h vs [a]) (k : ∀ v, RV h v a → P [v]) : P vs :=
  r.E fun v ws a b => b.E (P := fun ws => P (v :: ws)) fun _ => k v a
@[elab_as_elim] theorem RVs.twoE {h : Heap} {vs : List Value} {a b : AV} {P : List Value → Prop} (r : RVs h vs [a, b]) (k : ∀ v u, RV h v a → RV h u b → P [v, u]) : P vs :=
  r.E fun v ws a b => b.oneE (P := fun ws => P (v :: ws)) fun u b => k v u a b
@[elab_as_elim] theorem RVs.threeE {h : Heap} {vs : List Value} {a b d : AV} {P : List Value → Prop} (r : RVs h vs [a, b, d]) (k : ∀ v u x, RV h v a → RV h u b → RV h x d → P [v, u, x]) : P vs :=
  r.E fun v ws a b => b.twoE (P := fun ws => P (v :: ws)) fun u x b d => k v u x a b d
theorem RV.keepI {h h' : Heap} (k : KeepI h h') {v : Value} {x : AV} (r : RV h v x) : RV h' v x :=
  RV.rec (motive_1 := fun v x _ => RV h' v x) (motive_2 := fun vs xs _ => RVs h' vs xs) .none .bool .int .str .raw (fun ht _ ih => .tup (k _ _ ht rfl) ih)
    (fun ho hd hk hkc hkd hkq => .clo (k _ _ ho (by unfold Imm; rw [hd]; trivial)) hd (k _ _ hk (by unfold Imm; rw [hkd]; exact .inl hkc)) hkc hkd hkq)
    (fun hr => .rng (k _ _ hr (.inr rfl))) .nil (fun _ _ a b => .cons a b) r
theorem RVs.keepI {h h' : Heap} (k : KeepI h h') {vs : List Value} {xs : List AV} (r : RVs h vs xs) : RVs h' vs xs :=
  RVs.rec (motive_1 := fun v x _ => True) (motive_2 := fun vs xs _ => RVs h' vs xs) ⟨⟩ (fun _ => ⟨⟩) (fun _ _ => ⟨⟩) (fun _ _ => ⟨⟩) (fun _ => ⟨⟩) (fun _ _ _ => ⟨⟩) (fun _ _ _ _ _ _ => ⟨⟩) (fun _ => ⟨⟩) .nil (fun a _ _ b => .cons (a.keepI k) b) r
section
variable {h : Heap} {v : Value} {vs ws : List Value} {x : AV} {xs ys : List AV}
theorem RVs.length (r : RVs h vs xs) : vs.length = xs.length := by
  induction vs generalizing xs with
  | nil => cases r; rfl
  | cons v vs ih => cases r with | cons _ r => rw [List.length_cons, List.length_cons, ih r]
theorem RVs.append (r : RVs h vs xs) (q : RVs h ws ys) : RVs h (vs ++ ws) (xs ++ ys) := by
  induction vs generalizing xs with
  | nil => cases r; exact q
  | cons v vs ih => cases r with | cons a r => exact .cons a (ih r)
theorem RVs.get (r : RVs h vs xs) {k : Nat} (hk : xs[k]? = some x) : ∃ v, vs[k]? = some v ∧ RV h v x := by
  induction vs generalizing xs k with
  | nil => cases r; cases hk
  | cons v vs ih =>
    cases r with
    | cons a r =>
      cases k with
      | zero => cases hk; exact ⟨v, rfl, a⟩
      | succ k => exact ih r hk
theorem RVs.take (r : RVs h vs xs) (n : Nat) : RVs h (vs.take n) (xs.take n) := by
  induction vs generalizing xs n with
  | nil => cases r; simp; exact .nil
  | cons v vs ih =>
    cases r with
    | cons a r =>
      cases n with
      | zero => exact .nil
      | succ n => exact .cons a (ih r n)
theorem RVs.set (r : RVs h vs xs) (k : Nat) (a : RV h v x) : RVs h (vs.set k v) (xs.set k x) := by
  induction vs generalizing xs k with
  | nil => cases r; exact .nil
  | cons w vs ih =>
    cases r with
    | cons b r =>
      cases k with
      | zero => exact .cons a r
      | succ k => exact .cons b (ih r k)
end

/-! the changing objects -/
inductive AO where
  | list (xs : List AV)
  | inst (C d : Addr) (fs : List (Str × AV))
  | idict (kvs : List (Int × AV))
  | sdict (kvs : List (Str × AV))
  | cell (v : Option AV)
  | tab (qs : List (Pos × Str))
noncomputable abbrev Store := List (Addr × AO)
noncomputable abbrev Loc := List (Str × AV)
noncomputable def fp : Addr × AO → List Addr
  | (a, .list _) => [a]
  | (a, .inst _ d _) => [a, d]
  | (a, .idict _) => [a]
  | (a, .sdict _) => [a]
  | (a, .cell _) => [a]
  | (a, .tab _) => [a]
noncomputable def fps (T : Store) : List Addr := T.flatMap fp
noncomputable def Flds (h : Heap) : List DictEntry → List (Str × AV) → Prop
  | [], [] => True
  | e :: es, f :: fs => (∃ t, e.key = .str f.1 t) ∧ RV h e.val f.2 ∧ Flds h es fs
  | _, _ => False
noncomputable def Prs {K : Type} (h : Heap) : List (K × Value) → List (K × AV) → Prop
  | [], [] => True
  | e :: es, f :: fs => e.1 = f.1 ∧ RV h e.2 f.2 ∧ Prs h es fs
  | _, _ => False
noncomputable def OV (h : Heap) : Option Value → Option AV → Prop
  | none, none => True
  | some v, some a => RV h v a
  | _, _ => False
noncomputable abbrev tabO (ps : Array Value) : Obj := { cls := .none, data := .fields ps }
/-- what a code's table of inner codes holds -/
noncomputable def Ents (h : Heap) : List Value → List (Pos × Str) → Prop
  | l, [] => l = []
  | l, q :: qs => ∃ cc rest, l = rawInt q.1.line :: rawInt q.1.col :: .ref cc :: rest ∧ (∃ ok ks tq, h.get? cc = some ok ∧ ok.cls = .type "code" ∧ ok.data = .fields ks ∧ ks[1]? = some (.str q.2 tq)) ∧ Ents h rest qs
theorem Ents.keepI {h h' : Heap} (k : KeepI h h') {l : List Value} {qs : List (Pos × Str)} (x : Ents h l qs) : Ents h' l qs := by
  induction qs generalizing l with
  | nil => exact x
  | cons q qs ih =>
    obtain ⟨cc, rest, e, ⟨ok, ks, tq, e2, e3, e4, e5⟩, r⟩ := x
    exact ⟨cc, rest, e, ⟨ok, ks, tq, k _ _ e2 (by unfold Imm; rw [e4]; exact .inl e3), e3, e4, e5⟩, ih r⟩
noncomputable def RO (w : World) (h : Heap) : Addr → AO → Prop
  | a, .list xs => ∃ vs n, h.get? a = some (listOf vs.toArray n) ∧ RVs h vs xs
  | a, .inst C d fs => ∃ sl es n, h.get? a = some ⟨.ref C, some d, .plain, sl⟩ ∧ h.get? d = some (dictOf es n) ∧ Flds h es fs
  | a, .idict kvs => (a == sysModules) = false ∧ ∃ kvs', h.DictOf (intKind pr w) a kvs' ∧ Prs h kvs' kvs
  | a, .sdict kvs => (a == sysModules) = false ∧ ∃ kvs', h.DictOf (strKind pr w) a kvs' ∧ Prs h kvs' kvs
  | a, .cell v => ∃ o ov, h.get? a = some o ∧ o.data = .cell ov ∧ OV h ov v
  | a, .tab qs => ∃ ps, h.get? a = some (tabO ps) ∧ Ents h ps.toList qs
theorem OV.keepI {h h' : Heap} (k : KeepI h h') : ∀ {ov : Option Value} {v : Option AV}, OV h ov v → OV h' ov v
  | none, none, _ => trivial
  | some _, some _, r => RV.keepI k r
  | none, some _, r => r.elim
  | some _, none, r => r.elim
theorem Flds.keepI {h h' : Heap} (k : KeepI h h') : ∀ {es : List DictEntry} {fs : List (Str × AV)}, Flds h es fs → Flds h' es fs
  | [], [], _ => trivial
  | _ :: _, _ :: _, ⟨a, b, c⟩ => ⟨a, b.keepI k, Flds.keepI k c⟩
  | [], _ :: _, x => x.elim
  | _ :: _, [], x => x.elim
theorem Prs.keepI {K : Type} {h h' : Heap} (k : KeepI h h') {es : List (K × Value)} {fs : List (K × AV)} (q : Prs h es fs) : Prs h' es fs := by
  induction es generalizing fs with
  | nil => cases fs with
    | nil => trivial
    | cons _ _ => exact q.elim
  | cons e es ih => cases fs with
    | nil => exact q.elim
    | cons f fs => exact ⟨q.1, q.2.1.keepI k, ih q.2.2⟩
theorem RO.at {w : World} {h : Heap} {a : Addr} {o : AO} (r : RO w h a o) : ∀ x ∈ fp (a, o), ∃ ob, h.get? x = some ob ∧ ¬ Imm ob := by
  intro x hx
  cases o with
  | list xs =>
    obtain ⟨vs, n, ho, _⟩ := r
    rw [fp, List.mem_singleton] at hx
    subst hx
    exact ⟨_, ho, fun e => absurd (Value.type.inj e) (by decide)⟩
  | inst C d fs =>
    obtain ⟨sl, es, n, h1, h2, _⟩ := r
    simp only [fp, List.mem_cons, List.not_mem_nil, or_false] at hx
    rcases hx with rfl | rfl
    · exact ⟨_, h1, fun e => e⟩
    · exact ⟨_, h2, fun e => e⟩
  | idict kvs =>
    obtain ⟨_, kvs', ⟨ob, es, ep, ho, _, hd, _⟩, _⟩ := r
    rw [fp, List.mem_singleton] at hx
    subst hx
    exact ⟨ob, ho, by unfold Imm; rw [hd]; exact fun e => e⟩
  | sdict kvs =>
    obtain ⟨_, kvs', ⟨ob, es, ep, ho, _, hd, _⟩, _⟩ := r
    rw [fp, List.mem_singleton] at hx
    subst hx
    exact ⟨ob, ho, by unfold Imm; rw [hd]; exact fun e => e⟩
  | cell v =>
    obtain ⟨ob, ov, ho, hd, _⟩ := r
    rw [fp, List.mem_singleton] at hx
    subst hx
    exact ⟨ob, ho, by unfold Imm; rw [hd]; exact fun e => e⟩
  | tab qs =>
    obtain ⟨ps, ho, _⟩ := r
    rw [fp, List.mem_singleton] at hx
    subst hx
    exact ⟨_, ho, by unfold Imm; rintro (e | e) <;> cases e⟩
theorem RO.keep {w : World} {h h' : Heap} {a : Addr} {o : AO} (k : KeepI h h') (r : RO w h a o) (e : ∀ x ∈ fp (a, o), ∀ ob, h.get? x = some ob → h'.get? x = some ob) : RO w h' a o := by
  cases o with
  | list xs =>
    obtain ⟨vs, n, ho, q⟩ := r
    exact ⟨vs, n, e a (.head _) _ ho, q.keepI k⟩
  | inst C d fs =>
    obtain ⟨sl, es, n, h1, h2, q⟩ := r
    exact ⟨sl, es, n, e a (.head _) _ h1, e d (.tail _ (.head _)) _ h2, q.keepI k⟩
  | idict kvs =>
    obtain ⟨lo, kvs', ⟨ob, es, ep, ho, r⟩, q⟩ := r
    exact ⟨lo, kvs', ⟨ob, es, ep, e a (.head _) _ ho, r⟩, q.keepI k⟩
  | sdict kvs =>
    obtain ⟨lo, kvs', ⟨ob, es, ep, ho, r⟩, q⟩ := r
    exact ⟨lo, kvs', ⟨ob, es, ep, e a (.head _) _ ho, r⟩, q.keepI k⟩
  | cell v =>
    obtain ⟨ob, ov, ho, hd, q⟩ := r
    exact ⟨ob, ov, e a (.head _) _ ho, hd, q.keepI k⟩
  | tab qs =>
    obtain ⟨ps, ho, q⟩ := r
    exact ⟨ps, e a (.head _) _ ho, q.keepI k⟩

/-! what a step leaves -/
noncomputable def FLs (fl : List Env) : List Addr := fl.filterMap (·.frame)
noncomputable def Ext (fl F : List Addr) (h h' : Heap) : Prop := ∀ b o, h.get? b = some o → b ∉ F → (b ∉ fl → h'.get? b = some o) ∧ ∃ sl, h'.get? b = some { o with slots := sl }
structure Stp (fl F F' : List Addr) (s s' : Shared) : Prop where
  ext : Ext fl F s.heap s'.heap
  alive : ∀ b o, s.heap.get? b = some o → ∃ o', s'.heap.get? b = some o'
  new : ∀ x ∈ F', x ∈ F ∨ s.heap.get? x = none
  gens : s'.gens = s.gens
  drawn : s'.drawn = s.drawn
  os : s'.os = s.os
theorem Stp.refl {fl F F' : List Addr} {s : Shared} (h : ∀ x ∈ F', x ∈ F) : Stp fl F F' s s :=
  ⟨fun _ o e _ => ⟨fun _ => e, o.slots, e⟩, fun _ o e => ⟨o, e⟩, fun x hx => .inl (h x hx), rfl, rfl, rfl⟩
theorem Stp.trans {fl F F₁ G F₂ : List Addr} {s s₁ s₂ : Shared} (x : Stp fl F F₁ s s₁) (y : Stp fl G F₂ s₁ s₂) (hG : ∀ a ∈ G, a ∈ F ∨ a ∈ F₁) : Stp fl F F₂ s s₂ := by
  have hG' : ∀ a ∈ G, a ∈ F ∨ s.heap.get? a = none := fun a ha => (hG a ha).elim .inl (x.new a)
  refine ⟨fun b o e hb => ?_, fun b o e => ?_, fun a ha => ?_, y.gens.trans x.gens, y.drawn.trans x.drawn, y.os.trans x.os⟩
  · obtain ⟨h1, sl, h2⟩ := x.ext b o e hb
    have hbG : b ∉ G := fun q => (hG' b q).elim hb fun n => by rw [n] at e; cases e
    refine ⟨fun q => (y.ext b o (h1 q) hbG).1 q, ?_⟩
    obtain ⟨_, sl', h3⟩ := y.ext b _ h2 hbG
    exact ⟨sl', h3⟩
  · obtain ⟨o', h1⟩ := x.alive b o e
    exact y.alive b o' h1
  · rcases y.new a ha with q | q
    · exact hG' a q
    · by_cases hF : a ∈ F
      · exact .inl hF
      · refine .inr ?_
        cases e : s.heap.get? a with
        | none => rfl
        | some o => obtain ⟨o', h1⟩ := x.alive a o e; rw [q] at h1; cases h1

/-! the base, the frames, the store -/
structure Gd (w : World) (b0 : Heap) : Prop where
  K : (KK w).In b0
  T : ∃ (p : Program) (l : List Str) (mean : _) (mg mb : _), Top p l mean mg mb b0
structure OkH (w : World) (b0 : Heap) (fl : List Env) (T : Store) (h : Heap) : Prop where
  stay : b0.StaysIn h
  frames : h.FunFrames b0 fl
  fdict : ∀ x ∈ FLs fl, ∃ o es ep, h.get? x = some o ∧ o.data = .dict es ep
  rep : ∀ p ∈ T, RO w h p.1 p.2
  nodup : (fps T).Nodup
  fresh : ∀ x ∈ fps T, b0.get? x = none
  off : ∀ x ∈ fps T, x ∉ FLs fl
theorem mem_fps {T : Store} {p : Addr × AO} {x : Addr} (hp : p ∈ T) (hx : x ∈ fp p) : x ∈ fps T := List.mem_flatMap.mpr ⟨p, hp, hx⟩
section
variable {w : World} {b0 : Heap} {fl : List Env} {T : Store} {h h' : Heap}
theorem OkH.at (O : OkH w b0 fl T h) {x : Addr} (hx : x ∈ fps T) : ∃ ob, h.get? x = some ob ∧ ¬ Imm ob := by
  obtain ⟨p, hp, hx⟩ := List.mem_flatMap.mp hx
  exact (O.rep p hp).at x hx
theorem OkH.keepI (O : OkH w b0 fl T h) {F : List Addr} (hF : ∀ x ∈ F, x ∈ fps T ∨ x ∈ FLs fl) (e : Ext (FLs fl) F h h') : KeepI h h' := by
  intro b o hb hi
  have n1 : b ∉ fps T := fun q => by
    obtain ⟨ob, h1, h2⟩ := O.at q
    rw [hb] at h1; cases h1; exact h2 hi
  have n2 : b ∉ FLs fl := fun q => by
    obtain ⟨o', es, ep, h1, h2⟩ := O.fdict b q
    rw [hb] at h1; cases h1
    unfold Imm at hi; rw [h2] at hi; exact hi
  exact (e b o hb fun q => (hF b q).elim n1 n2).1 n2
end
end
section
structure Cx where
  cn : Str
  cs : Scope
  L : Addr
  a : Addr
  cd : Value
  cl : List (Str × Addr)
  outer : List Env
  A : Around
  inn : Option (Scope × Addr × List (Str × Addr)) := none
noncomputable def Cx.fenv (c : Cx) : Env := envX c.cn c.cs c.L c.a c.cd c.cl
noncomputable def Cx.env (c : Cx) : Env := match c.inn with
  | none => c.fenv
  | some x => compEnvC x.1 x.2.2 x.2.1 c.fenv
/-- the dict of its names -/
noncomputable def Cx.C (c : Cx) : Addr := match c.inn with
  | none => c.L
  | some x => x.2.1
theorem Cx.locals (c : Cx) : c.env.locals = c.C := by
  obtain ⟨cn, cs, L, a, cd, cl, outer, A, inn⟩ := c
  cases inn <;> rfl
theorem Cx.globals (c : Cx) : c.env.globals = mainGlobals := by
  obtain ⟨cn, cs, L, a, cd, cl, outer, A, inn⟩ := c
  cases inn <;> rfl
theorem Cx.builtins (c : Cx) : c.env.builtins = builtinsNs := by
  obtain ⟨cn, cs, L, a, cd, cl, outer, A, inn⟩ := c
  cases inn <;> rfl
noncomputable def Cx.fl (c : Cx) : List Env := c.fenv :: c.outer
structure Cx.Ok (c : Cx) (n : Nat) : Prop where
  frames : c.A.frames = some (c.fenv :: c.outer)
  kind : c.env.scope.kind = .function
  depth : c.A.depth + n < recursionLimit
  units : c.A.units + 16 * n + 100 < cLine
theorem Cx.L_mem (c : Cx) : c.L ∈ FLs c.fl := by
  show c.L ∈ List.filterMap _ (c.fenv :: c.outer)
  rw [List.filterMap_cons]
  exact .head _
noncomputable def OkF (w : World) (b0 : Heap) (c : Cx) (m : Loc) (T : Store) (h : Heap) : Prop :=
  OkH w b0 c.fl T h ∧ (c.C ∉ fps T ∧ b0.get? c.C = none) ∧ ∃ mm, h.Ns c.C mm ∧ ∀ p ∈ m, ∃ v, mm p.1 = some v ∧ RV h v p.2
/-- an exception object, made behind `pre` -/
noncomputable def ExcObj (pre h : Heap) (ea C : Addr) : Prop := ∃ oe vs, h.get? ea = some oe ∧ oe.cls = .ref C ∧ oe.data = .fields vs ∧ pre.get? ea = none ∧
  (vs[1]? = some .none ∨ ∃ Tb oT ts x, vs[1]? = some (.ref Tb) ∧ Tb ≠ ea ∧ pre.get? Tb = none ∧ h.get? Tb = some oT ∧ oT.cls = .type "traceback" ∧ oT.data = .fields ts ∧ ts[3]? = some x)

section
variable (w : World) (b0 : Heap) (c : Cx)
noncomputable def Res {α β : Type} (R : Heap → α → β → Prop) (s : Shared) (T : Store) (Q : β → Loc → Store → Prop) (v : α) (s' : Shared) : Prop :=
  ∃ b m' T', R s'.heap v b ∧ OkF w b0 c m' T' s'.heap ∧ Stp (FLs c.fl) (c.C :: fps T) (fps T') s s' ∧ Q b m' T'
noncomputable def Exc (s : Shared) (T : Store) (X : Addr → Loc → Store → Prop) (e : Value) (s' : Shared) : Prop :=
  ∃ ea C m' T', e = .ref ea ∧ ExcObj s.heap s'.heap ea C ∧ OkF w b0 c m' T' s'.heap ∧ Stp (FLs c.fl) (c.C :: fps T) (fps T') s s' ∧ X C m' T'
/-- from every state as m and T say, t ends as Q or X say -/
structure W {α β : Type} (P : Heap → Prop) (R : Heap → α → β → Prop) (t : Sem α) (m : Loc) (T : Store) (Q : β → Loc → Store → Prop) (X : Addr → Loc → Store → Prop) : Prop where
  run : ∀ s, OkF w b0 c m T s.heap → P s.heap → wpAny (model pr w) c.A t (Res w b0 c R s T Q) (Exc w b0 c s T X) s
end
noncomputable abbrev Tru : Heap → Prop := fun _ => True
noncomputable abbrev REq {α : Type} : Heap → α → α → Prop := fun _ a b => a = b
inductive FA where
  | next | brk | cont
  | ret (v : AV)
inductive RFl (h : Heap) : Flow → FA → Prop
  | next : RFl h .next .next
  | brk : RFl h .brk .brk
  | cont : RFl h .cont .cont
  | ret {v x} : RV h v x → RFl h (.ret v) (.ret x)

section
variable {w : World} {b0 : Heap} {c : Cx} {m m₁ : Loc} {T T₁ T₂ : Store} {s s₁ s₂ : Shared}
theorem OkH.keepI' {fl : List Env} {h h' : Heap} (O : OkH w b0 fl T h) {F : List Addr} (hF : ∀ x ∈ F, ∃ ob, h.get? x = some ob ∧ ¬ Imm ob) (e : Ext (FLs fl) F h h') : KeepI h h' := by
  intro b o hb hi
  have n1 : b ∉ F := fun q => by
    obtain ⟨ob, h1, h2⟩ := hF b q
    rw [hb] at h1; cases h1; exact h2 hi
  have n2 : b ∉ FLs fl := fun q => by
    obtain ⟨o', es, ep, h1, h2⟩ := O.fdict b q
    rw [hb] at h1; cases h1
    unfold Imm at hi; rw [h2] at hi; exact hi
  exact (e b o hb n1).1 n2
theorem OkF.keepI {h h' : Heap} (O : OkF w b0 c m T h) (e : Ext (FLs c.fl) (c.C :: fps T) h h') : KeepI h h' :=
  O.1.keepI' (fun x hx => (List.mem_cons.mp hx).elim (fun q => by
    obtain ⟨_, _, mm, ⟨o, es, ep, h1, h2, _⟩, _⟩ := O
    exact ⟨o, q ▸ h1, by unfold Imm; rw [h2]; exact fun e => e⟩) fun q => O.1.at q) e
theorem Stp.more {fl : List Addr} {L : Addr} (x : Stp fl (L :: fps T) (fps T₁) s s₁) (y : Stp fl (L :: fps T₁) (fps T₂) s₁ s₂) : Stp fl (L :: fps T) (fps T₂) s s₂ :=
  x.trans y fun a ha => (List.mem_cons.mp ha).elim (fun e => .inl (e ▸ .head _)) .inr
theorem Stp.none {fl F F' : List Addr} (x : Stp fl F F' s s₁) {a : Addr} (h : s₁.heap.get? a = none) : s.heap.get? a = none := by
  cases e : s.heap.get? a with
  | none => rfl
  | some o => obtain ⟨o', h'⟩ := x.alive a o e; rw [h] at h'; cases h'
theorem Res.elim {α β : Type} {R : Heap → α → β → Prop} {Q : β → Loc → Store → Prop} {v : α} {g : Prop} (y : Res w b0 c R s T Q v s₁) (k : ∀ b m' T', R s₁.heap v b → OkF w b0 c m' T' s₁.heap → Stp (FLs c.fl) (c.C :: fps T) (fps T') s s₁ → Q b m' T' → g) : g := by
  obtain ⟨b, m', T', h1, h2, h3, h4⟩ := y
  exact k b m' T' h1 h2 h3 h4
@[elab_as_elim] theorem Exc.elim {X : Addr → Loc → Store → Prop} {e : Value} {g : Value → Prop} (y : Exc w b0 c s T X e s₁) (k : ∀ ea C m' T', ExcObj s.heap s₁.heap ea C → OkF w b0 c m' T' s₁.heap → Stp (FLs c.fl) (c.C :: fps T) (fps T') s s₁ → X C m' T' → g (.ref ea)) : g e := by
  obtain ⟨ea, C, m', T', rfl, h2, h3, h4, h5⟩ := y
  exact k ea C m' T' h2 h3 h4 h5
theorem ExcObj.mono {h0 h1 h : Heap} {ea C : Addr} (n : ∀ a, h1.get? a = none → h0.get? a = none) (y : ExcObj h1 h ea C) : ExcObj h0 h ea C := by
  obtain ⟨oe, vs, h1, h2, h3, h4, h5⟩ := y
  exact ⟨oe, vs, h1, h2, h3, n _ h4, h5.imp id fun zz => by obtain ⟨Tb, oT, ts, q, a1, a2, a3, a4⟩ := zz; exact ⟨Tb, oT, ts, q, a1, a2, n _ a3, a4⟩⟩
theorem ExcObj.back {fl F F' : List Addr} {h : Heap} {ea C : Addr} (x : Stp fl F F' s s₁) (y : ExcObj s₁.heap h ea C) : ExcObj s.heap h ea C := by
  exact y.mono fun _ => x.none
section
variable {α β γ δ : Type} {P P' : Heap → Prop} {R : Heap → α → β → Prop} {R₂ : Heap → γ → δ → Prop} {t : Sem α} {f : α → Sem γ} {Q Q' : β → Loc → Store → Prop} {Q₂ : δ → Loc → Store → Prop} {X X' : Addr → Loc → Store → Prop}
theorem Res.back {v : γ} (x : Stp (FLs c.fl) (c.C :: fps T) (fps T₁) s s₁) (y : Res w b0 c R₂ s₁ T₁ Q₂ v s₂) : Res w b0 c R₂ s T Q₂ v s₂ := by
  exact Res.elim y fun b m' T' h1 h2 h3 h4 => ⟨b, m', T', h1, h2, x.more h3, h4⟩
theorem Exc.back {e : Value} (x : Stp (FLs c.fl) (c.C :: fps T) (fps T₁) s s₁) (y : Exc w b0 c s₁ T₁ X e s₂) : Exc w b0 c s T X e s₂ := by
  exact Exc.elim y fun ea C m' T' h2 h3 h4 h5 => ⟨ea, C, m', T', rfl, h2.back x, h3, x.more h4, h5⟩
theorem W.mono (h : W w b0 c P R t m T Q X) (hQ : ∀ b m' T', Q b m' T' → Q' b m' T') (hX : ∀ b m' T', X b m' T' → X' b m' T' := by intros; assumption) : W w b0 c P R t m T Q' X' := ⟨fun s O p =>
  wpAny_mono (h.run s O p) (fun _ _ zz => Res.elim zz fun b m' T' h1 h2 h3 h4 => ⟨b, m', T', h1, h2, h3, hQ _ _ _ h4⟩) fun _ _ zz => Exc.elim zz fun ea C m' T' h2 h3 h4 h5 => ⟨ea, C, m', T', rfl, h2, h3, h4, hX _ _ _ h5⟩⟩
theorem W.pre (h : W w b0 c P R t m T Q X) (hP : ∀ h, P' h → P h) : W w b0 c P' R t m T Q X := ⟨fun s O p => h.run s O (hP _ p)⟩
/-- one step behind another -/
theorem W.then {g : α → Shared → Prop} (h : W w b0 c P R t m T Q' X) (s : Shared) (O : OkF w b0 c m T s.heap) (p : P s.heap)
    (k : ∀ v b m₁ T₁ s₁, R s₁.heap v b → OkF w b0 c m₁ T₁ s₁.heap → KeepI s.heap s₁.heap → Stp (FLs c.fl) (c.C :: fps T) (fps T₁) s s₁ → Q' b m₁ T₁ → g v s₁) : wpAny (model pr w) c.A t g (Exc w b0 c s T X) s :=
  wpAny_mono (h.run s O p) (fun v s₁ zz => Res.elim zz fun b m' T' h1 h2 h3 h4 => k v b m' T' s₁ h1 h2 (O.keepI h3.ext) h3 h4) fun _ _ e => e
/-- what a step behind another says, said of the first's state -/
theorem wp_back {g : γ → Shared → Prop} {t : Sem γ} (x : Stp (FLs c.fl) (c.C :: fps T) (fps T₁) s s₁) (h : wpAny (model pr w) c.A t (fun v s₂ => g v s₂) (Exc w b0 c s₁ T₁ X) s₁) :
    wpAny (model pr w) c.A t g (Exc w b0 c s T X) s₁ := wpAny_mono h (fun _ _ e => e) fun _ _ e => e.back x
theorem wp_res {t : Sem γ} (x : Stp (FLs c.fl) (c.C :: fps T) (fps T₁) s s₁) (h : wpAny (model pr w) c.A t (Res w b0 c R₂ s₁ T₁ Q₂) (Exc w b0 c s₁ T₁ X) s₁) :
    wpAny (model pr w) c.A t (Res w b0 c R₂ s T Q₂) (Exc w b0 c s T X) s₁ := wpAny_mono h (fun _ _ e => e.back x) fun _ _ e => e.back x
theorem W.bind (h : W w b0 c P R t m T (fun b m₁ T₁ => ∀ v, W w b0 c (fun h => R h v b) R₂ (f v) m₁ T₁ Q₂ X) X) : W w b0 c P R₂ (t >>= f) m T Q₂ X := ⟨fun s O p =>
  wpAny_bind (h.then s O p fun v b m₁ T₁ s₁ r O₁ _ x q => wp_res x ((q v).run s₁ O₁ r))⟩
/-- nothing was changed but tokens -/
theorem res_here {v : α} {b : β} (O : OkF w b0 c m T s.heap) (hr : R s.heap v b) (hq : Q b m T) (tk : Nat) : Res w b0 c R s T Q v { s with toks := tk } :=
  ⟨b, m, T, hr, O, ⟨fun _ o e _ => ⟨fun _ => e, o.slots, e⟩, fun _ o e => ⟨o, e⟩, fun x hx => .inl (.tail _ hx), rfl, rfl, rfl⟩, hq⟩
theorem res_same {v : α} {b : β} (O : OkF w b0 c m T s.heap) (hr : R s.heap v b) (hq : Q b m T) : Res w b0 c R s T Q v s := res_here (s := s) O hr hq s.toks
theorem W.pure {v : α} {b : β} (hr : ∀ h, P h → R h v b) (hq : Q b m T) : W w b0 c P R (Pure.pure v) m T Q X := ⟨fun _ O p => wpAny_pure (res_same O (hr _ p) hq)⟩
end
end
end
section
noncomputable def Small (a : Int) : Prop := a.natAbs < 2 ^ 2000
theorem bits_small {a : Int} (h : Small a) : Builtin.Int.intBits a ≤ 2000 := by
  unfold Builtin.Int.intBits
  split
  · omega
  · rename_i q
    have hn : a.natAbs ≠ 0 := by simpa using q
    have := (Nat.log2_lt hn).mpr h
    omega
theorem mulOk {a b : Int} (ha : Small a) (hb : Small b) : IntMulOk a b := by
  unfold IntMulOk
  intro h
  simp only [Bool.and_eq_true] at h
  have h3 := h.2
  have := bits_small ha
  have := bits_small hb
  unfold Builtin.Int.intTooBig at h3
  have := of_decide_eq_true h3
  have hb : bitsLine = 134217728 := by decide
  omega
theorem divOk {a b : Int} (hb : Small b) : Builtin.divisionGoesByPylong a b = false := by
  unfold Builtin.divisionGoesByPylong
  have h : (if (b == 0) = true then 0 else b.natAbs.log2 / 30 + 1) ≤ 300 := by
    split
    · omega
    · rename_i q
      have hn : b.natAbs ≠ 0 := by simpa using q
      have := (Nat.log2_lt hn).mpr hb
      omega
  dsimp only
  rw [decide_eq_false (Nat.not_lt.mpr h)]
  rfl

section
variable {w : World} {b0 : Heap} {c : Cx} {m m₁ : Loc} {T T₁ T₂ : Store} {s s₁ s₂ : Shared} {Q : AV → Loc → Store → Prop} {X : Addr → Loc → Store → Prop}
/-- an expression -/
noncomputable abbrev WE (w : World) (b0 : Heap) (c : Cx) (x : Expr) := W w b0 c Tru RV (eval x c.env)
/-- a test -/
noncomputable abbrev WT (w : World) (b0 : Heap) (c : Cx) (x : Expr) := W w b0 c Tru (REq (α := Bool)) (isTrue x c.env (eval x c.env))
noncomputable def BinQ (w : World) (b0 : Heap) (c : Cx) (op : Operator) (a b : AV) (m : Loc) (T : Store) (Q : AV → Loc → Store → Prop) (X : Addr → Loc → Store → Prop) : Prop :=
  ∀ va vb, W w b0 c (fun h => RV h va a ∧ RV h vb b) RV (binaryOp op va vb) m T Q X
noncomputable def CmpQ (w : World) (b0 : Heap) (c : Cx) (op : CmpOp) (a b : AV) (m : Loc) (T : Store) (Q : AV → Loc → Store → Prop) (X : Addr → Loc → Store → Prop) : Prop :=
  ∀ va vb, W w b0 c (fun h => RV h va a ∧ RV h vb b) RV (compareOp op va vb) m T Q X
noncomputable def UnQ (w : World) (b0 : Heap) (c : Cx) (op : UnaryOp) (a : AV) (m : Loc) (T : Store) (Q : AV → Loc → Store → Prop) (X : Addr → Loc → Store → Prop) : Prop :=
  ∀ va, W w b0 c (fun h => RV h va a) RV (unaryOp op va) m T Q X
noncomputable def TruQ (w : World) (b0 : Heap) (c : Cx) (a : AV) (m : Loc) (T : Store) (Q : Bool → Loc → Store → Prop) (X : Addr → Loc → Store → Prop) : Prop :=
  ∀ va, W w b0 c (fun h => RV h va a) (REq (α := Bool)) (truthy va) m T Q X

section
variable (w : World) (b0 : Heap) (c : Cx) (X : Addr → Loc → Store → Prop)
noncomputable abbrev KB2 (op : Operator) (Q : AV → Loc → Store → Prop) (a : AV) : AV → Loc → Store → Prop := fun b m T => BinQ w b0 c op a b m T Q X
noncomputable abbrev KB1 (op : Operator) (Q : AV → Loc → Store → Prop) (r : Expr) : AV → Loc → Store → Prop := fun a m T => WE w b0 c r m T (KB2 w b0 c X op Q a) X
noncomputable abbrev KC2 (op : CmpOp) (Q : AV → Loc → Store → Prop) (a : AV) : AV → Loc → Store → Prop := fun b m T => CmpQ w b0 c op a b m T Q X
noncomputable abbrev KC1 (op : CmpOp) (Q : AV → Loc → Store → Prop) (r : Expr) : AV → Loc → Store → Prop := fun a m T => WE w b0 c r m T (KC2 w b0 c X op Q a) X
noncomputable abbrev KU (op : UnaryOp) (Q : AV → Loc → Store → Prop) : AV → Loc → Store → Prop := fun a m T => UnQ w b0 c op a m T Q X
noncomputable abbrev KIf (Q : AV → Loc → Store → Prop) (x y : Expr) : Bool → Loc → Store → Prop := fun b m T => (b = true → WE w b0 c x m T Q X) ∧ (b = false → WE w b0 c y m T Q X)
noncomputable abbrev KAn (Q : AV → Loc → Store → Prop) (e : Expr) (a : AV) : Bool → Loc → Store → Prop := fun b m T => (b = true → WE w b0 c e m T Q X) ∧ (b = false → Q a m T)
noncomputable abbrev KAn1 (Q : AV → Loc → Store → Prop) (e : Expr) : AV → Loc → Store → Prop := fun a m T => TruQ w b0 c a m T (KAn w b0 c X Q e a) X
noncomputable abbrev KOr (Q : AV → Loc → Store → Prop) (e : Expr) (a : AV) : Bool → Loc → Store → Prop := fun b m T => (b = false → WE w b0 c e m T Q X) ∧ (b = true → Q a m T)
noncomputable abbrev KOr1 (Q : AV → Loc → Store → Prop) (e : Expr) : AV → Loc → Store → Prop := fun a m T => TruQ w b0 c a m T (KOr w b0 c X Q e a) X
noncomputable abbrev KTA (Qb : Bool → Loc → Store → Prop) (e : Expr) : Bool → Loc → Store → Prop := fun b m T => (b = true → WT w b0 c e m T Qb X) ∧ (b = false → Qb false m T)
noncomputable abbrev KTO (Qb : Bool → Loc → Store → Prop) (e : Expr) : Bool → Loc → Store → Prop := fun b m T => (b = false → WT w b0 c e m T Qb X) ∧ (b = true → Qb true m T)
noncomputable abbrev KTI (Qb : Bool → Loc → Store → Prop) (x y : Expr) : Bool → Loc → Store → Prop := fun b m T => (b = true → WT w b0 c x m T Qb X) ∧ (b = false → WT w b0 c y m T Qb X)
noncomputable abbrev KTr (Qb : Bool → Loc → Store → Prop) : AV → Loc → Store → Prop := fun a m T => TruQ w b0 c a m T Qb X
noncomputable abbrev KTb (Qb : Bool → Loc → Store → Prop) : AV → Loc → Store → Prop := fun d m T => ∃ e, d = .bool e ∧ Qb e m T
noncomputable abbrev KNo (Qb : Bool → Loc → Store → Prop) : Bool → Loc → Store → Prop := fun b m T => Qb (!b) m T
noncomputable abbrev KCh3 (Qb : Bool → Loc → Store → Prop) (o₂ : CmpOp) (r₂ : Expr) (b : AV) : AV → Loc → Store → Prop := fun d m T => ∃ e, d = .bool e ∧ (e = false → Qb false m T) ∧ (e = true → WE w b0 c r₂ m T (KC2 w b0 c X o₂ (KTb Qb) b) X)
noncomputable abbrev KCh2 (Qb : Bool → Loc → Store → Prop) (o₁ o₂ : CmpOp) (r₂ : Expr) (a : AV) : AV → Loc → Store → Prop := fun b m T => CmpQ w b0 c o₁ a b m T (KCh3 w b0 c X Qb o₂ r₂ b) X
noncomputable abbrev KCh1 (Qb : Bool → Loc → Store → Prop) (o₁ o₂ : CmpOp) (r₁ r₂ : Expr) : AV → Loc → Store → Prop := fun a m T => WE w b0 c r₁ m T (KCh2 w b0 c X Qb o₁ o₂ r₂ a) X
end
/- what is written -/
theorem e_int {i : Int} {k : Nat} {pos : Pos} (h : Q (.int i) m T) : WE w b0 c (.Constant (.int i) k pos) m T Q X := ⟨fun s O _ => wpAny_Constant_int (res_here O (.int _ _) h _)⟩

theorem e_str {x : Str} {k : Nat} {pos : Pos} (h : Q (.str x) m T) : WE w b0 c (.Constant (.str x) k pos) m T Q X := ⟨fun s O _ => Constant_str (res_here O (.str _ _) h _)⟩

theorem e_none {k : Nat} {pos : Pos} (h : Q .none m T) : WE w b0 c (.Constant .none k pos) m T Q X := ⟨fun s O _ => Constant_none (res_same O .none h)⟩

theorem e_bool {b : Bool} {k : Nat} {pos : Pos} (h : Q (.bool b) m T) : WE w b0 c (.Constant (.bool b) k pos) m T Q X := ⟨fun s O _ => Constant_bool (res_same O (.bool b) h)⟩

/- names -/
theorem e_local {x : Str} {pos : Pos} {a : AV} (hm : (x, a) ∈ m) (hk : c.env.scope.kind = .function) (hx : c.env.kindOf x = some .local) (h : Q a m T)
    (hd : (x == ("__debug__" : Str)) = false := by decide) : WE w b0 c (.Name x pos) m T Q X := ⟨fun s O _ => by
  obtain ⟨_, mm, hn, hl⟩ := O.2
  obtain ⟨v, hv, hr⟩ := hl _ hm
  exact wpAny_Name (wpAny_loadName_local hk hx (c.locals ▸ hn) hv (res_same O hr h)) hd⟩

theorem Gd.mg (G : Gd w b0) {x : Str} {v : Value} (e : nsIn (KK w) mainGlobals x = some (some v)) : ∃ mg, b0.Ns mainGlobals mg ∧ mg x = some v := by
  obtain ⟨_, _, mean, mg, mb, T⟩ := G.T
  exact ⟨mg, T.g, mg_of G.K T.g e⟩
theorem e_global {x : Str} {pos : Pos} {v : Value} {a : AV} (G : Gd w b0) (e : nsIn (hd.heap_39 w.params) mainGlobals x = some (some v)) (hr : ∀ h, (KK w).In h → RV h v a) (h : Q a m T)
    (hk : c.env.scope.kind = .function) (hx : c.env.kindOf x = some .globalImplicit) (hd : (x == ("__debug__" : Str)) = false := by decide) : WE w b0 c (.Name x pos) m T Q X := ⟨fun s O _ => by
  obtain ⟨mg, hg, hv⟩ := G.mg e
  exact Name_function_global hk hx (loadGlobal_global (env := c.env) (c.globals ▸ hg.keeps O.1.stay) hv (res_same O (hr _ (G.K.keeps O.1.stay)) h)) hd⟩

theorem e_builtin {x : Str} {pos : Pos} {v : Value} (G : Gd w b0) (e : nsIn (hd.heap_39 w.params) mainGlobals x = some none) (hv : bootBuiltins x = some v) (hn : x ≠ "__name__") (h : Q (.raw v) m T)
    (hk : c.env.scope.kind = .function) (hx : c.env.kindOf x = some .globalImplicit) (hd : (x == ("__debug__" : Str)) = false := by decide) : WE w b0 c (.Name x pos) m T Q X := ⟨fun s O _ => by
  obtain ⟨_, _, mean, mg, mb, TT⟩ := G.T
  exact Name_function_global hk hx (loadGlobal_builtin (env := c.env) (c.globals ▸ TT.g.keeps O.1.stay) (mg_none_of G.K TT.g e) (c.builtins ▸ TT.b.keeps O.1.stay) ((TT.builtins x hn).trans hv) (res_same O (.raw v) h)) hd⟩

/- two-place -/
theorem e_bin {l r : Expr} {op : Operator} {pos : Pos} (h : WE w b0 c l m T (KB1 w b0 c X op Q r) X) : WE w b0 c (.BinOp l op r pos) m T Q X := ⟨fun s O _ =>
  wpAny_BinOp (h.then s O trivial fun va a m₁ T₁ s₁ ra O₁ _ x₁ hr => wp_back x₁ (W.then hr s₁ O₁ trivial fun vb b m₂ T₂ s₂ rb O₂ k₂ x₂ hq => wpAny_mono ((hq va vb).run s₂ O₂ ⟨ra.keepI k₂, rb⟩) (fun _ _ e => e.back (x₁.more x₂)) fun _ _ e => e.back (x₁.more x₂)))⟩

theorem e_cmp {l r : Expr} {op : CmpOp} {pos : Pos} (h : WE w b0 c l m T (KC1 w b0 c X op Q r) X)
    (hm : behindInMarks op r = false := by with_unfolding_all rfl) : WE w b0 c (.Compare l [op] [r] pos) m T Q X := ⟨fun s O _ =>
  wpAny_Compare1 (h.then s O trivial fun va a m₁ T₁ s₁ ra O₁ _ x₁ hr => wp_back x₁ (W.then hr s₁ O₁ trivial fun vb b m₂ T₂ s₂ rb O₂ k₂ x₂ hq => wpAny_mono ((hq va vb).run s₂ O₂ ⟨ra.keepI k₂, rb⟩) (fun _ _ e => e.back (x₁.more x₂)) fun _ _ e => e.back (x₁.more x₂))) hm⟩

theorem e_un {x : Expr} {op : UnaryOp} {pos : Pos} (h : WE w b0 c x m T (KU w b0 c X op Q) X) : WE w b0 c (.UnaryOp op x pos) m T Q X := ⟨fun s O _ =>
  UnaryOp_ (h.then s O trivial fun va a m₁ T₁ s₁ ra O₁ _ x₁ hq => wp_res x₁ ((hq va).run s₁ O₁ ra))⟩

theorem e_if {t x y : Expr} {pos : Pos} (h : WT w b0 c t m T (KIf w b0 c X Q x y) X) : WE w b0 c (.IfExp t x y pos) m T Q X := ⟨fun s O _ =>
  IfExp_ (h.then s O trivial fun va a m₁ T₁ s₁ ra O₁ _ x₁ hq => by
    subst ra
    cases va with
    | true => exact wp_res x₁ ((hq.1 rfl).run s₁ O₁ trivial)
    | false => exact wp_res x₁ ((hq.2 rfl).run s₁ O₁ trivial))⟩

theorem e_and {x y : Expr} {r : List Expr} {pos : Pos} (h : WE w b0 c x m T (KAn1 w b0 c X Q (.BoolOp .And (y :: r) pos)) X) :
    WE w b0 c (.BoolOp .And (x :: y :: r) pos) m T Q X := ⟨fun s O _ =>
  BoolOp_and (h.then s O trivial fun va a m₁ T₁ s₁ ra O₁ _ x₁ hq => wp_back x₁ (W.then (hq va) s₁ O₁ ra fun vb b m₂ T₂ s₂ rb O₂ k₂ x₂ hq => by
    subst rb
    cases vb with
    | true => exact wpAny_mono ((hq.1 rfl).run s₂ O₂ trivial) (fun _ _ e => e.back (x₁.more x₂)) fun _ _ e => e.back (x₁.more x₂)
    | false => exact (res_same O₂ (ra.keepI k₂) (hq.2 rfl)).back (x₁.more x₂)))⟩

theorem e_or {x y : Expr} {r : List Expr} {pos : Pos} (h : WE w b0 c x m T (KOr1 w b0 c X Q (.BoolOp .Or (y :: r) pos)) X) :
    WE w b0 c (.BoolOp .Or (x :: y :: r) pos) m T Q X := ⟨fun s O _ =>
  BoolOp_or (h.then s O trivial fun va a m₁ T₁ s₁ ra O₁ _ x₁ hq => wp_back x₁ (W.then (hq va) s₁ O₁ ra fun vb b m₂ T₂ s₂ rb O₂ k₂ x₂ hq => by
    subst rb
    cases vb with
    | false => exact wpAny_mono ((hq.1 rfl).run s₂ O₂ trivial) (fun _ _ e => e.back (x₁.more x₂)) fun _ _ e => e.back (x₁.more x₂)
    | true => exact (res_same O₂ (ra.keepI k₂) (hq.2 rfl)).back (x₁.more x₂)))⟩

theorem e_one {x : Expr} {op : BoolOp} {pos : Pos} (h : WE w b0 c x m T Q X) : WE w b0 c (.BoolOp op [x] pos) m T Q X := ⟨fun s O p => BoolOp_one (h.run s O p)⟩

section
variable {Qb : Bool → Loc → Store → Prop}
/- tests -/
theorem t_cmp {l r : Expr} {op : CmpOp} {pos : Pos} (h : WE w b0 c l m T (KC1 w b0 c X op (KTb Qb) r) X)
    (hm : behindInMarks op r = false := by with_unfolding_all rfl) : WT w b0 c (.Compare l [op] [r] pos) m T Qb X := ⟨fun s O _ =>
  wpAny_isTrue_Compare1 (h.then s O trivial fun va a m₁ T₁ s₁ ra O₁ _ x₁ hr => wp_back x₁ (W.then hr s₁ O₁ trivial fun vb b m₂ T₂ s₂ rb O₂ k₂ x₂ hq => wp_back (x₁.more x₂) (W.then (hq va vb) s₂ O₂ ⟨ra.keepI k₂, rb⟩ fun vd d m₃ T₃ s₃ rd O₃ k₃ x₃ hd => by
    obtain ⟨e, rfl, hd⟩ := hd
    refine rd.E ?_; intro _
    exact wpAny_truthy_bool ((res_same O₃ rfl hd).back ((x₁.more x₂).more x₃))))) hm⟩

theorem t_not {x : Expr} {pos : Pos} (h : WT w b0 c x m T (KNo Qb) X) : WT w b0 c (.UnaryOp .Not x pos) m T Qb X := ⟨fun s O p =>
  isTrue_not (wpAny_mono (h.run s O p) (fun v s' zz => Res.elim zz fun b m' T' h1 h2 h3 h4 => by subst h1; exact ⟨_, m', T', rfl, h2, h3, h4⟩) fun _ _ e => e)⟩

theorem t_and {x : Expr} {r : List Expr} {pos : Pos} (h : WT w b0 c x m T (KTA w b0 c X Qb (.BoolOp .And r pos)) X) : WT w b0 c (.BoolOp .And (x :: r) pos) m T Qb X := ⟨fun s O p =>
  isTrue_and (h.then s O trivial fun va a m₁ T₁ s₁ ra O₁ _ x₁ hq => by
    subst ra
    cases va with
    | true => exact wp_res x₁ ((hq.1 rfl).run s₁ O₁ trivial)
    | false => exact (res_same O₁ rfl (hq.2 rfl)).back x₁)⟩

theorem t_or {x : Expr} {r : List Expr} {pos : Pos} (h : WT w b0 c x m T (KTO w b0 c X Qb (.BoolOp .Or r pos)) X) : WT w b0 c (.BoolOp .Or (x :: r) pos) m T Qb X := ⟨fun s O p =>
  isTrue_or (h.then s O trivial fun va a m₁ T₁ s₁ ra O₁ _ x₁ hq => by
    subst ra
    cases va with
    | false => exact wp_res x₁ ((hq.1 rfl).run s₁ O₁ trivial)
    | true => exact (res_same O₁ rfl (hq.2 rfl)).back x₁)⟩

theorem t_and0 {pos : Pos} (h : Qb true m T) : WT w b0 c (.BoolOp .And [] pos) m T Qb X := ⟨fun s O _ => isTrue_and_nil (res_same O rfl h)⟩

theorem t_or0 {pos : Pos} (h : Qb false m T) : WT w b0 c (.BoolOp .Or [] pos) m T Qb X := ⟨fun s O _ => isTrue_or_nil (res_same O rfl h)⟩

theorem t_plain {x : Expr} (h : WE w b0 c x m T (KTr w b0 c X Qb) X)
    (he : isTrue x c.env (eval x c.env) = (do let v ← eval x c.env; standAt x.pos; holding [v] (truthy v)) := by rfl) : WT w b0 c x m T Qb X := ⟨fun s O _ =>
  isTrue_plain (h.then s O trivial fun va a m₁ T₁ s₁ ra O₁ _ x₁ hq => wp_res x₁ ((hq va).run s₁ O₁ ra)) he⟩

theorem t_chain2 {l r₁ r₂ : Expr} {o₁ o₂ : CmpOp} {pos : Pos} (h : WE w b0 c l m T (KCh1 w b0 c X Qb o₁ o₂ r₁ r₂) X)
    (hm : lastMarks [o₁, o₂] [r₁, r₂] = false := by with_unfolding_all rfl) : WT w b0 c (.Compare l [o₁, o₂] [r₁, r₂] pos) m T Qb X := ⟨fun s O _ =>
  isTrue_chain (h.then s O trivial fun va a m₁ T₁ s₁ ra O₁ _ x₁ hr => wp_back x₁ (test_link (W.then hr s₁ O₁ trivial fun vb b m₂ T₂ s₂ rb O₂ k₂ x₂ hq => wp_back x₂ (W.then (hq va vb) s₂ O₂ ⟨ra.keepI k₂, rb⟩ fun vd d m₃ T₃ s₃ rd O₃ k₃ x₃ hd => by
    obtain ⟨e, rfl, hf, ht⟩ := hd
    refine rd.E ?_; intro _
    refine wpAny_truthy_bool ?_
    cases e with
    | false => exact (res_same O₃ rfl (hf rfl)).back ((x₁.more x₂).more x₃)
    | true =>
      refine wp_back (x₂.more x₃) (test_last (W.then (ht rfl) s₃ O₃ trivial fun vf f m₄ T₄ s₄ rf₄ O₄ k₄ x₄ hq => wp_back x₄ (W.then (hq vb vf) s₄ O₄ ⟨(rb.keepI k₃).keepI k₄, rf₄⟩ fun vd d m₅ T₅ s₅ rd O₅ k₅ x₅ hd => ?_)))
      obtain ⟨e, rfl, hd⟩ := hd
      refine rd.E ?_; intro _
      exact wpAny_truthy_bool ((res_same O₅ rfl hd).back ((((x₁.more x₂).more x₃).more x₄).more x₅)))))) hm⟩

end
end
end
section
noncomputable def Grow (h h' : Heap) : Prop := ∀ b o, h.get? b = some o → h'.get? b = some o
theorem Grow.refl (h : Heap) : Grow h h := fun _ _ e => e
theorem Grow.push (h : Heap) (o : Obj) : Grow h (h.push o) := fun _ _ e => Heap.get?_push_of_some o e
theorem Grow.trans {h₁ h₂ h₃ : Heap} (x : Grow h₁ h₂) (y : Grow h₂ h₃) : Grow h₁ h₃ := fun b o e => y b o (x b o e)
theorem Grow.keepI {h h' : Heap} (x : Grow h h') : KeepI h h' := fun b o e _ => x b o e
theorem Ext.ofGrow {fl F : List Addr} {h h' : Heap} (x : Grow h h') : Ext fl F h h' := fun b o e _ => ⟨fun _ => x b o e, o.slots, x b o e⟩
/-- one object of the store turned into another of the same place -/
inductive TU (a : Addr) (o o' : AO) : Store → Store → Prop
  | head {r} : TU a o o' ((a, o) :: r) ((a, o') :: r)
  | tail {p r r'} : TU a o o' r r' → TU a o o' (p :: r) (p :: r')
theorem TU.split {a : Addr} {o o' : AO} {T T' : Store} (h : TU a o o' T T') : ∃ x y, T = x ++ (a, o) :: y ∧ T' = x ++ (a, o') :: y := by
  induction h with
  | head => exact ⟨[], _, rfl, rfl⟩
  | tail _ ih => obtain ⟨x, y, rfl, rfl⟩ := ih; exact ⟨_ :: x, y, rfl, rfl⟩
theorem TU.mem {a : Addr} {o o' : AO} {T T' : Store} (h : TU a o o' T T') : (a, o) ∈ T := by
  obtain ⟨x, y, rfl, rfl⟩ := h.split
  exact List.mem_append_right _ (.head _)
theorem fps_cons (p : Addr × AO) (T : Store) : fps (p :: T) = fp p ++ fps T := rfl
theorem fps_append (T T' : Store) : fps (T ++ T') = fps T ++ fps T' := List.flatMap_append
section
variable {w : World} {b0 : Heap} {fl : List Env} {c : Cx} {m : Loc} {T T' : Store} {h h' : Heap} {s : Shared} {a : Addr} {o o' : AO}
theorem FunFrames.grow {l : List Env} (x : h.FunFrames b0 l) (g : Grow h h') : h'.FunFrames b0 l := x.of_keeps fun b o e _ => ⟨o, g b o e, rfl⟩
theorem OkH.grow (O : OkH w b0 fl T h) (g : Grow h h') : OkH w b0 fl T h' :=
  ⟨fun b o e => g b o (O.stay b o e), FunFrames.grow O.frames g, fun x hx => let ⟨o, es, ep, h1, h2⟩ := O.fdict x hx; ⟨o, es, ep, g _ _ h1, h2⟩,
    fun p hp => (O.rep p hp).keep g.keepI fun x _ ob e => g x ob e, O.nodup, O.fresh, O.off⟩
theorem OkF.grow (O : OkF w b0 c m T h) (g : Grow h h') : OkF w b0 c m T h' := by
  obtain ⟨H, hC, mm, hn, hl⟩ := O
  exact ⟨H.grow g, hC, mm, hn.keeps g, fun p hp => let ⟨v, a, b⟩ := hl p hp; ⟨v, a, b.keepI g.keepI⟩⟩
theorem OkH.add (O : OkH w b0 fl T h) (r : RO w h a o) (nd : (fp (a, o)).Nodup) (f : ∀ x ∈ fp (a, o), b0.get? x = none ∧ x ∉ FLs fl ∧ x ∉ fps T) : OkH w b0 fl ((a, o) :: T) h := by
  refine ⟨O.stay, O.frames, O.fdict, fun p hp => ?_, ?_, fun x hx => ?_, fun x hx => ?_⟩
  · rcases List.mem_cons.mp hp with rfl | hp
    · exact r
    · exact O.rep p hp
  · rw [fps_cons]
    exact List.nodup_append.mpr ⟨nd, O.nodup, fun x hx y hy e => (f x hx).2.2 (e ▸ hy)⟩
  · rw [fps_cons] at hx
    exact (List.mem_append.mp hx).elim (fun q => (f x q).1) (O.fresh x)
  · rw [fps_cons] at hx
    exact (List.mem_append.mp hx).elim (fun q => (f x q).2.1) (O.off x)
theorem OkF.add (O : OkF w b0 c m T h) (r : RO w h a o) (nd : (fp (a, o)).Nodup) (f : ∀ x ∈ fp (a, o), b0.get? x = none ∧ x ∉ FLs c.fl ∧ x ∉ fps T) (hC : c.C ∉ fp (a, o)) : OkF w b0 c m ((a, o) :: T) h :=
  ⟨O.1.add r nd f, ⟨fun q => by
    rw [fps_cons] at q
    exact (List.mem_append.mp q).elim hC O.2.1.1, O.2.1.2⟩, O.2.2⟩
theorem TU.fps (U : TU a o o' T T') (e : fp (a, o') = fp (a, o)) : fps T' = fps T := by
  obtain ⟨x, y, rfl, rfl⟩ := U.split
  rw [fps_append, fps_append, fps_cons, fps_cons, e]
theorem OkF.Cat (O : OkF w b0 c m T h) : ∃ o es ep, h.get? c.C = some o ∧ o.data = .dict es ep := by
  obtain ⟨_, _, mm, ⟨o, es, ep, h1, h2, _⟩, _⟩ := O
  exact ⟨o, es, ep, h1, h2⟩
/-- what is new lies nowhere -/
theorem OkH.newAt (O : OkH w b0 fl T h) {x : Addr} (hx : h.get? x = none) : b0.get? x = none ∧ x ∉ FLs fl ∧ x ∉ fps T := by
  refine ⟨?_, fun q => ?_, fun q => ?_⟩
  · cases e : b0.get? x with
    | none => rfl
    | some o => have := O.stay x o e; rw [hx] at this; cases this
  · obtain ⟨o, es, ep, h1, _⟩ := O.fdict x q
    rw [hx] at h1; cases h1
  · obtain ⟨o, h1, _⟩ := O.at q
    rw [hx] at h1; cases h1
theorem noneAt (h : Heap) {x : Addr} (hx : h.objs.size ≤ x) : h.get? x = none := by
  cases e : h.get? x with
  | none => rfl
  | some o => exact absurd (Heap.lt_size e) (Nat.not_lt.mpr hx)
theorem stp_grow {F F' : List Addr} {s s' : Shared} {fl : List Addr} (g : Grow s.heap s'.heap) (hn : ∀ x ∈ F', x ∈ F ∨ s.heap.get? x = none) (h1 : s'.gens = s.gens := by rfl) (h2 : s'.drawn = s.drawn := by rfl) (h3 : s'.os = s.os := by rfl) :
    Stp fl F F' s s' := ⟨.ofGrow g, fun b o e => ⟨o, g b o e⟩, hn, h1, h2, h3⟩
theorem stp_add {s s' : Shared} {fl : List Addr} {L : Addr} (g : Grow s.heap s'.heap) (hf : ∀ x ∈ fp (a, o), s.heap.get? x = none) (h1 : s'.gens = s.gens := by rfl) (h2 : s'.drawn = s.drawn := by rfl) (h3 : s'.os = s.os := by rfl) :
    Stp fl (L :: fps T) (fps ((a, o) :: T)) s s' := stp_grow g (fun x hx => by
      rw [fps_cons] at hx
      exact (List.mem_append.mp hx).elim (fun q => .inr (hf x q)) fun q => .inl (.tail _ q)) h1 h2 h3
theorem stp_same {s s' : Shared} {fl : List Addr} {L : Addr} (g : Grow s.heap s'.heap) (h1 : s'.gens = s.gens := by rfl) (h2 : s'.drawn = s.drawn := by rfl) (h3 : s'.os = s.os := by rfl) :
    Stp fl (L :: fps T) (fps T) s s' := stp_grow g (fun x hx => .inl (.tail _ hx)) h1 h2 h3
theorem funFrames_at {h h' base : Heap} : ∀ {l : List Env}, h.FunFrames base l → (∀ x ∈ FLs l, ∀ o, h.get? x = some o → ∃ o', h'.get? x = some o' ∧ o'.data = o.data) → h'.FunFrames base l
  | [], _, _ => trivial
  | env :: l, zz, k => by
    obtain ⟨hk, ⟨L, o, hf, hn, ho, hd⟩, hr⟩ := zz
    obtain ⟨o', h1, h2⟩ := k L (List.mem_filterMap.mpr ⟨env, .head _, hf⟩) o ho
    exact ⟨hk, ⟨L, o', hf, hn, h1, fun vs => h2 ▸ hd vs⟩, funFrames_at hr fun x hx o ho => k x (by
      obtain ⟨e, he, hf⟩ := List.mem_filterMap.mp hx
      exact List.mem_filterMap.mpr ⟨e, .tail _ he, hf⟩) o ho⟩
theorem funFrames_at' {h h' base : Heap} : ∀ {l : List Env}, h.FunFrames base l → (∀ x ∈ FLs l, ∀ o, h.get? x = some o → (∀ vs, o.data ≠ .fields vs) → ∃ o', h'.get? x = some o' ∧ ∀ vs, o'.data ≠ .fields vs) → h'.FunFrames base l
  | [], _, _ => trivial
  | env :: l, zz, k => by
    obtain ⟨hk, ⟨L, o, hf, hn, ho, hd⟩, hr⟩ := zz
    obtain ⟨o', h1, h2⟩ := k L (List.mem_filterMap.mpr ⟨env, .head _, hf⟩) o ho hd
    exact ⟨hk, ⟨L, o', hf, hn, h1, h2⟩, funFrames_at' hr fun x hx o ho => k x (by
      obtain ⟨e, he, hf⟩ := List.mem_filterMap.mp hx
      exact List.mem_filterMap.mpr ⟨e, .tail _ he, hf⟩) o ho⟩
/-- one object turned -/
theorem OkH.turn (O : OkH w b0 fl T h) (U : TU a o o' T T') (k : ∀ b ob, b ∉ fp (a, o) → h.get? b = some ob → h'.get? b = some ob) (r : RO w h' a o') (e : fp (a, o') = fp (a, o)) : OkH w b0 fl T' h' ∧ KeepI h h' := by
  obtain ⟨x, y, rfl, rfl⟩ := U.split
  have ex : fps (x ++ (a, o') :: y) = fps (x ++ (a, o) :: y) := by rw [fps_append, fps_append, fps_cons, fps_cons, e]
  have sub : ∀ z ∈ fp (a, o), z ∈ fps (x ++ (a, o) :: y) := fun z hz => by rw [fps_append, fps_cons]; exact List.mem_append_right _ (List.mem_append_left _ hz)
  have ki : KeepI h h' := fun b ob hb hi => k b ob (fun q => by
    obtain ⟨ob', h1, h2⟩ := O.at (sub b q)
    rw [hb] at h1; cases h1; exact h2 hi) hb
  have nd := O.nodup
  rw [fps_append, fps_cons] at nd
  have d1 : ∀ z ∈ fps x, z ∉ fp (a, o) := fun z hz q => (List.nodup_append.mp nd).2.2 z hz z (List.mem_append_left _ q) rfl
  have d2 : ∀ z ∈ fps y, z ∉ fp (a, o) := fun z hz q => (List.nodup_append.mp (List.nodup_append.mp nd).2.1).2.2 z q z hz rfl
  refine ⟨⟨fun b ob hb => k b ob (fun q => ?_) (O.stay b ob hb), funFrames_at O.frames fun b hbF ob hb => ?_, fun z hz => ?_, fun p hp => ?_, ex ▸ O.nodup, fun z hz => O.fresh z (ex ▸ hz), fun z hz => O.off z (ex ▸ hz)⟩, ki⟩
  · have := O.fresh b (sub b q); rw [hb] at this; cases this
  · exact ⟨ob, k b ob (fun q => O.off b (sub b q) hbF) hb, rfl⟩
  · obtain ⟨ob, es, ep, h1, h2⟩ := O.fdict z hz
    exact ⟨ob, es, ep, k z ob (fun q => O.off z (sub z q) hz) h1, h2⟩
  · rcases List.mem_append.mp hp with hp | hp
    · exact (O.rep p (List.mem_append_left _ hp)).keep ki fun z hz ob hb => k z ob (d1 z (mem_fps hp hz)) hb
    · rcases List.mem_cons.mp hp with rfl | hp
      · exact r
      · exact (O.rep p (List.mem_append_right _ (.tail _ hp))).keep ki fun z hz ob hb => k z ob (d2 z (mem_fps hp hz)) hb

theorem OkF.turn (O : OkF w b0 c m T h) (U : TU a o o' T T') (k : ∀ b ob, b ∉ fp (a, o) → h.get? b = some ob → h'.get? b = some ob) (r : RO w h' a o') (e : fp (a, o') = fp (a, o)) : OkF w b0 c m T' h' := by
  obtain ⟨H, hC, mm, hn, hl⟩ := O
  obtain ⟨H', ki⟩ := H.turn U k r e
  have sub : ∀ z ∈ fp (a, o), z ∈ fps T := fun z hz => mem_fps U.mem hz
  obtain ⟨oL, es, ep, h1, h2⟩ := hn
  exact ⟨H', ⟨by rw [U.fps e]; exact hC.1, hC.2⟩, mm, ⟨oL, es, ep, k _ _ (fun q => hC.1 (sub _ q)) h1, h2⟩, fun p hp => let ⟨v, a, b⟩ := hl p hp; ⟨v, a, b.keepI ki⟩⟩
theorem stp_turn {s s' : Shared} (O : OkF w b0 c m T s.heap) (U : TU a o o' T T') (k : ∀ b ob, b ∉ fp (a, o) → s.heap.get? b = some ob → s'.heap.get? b = some ob) (r : RO w s'.heap a o') (e : fp (a, o') = fp (a, o))
    (h1 : s'.gens = s.gens := by rfl) (h2 : s'.drawn = s.drawn := by rfl) (h3 : s'.os = s.os := by rfl) : Stp (FLs c.fl) (c.C :: fps T) (fps T') s s' := by
  have sub : ∀ z ∈ fp (a, o), z ∈ fps T := fun z hz => mem_fps U.mem hz
  refine ⟨fun b ob hb hF => ?_, fun b ob hb => ?_, fun x hx => .inl (.tail _ ?_), h1, h2, h3⟩
  · have q : b ∉ fp (a, o) := fun q => hF (.tail _ (sub b q))
    exact ⟨fun _ => k b ob q hb, ob.slots, k b ob q hb⟩
  · by_cases q : b ∈ fp (a, o)
    · obtain ⟨ob', h1, _⟩ := r.at b (e ▸ q)
      exact ⟨ob', h1⟩
    · exact ⟨ob, k b ob q hb⟩
  · obtain ⟨x', y, rfl, rfl⟩ := U.split
    rw [fps_append, fps_cons] at hx ⊢
    rw [e] at hx
    exact hx
section
variable {α β : Type} {R : Heap → α → β → Prop} {Q : β → Loc → Store → Prop} {v : α} {b : β}
/-- a result behind one object's turn -/
theorem res_turn {h' : Heap} {tk : Nat} (O : OkF w b0 c m T s.heap) (U : TU a o o' T T') (k : ∀ b ob, b ∉ fp (a, o) → s.heap.get? b = some ob → h'.get? b = some ob) (r : RO w h' a o') (e : fp (a, o') = fp (a, o)) (hr : R h' v b) (hq : Q b m T') :
    Res w b0 c R s T Q v { s with heap := h', toks := tk } := ⟨b, m, T', hr, O.turn U k r e, stp_turn (s' := { s with heap := h', toks := tk }) O U k r e, hq⟩
/-- a result behind new objects that the store does not name -/
theorem res_grow {h' : Heap} {tk : Nat} (O : OkF w b0 c m T s.heap) (g : Grow s.heap h') (hr : R h' v b) (hq : Q b m T) : Res w b0 c R s T Q v { s with heap := h', toks := tk } :=
  ⟨b, m, T, hr, O.grow g, stp_same (s' := { s with heap := h', toks := tk }) g, hq⟩
/-- a result behind a new object of the store -/
theorem res_new {h' : Heap} {tk : Nat} (O : OkF w b0 c m T s.heap) (g : Grow s.heap h') (r : RO w h' a o) (nd : (fp (a, o)).Nodup) (f : ∀ x ∈ fp (a, o), s.heap.get? x = none) (hr : R h' v b) (hq : Q b m ((a, o) :: T)) :
    Res w b0 c R s T Q v { s with heap := h', toks := tk } :=
  ⟨b, m, _, hr, (O.grow g).add r nd (fun x hx => O.1.newAt (f x hx)) (fun q => by
    obtain ⟨o, _, _, h1, _⟩ := O.Cat
    rw [f _ q] at h1; cases h1), stp_add (s' := { s with heap := h', toks := tk }) g f, hq⟩
end
/-- one local name set -/
inductive LU (x : Str) (a : AV) : Loc → Loc → Prop
  | nil : LU x a [] [(x, a)]
  | hit {b r} : (r.all fun p => !(p.1 == x)) = true → LU x a ((x, b) :: r) ((x, a) :: r)
  | miss {p r r'} : (p.1 == x) = false → LU x a r r' → LU x a (p :: r) (p :: r')
theorem LU.spec {x : Str} {a : AV} {m m' : Loc} (h : LU x a m m') : ∀ p ∈ m', p = (x, a) ∨ (p ∈ m ∧ p.1 ≠ x) := by
  induction h with
  | nil => intro p hp; exact .inl (List.mem_singleton.mp hp)
  | hit hr =>
    intro p hp
    rcases List.mem_cons.mp hp with rfl | hp
    · exact .inl rfl
    · have := List.all_eq_true.mp hr p hp
      exact .inr ⟨.tail _ hp, by simpa using this⟩
  | miss hn _ ih =>
    intro p hp
    rcases List.mem_cons.mp hp with rfl | hp
    · exact .inr ⟨.head _, by simpa using hn⟩
    · exact (ih p hp).imp id fun ⟨h1, h2⟩ => ⟨.tail _ h1, h2⟩
theorem OkF.setL {m' : Loc} {x : Str} {av : AV} {v : Value} {mm : Str → Option Value} (O : OkF w b0 c m T h) (hl : ∀ p ∈ m, ∃ v, mm p.1 = some v ∧ RV h v p.2) (hn : h'.Ns c.C (fun y => if y = x then some v else mm y)) (hs : Heap.SameBut c.C h h') (hv : RV h v av) (U : LU x av m m') :
    OkF w b0 c m' T h' := by
  have hcat := O.Cat
  obtain ⟨H, hC, _⟩ := O
  have g : ∀ b ob, b ≠ c.C → h.get? b = some ob → h'.get? b = some ob := fun b ob hb e => (hs.2 b hb).trans e
  have nL : ∀ z ∈ fps T, z ≠ c.C := fun z hz e => hC.1 (e ▸ hz)
  have bL : b0.get? c.C = none := hC.2
  have ki : KeepI h h' := fun b ob e hi => g b ob (fun q => by
    subst q
    obtain ⟨o', es, ep, h1, h2⟩ := hcat
    rw [e] at h1; cases h1
    unfold Imm at hi; rw [h2] at hi; exact hi) e
  obtain ⟨oL, es, ep, hL, hLd, r⟩ := id hn
  refine ⟨⟨fun b ob e => g b ob (fun q => by rw [q, bL] at e; cases e) (H.stay b ob e), funFrames_at' H.frames ?_, fun z hz => ?_, fun p hp => (H.rep p hp).keep ki fun z hz ob e => g z ob (nL z (mem_fps hp hz)) e, H.nodup, H.fresh, H.off⟩, hC, _, hn, fun p hp => ?_⟩
  · intro z hz o ho hd
    by_cases q : z = c.C
    · subst q; exact ⟨oL, hL, fun vs e => by rw [hLd] at e; cases e⟩
    · exact ⟨o, g z o q ho, hd⟩
  · by_cases q : z = c.C
    · subst q; exact ⟨oL, es, ep, hL, hLd⟩
    · obtain ⟨o', es', ep', h1, h2⟩ := H.fdict z hz
      exact ⟨o', es', ep', g z o' q h1, h2⟩
  · rcases U.spec p hp with rfl | ⟨h1, h2⟩
    · exact ⟨v, if_pos rfl, hv.keepI ki⟩
    · obtain ⟨v', h3, h4⟩ := hl p h1
      exact ⟨v', by rw [if_neg h2]; exact h3, h4.keepI ki⟩
theorem stp_setL {s s' : Shared} (hL : ∃ o, s'.heap.get? c.C = some o) (hs : Heap.SameBut c.C s.heap s'.heap) (h1 : s'.gens = s.gens := by rfl) (h2 : s'.drawn = s.drawn := by rfl) (h3 : s'.os = s.os := by rfl) : Stp (FLs c.fl) (c.C :: fps T) (fps T) s s' := by
  refine ⟨fun b ob hb hF => ?_, fun b ob hb => ?_, fun x hx => .inl (.tail _ hx), h1, h2, h3⟩
  · have q : b ≠ c.C := fun q => hF (q ▸ .head _)
    exact ⟨fun _ => (hs.2 b q).trans hb, ob.slots, (hs.2 b q).trans hb⟩
  · by_cases q : b = c.C
    · exact q ▸ hL
    · exact ⟨ob, (hs.2 b q).trans hb⟩
end
end
section
section
variable {w : World} {b0 : Heap} {c : Cx} {m m₁ : Loc} {T T' T₁ T₂ : Store} {s s₁ s₂ : Shared} {Q : AV → Loc → Store → Prop} {X : Addr → Loc → Store → Prop} {i j : Int}
/- ints -/
theorem b_add (h : Q (.int (i + j)) m T) : BinQ w b0 c .Add (.int i) (.int j) m T Q X := fun va vb => ⟨fun s O ⟨ra, rb⟩ => by refine ra.E ?_; intro _; refine rb.E ?_; intro _; with_reducible exact PyProof.Rows.add_int (res_here O (.int _ _) h _)⟩
theorem b_sub (h : Q (.int (i - j)) m T) : BinQ w b0 c .Sub (.int i) (.int j) m T Q X := fun va vb => ⟨fun s O ⟨ra, rb⟩ => by refine ra.E ?_; intro _; refine rb.E ?_; intro _; with_reducible exact PyProof.Rows.sub_int (res_here O (.int _ _) h _)⟩
theorem b_mul (hm : IntMulOk i j) (h : Q (.int (i * j)) m T) : BinQ w b0 c .Mult (.int i) (.int j) m T Q X := fun va vb => ⟨fun s O ⟨ra, rb⟩ => by refine ra.E ?_; intro _; refine rb.E ?_; intro _; with_reducible exact PyProof.Rows.mul_int (res_here O (.int _ _) h _) hm⟩
theorem b_div (hz : j ≠ 0) (hj : Small j) (h : Q (.int (i.fdiv j)) m T) : BinQ w b0 c .FloorDiv (.int i) (.int j) m T Q X := fun va vb => ⟨fun s O ⟨ra, rb⟩ => by refine ra.E ?_; intro _; refine rb.E ?_; intro _; with_reducible exact PyProof.Rows.floordiv_int hz (res_here O (.int _ _) h _) (.inl (divOk hj))⟩
theorem b_mod (hz : j ≠ 0) (h : Q (.int (i.fmod j)) m T) : BinQ w b0 c .Mod (.int i) (.int j) m T Q X := fun va vb => ⟨fun s O ⟨ra, rb⟩ => by refine ra.E ?_; intro _; refine rb.E ?_; intro _; with_reducible exact PyProof.Rows.mod_int' hz (res_here O (.int _ _) h _)⟩
theorem b_pow (h0 : 0 ≤ j) (hs : (Builtin.Int.intBits i : Int) * j ≤ 2 ^ 27) (h : Q (.int (i ^ j.toNat)) m T) : BinQ w b0 c .Pow (.int i) (.int j) m T Q X := fun va vb => ⟨fun s O ⟨ra, rb⟩ => by refine ra.E ?_; intro _; refine rb.E ?_; intro _; with_reducible exact PyProof.Rows.pow_int h0 hs (res_here O (.int _ _) h _)⟩
theorem u_neg (h : Q (.int (-i)) m T) : UnQ w b0 c .USub (.int i) m T Q X := fun va => ⟨fun s O ra => by refine ra.E ?_; intro _; with_reducible exact PyProof.Rows.neg_int (res_here O (.int _ _) h _)⟩
theorem c_eq (h : Q (.bool (i == j)) m T) : CmpQ w b0 c .Eq (.int i) (.int j) m T Q X := fun va vb => ⟨fun s O ⟨ra, rb⟩ => by refine ra.E ?_; intro _; refine rb.E ?_; intro _; with_reducible exact PyProof.Rows.eq_int (res_same O (.bool _) h)⟩
theorem c_ne (h : Q (.bool (i != j)) m T) : CmpQ w b0 c .NotEq (.int i) (.int j) m T Q X := fun va vb => ⟨fun s O ⟨ra, rb⟩ => by refine ra.E ?_; intro _; refine rb.E ?_; intro _; with_reducible exact PyProof.Rows.ne_int (res_same O (.bool _) h)⟩
theorem c_lt (h : Q (.bool (decide (i < j))) m T) : CmpQ w b0 c .Lt (.int i) (.int j) m T Q X := fun va vb => ⟨fun s O ⟨ra, rb⟩ => by refine ra.E ?_; intro _; refine rb.E ?_; intro _; with_reducible exact PyProof.Rows.lt_int (res_same O (.bool _) h)⟩
theorem c_le (h : Q (.bool (decide (i ≤ j))) m T) : CmpQ w b0 c .LtE (.int i) (.int j) m T Q X := fun va vb => ⟨fun s O ⟨ra, rb⟩ => by refine ra.E ?_; intro _; refine rb.E ?_; intro _; with_reducible exact PyProof.Rows.le_int (res_same O (.bool _) h)⟩
theorem c_gt (h : Q (.bool (decide (j < i))) m T) : CmpQ w b0 c .Gt (.int i) (.int j) m T Q X := fun va vb => ⟨fun s O ⟨ra, rb⟩ => by refine ra.E ?_; intro _; refine rb.E ?_; intro _; with_reducible exact PyProof.Rows.gt_int (res_same O (.bool _) h)⟩
theorem c_ge (h : Q (.bool (decide (j ≤ i))) m T) : CmpQ w b0 c .GtE (.int i) (.int j) m T Q X := fun va vb => ⟨fun s O ⟨ra, rb⟩ => by refine ra.E ?_; intro _; refine rb.E ?_; intro _; with_reducible exact PyProof.Rows.ge_int (res_same O (.bool _) h)⟩
/- strs, bools, none -/
theorem c_eqs {x y : Str} (h : Q (.bool (x == y)) m T) : CmpQ w b0 c .Eq (.str x) (.str y) m T Q X := fun va vb => ⟨fun s O ⟨ra, rb⟩ => by refine ra.E ?_; intro _; refine rb.E ?_; intro _; with_reducible exact PyProof.Rows.eq_str (res_same O (.bool _) h)⟩
theorem c_nes {x y : Str} (h : Q (.bool (x != y)) m T) : CmpQ w b0 c .NotEq (.str x) (.str y) m T Q X := fun va vb => ⟨fun s O ⟨ra, rb⟩ => by refine ra.E ?_; intro _; refine rb.E ?_; intro _; with_reducible exact PyProof.Rows.ne_str (res_same O (.bool _) h)⟩
theorem c_neb {x y : Bool} (h : Q (.bool (x != y)) m T) : CmpQ w b0 c .NotEq (.bool x) (.bool y) m T Q X := fun va vb => ⟨fun s O ⟨ra, rb⟩ => by refine ra.E ?_; intro _; refine rb.E ?_; intro _; with_reducible exact PyProof.Rows.ne_bool (res_same O (.bool _) h)⟩
theorem c_isnone (h : Q (.bool true) m T) : CmpQ w b0 c .Is .none .none m T Q X := fun va vb => ⟨fun s O ⟨ra, rb⟩ => by refine ra.E ?_; intro _; refine rb.E ?_; intro _; with_reducible exact PyProof.Rows.is_none_none (res_same O (.bool _) h)⟩
theorem c_isnone_int (h : Q (.bool false) m T) : CmpQ w b0 c .Is (.int i) .none m T Q X := fun va vb => ⟨fun s O ⟨ra, rb⟩ => by refine ra.E ?_; intro _; refine rb.E ?_; intro _; with_reducible exact PyProof.Rows.is_none_ne (by simp) (res_same O (.bool _) h)⟩
theorem c_isnone_ref {a : Addr} (h : Q (.bool false) m T) : CmpQ w b0 c .Is (rf a) .none m T Q X := fun va vb => ⟨fun s O ⟨ra, rb⟩ => by refine ra.E ?_; intro _; refine rb.E ?_; intro _; with_reducible exact PyProof.Rows.is_none_ne (by simp) (res_same O (.bool _) h)⟩
theorem tr_bool {b : Bool} {Q : Bool → Loc → Store → Prop} (h : Q b m T) : TruQ w b0 c (.bool b) m T Q X := fun va => ⟨fun s O ra => by refine ra.E ?_; intro _; with_reducible exact wpAny_truthy_bool (res_same O rfl h)⟩
noncomputable abbrev KUn (Q : AV → Loc → Store → Prop) : Bool → Loc → Store → Prop := fun b m T => Q (.bool (!b)) m T
theorem u_not {a : AV} (h : TruQ w b0 c a m T (KUn Q) X) : UnQ w b0 c .Not a m T Q X := fun va => ⟨fun s O ra =>
  not_of (wpAny_mono ((h va).run s O ra) (fun v s' zz => Res.elim zz fun b m' T' h1 h2 h3 h4 => by subst h1; exact ⟨_, m', T', .bool _, h2, h3, h4⟩) fun _ _ e => e)⟩
/- lists -/
theorem RO.listAt {h : Heap} {a : Addr} {xs : List AV} (r : RO w h a (.list xs)) : ∃ vs n, h.get? a = some (listOf vs.toArray n) ∧ RVs h vs xs := r
theorem b_addl {a b : Addr} {xs ys : List AV} (ha : (a, .list xs) ∈ T) (hb : (b, .list ys) ∈ T) (hz : xs.length + ys.length ≤ 16777216) (h : ∀ z, Q (rf z) m ((z, .list (xs ++ ys)) :: T)) :
    BinQ w b0 c .Add (rf a) (rf b) m T Q X := fun va vb => ⟨fun s O ⟨ra, rb⟩ => by
  refine ra.E ?_; intro _; refine rb.E ?_; intro _
  obtain ⟨vs, n, h1, r1⟩ := O.1.rep _ ha
  obtain ⟨us, k, h2, r2⟩ := O.1.rep _ hb
  refine PySem.P.add_list h1 h2 ?_ (by rw [List.size_toArray, List.size_toArray, r1.length, r2.length, sizeLine_eq]; exact hz)
  have g := Grow.push s.heap { cls := .type "list", data := .seq (vs.toArray ++ us.toArray) }
  refine res_new (a := s.heap.objs.size) (o := .list (xs ++ ys)) (tk := s.toks) O g ⟨vs ++ us, 0, ?_, (r1.append r2).keepI g.keepI⟩ (by simp [fp]) (fun x hx => ?_) (.raw _) (h _)
  · rw [Heap.get?_push_size _ rfl]; simp
  · rw [List.mem_singleton.mp hx]; exact noneAt _ (Nat.le_refl _)⟩
theorem RV.tupInv {h : Heap} {v : Value} {xs : List AV} (r : RV h v (.tup xs)) : ∃ a vs n, v = .ref a ∧ h.get? a = some (tupOf vs.toArray n) ∧ RVs h vs xs := by
  exact r.tupE fun a vs n h1 h2 => ⟨a, vs, n, rfl, h1, h2⟩
theorem RVs.ne_nil {h : Heap} {vs : List Value} {xs : List AV} (r : RVs h vs xs) (hx : xs ≠ []) : vs ≠ [] := fun e => by subst e; cases r; exact hx rfl
theorem b_addt {xs ys : List AV} (hx : xs ≠ []) (hy : ys ≠ []) (hz : xs.length + ys.length ≤ 16777216) (h : Q (.tup (xs ++ ys)) m T) : BinQ w b0 c .Add (.tup xs) (.tup ys) m T Q X := fun va vb => ⟨fun s O ⟨ra, rb⟩ => by
  refine ra.tupE fun a vs n h1 r1 => ?_
  refine rb.tupE fun b us k h2 r2 => ?_
  have e1 := r1.ne_nil hx
  have e2 := r2.ne_nil hy
  refine PySem.P.add_tuple h1 h2 (by simpa using e1) (by simpa using e2) ?_ (by rw [List.size_toArray, List.size_toArray, r1.length, r2.length, sizeLine_eq]; exact hz)
  have g := Grow.push s.heap { cls := .type "tuple", data := .seq (vs.toArray ++ us.toArray) }
  refine res_grow (tk := s.toks) O g (.tup (n := 0) (vs := vs ++ us) ?_ ((r1.append r2).keepI g.keepI)) h
  rw [Heap.get?_push_size _ rfl]; simp⟩
end
end
section
/-- the first of a name -/
inductive LG (x : Str) (a : AV) : Loc → Prop
  | head {r} : LG x a ((x, a) :: r)
  | tail {p r} : (p.1 == x) = false → LG x a r → LG x a (p :: r)
noncomputable def AV.hand : AV → Bool
  | .raw v => handedIn v
  | _ => true
theorem RV.handed {h : Heap} {v : Value} {a : AV} (r : RV h v a) (e : a.hand = true) : handedIn v = true := by
  cases r <;> first | rfl | exact e
theorem Flds.get {h : Heap} {x : Str} {a : AV} : ∀ {es : List DictEntry} {fs : Loc}, Flds h es fs → LG x a fs → ∃ v, getL x es = some (some v) ∧ RV h v a
  | e :: es, f :: fs, ⟨⟨t, hk⟩, hv, hr⟩, l => by
    cases l with
    | head =>
      refine ⟨e.val, ?_, hv⟩
      unfold getL
      rw [List.find?_cons, hk]
      simp [Value.isStr]
    | tail hn l =>
      obtain ⟨v, h1, h2⟩ := Flds.get hr l
      refine ⟨v, ?_, h2⟩
      unfold getL at h1 ⊢
      have hn' : e.key.isStr x = false := by rw [hk]; exact hn
      rw [List.find?_cons, hn']
      have hrk : e.refKey = false := by unfold DictEntry.refKey; rw [hk]
      rw [List.any_cons, hrk]
      simpa using h1
  | [], [], _, l => nomatch l
theorem Flds.some {h : Heap} {x : Str} : ∀ {es : List DictEntry} {fs : Loc}, Flds h es fs → (getL x es).isSome = true := by
  intro es fs H
  have hr : es.any (·.refKey) = false := by
    induction es generalizing fs with
    | nil => rfl
    | cons e es ih =>
      cases fs with
      | nil => exact H.elim
      | cons f fs =>
        obtain ⟨⟨t, hk⟩, _, hr⟩ := H
        rw [List.any_cons, ih hr, Bool.or_false]
        unfold DictEntry.refKey; rw [hk]
  unfold getL
  split
  · rfl
  · rw [hr]; rfl
theorem Flds.put {h : Heap} {x : Str} {a : AV} {v : Value} {hs : Int} {t : Tok} (hv : RV h v a) : ∀ {es : List DictEntry} {fs fs' : Loc}, Flds h es fs → LU x a fs fs' → Flds h (putL x hs (.str x t) v es) fs'
  | [], [], _, _, .nil => ⟨⟨t, rfl⟩, hv, trivial⟩
  | e :: es, f :: fs, fs', ⟨⟨t', hk⟩, hv', hr⟩, l => by
    unfold putL
    cases l with
    | hit hall =>
      have hn' : e.key.isStr x = true := by rw [hk]; simp [Value.isStr]
      rw [hn', if_pos rfl]
      exact ⟨⟨t', hk⟩, hv, hr⟩
    | miss hn l =>
      have hn' : e.key.isStr x = false := by rw [hk]; exact hn
      rw [hn', if_neg Bool.false_ne_true]
      exact ⟨⟨t', hk⟩, hv', Flds.put hv hr l⟩
  | [], _ :: _, _, x, _ => x.elim
  | _ :: _, [], _, x, _ => x.elim
theorem putL_len (x : Str) (hs : Int) (k v : Value) : ∀ es : List DictEntry, (putL x hs k v es).length ≤ es.length + 1
  | [] => Nat.le_refl _
  | e :: es => by
    unfold putL
    split
    · simp
    · have := putL_len x hs k v es
      simp only [List.length_cons]
      omega
theorem Flds.len {h : Heap} : ∀ {es : List DictEntry} {fs : Loc}, Flds h es fs → es.length = fs.length
  | [], [], _ => rfl
  | _ :: _, _ :: _, ⟨_, _, hr⟩ => by rw [List.length_cons, List.length_cons, Flds.len hr]
  | [], _ :: _, x => x.elim
  | _ :: _, [], x => x.elim

section
variable {w : World} {b0 : Heap} {c : Cx} {m m₁ m' : Loc} {T T' T₁ T₂ : Store} {s s₁ s₂ : Shared} {Q : AV → Loc → Store → Prop} {X : Addr → Loc → Store → Prop} {i j : Int}
noncomputable def AttrQ (w : World) (b0 : Heap) (c : Cx) (name : Str) (a : AV) (m : Loc) (T : Store) (Q : AV → Loc → Store → Prop) (X : Addr → Loc → Store → Prop) : Prop :=
  ∀ va, W w b0 c (fun h => RV h va a) RV (getAttr va name true) m T Q X
section
variable (w : World) (b0 : Heap) (c : Cx) (X : Addr → Loc → Store → Prop)
noncomputable abbrev KAt (Q : AV → Loc → Store → Prop) (n : Str) : AV → Loc → Store → Prop := fun a m T => AttrQ w b0 c n a m T Q X
end
theorem e_attrN {x n : Str} {p pos : Pos} (h : WE w b0 c (.Name x p) m T (KAt w b0 c X Q n) X) : WE w b0 c (.Attribute (.Name x p) n pos) m T Q X := ⟨fun s O _ => by
  with_reducible refine Attribute_any_ ?_ (by with_unfolding_all rfl)
  exact h.then s O trivial fun va a m₁ T₁ s₁ ra O₁ _ x₁ hq => wp_res x₁ ((hq va).run s₁ O₁ ra)⟩
theorem e_attrA {v : Expr} {y n : Str} {p pos : Pos} (h : WE w b0 c (.Attribute v y p) m T (KAt w b0 c X Q n) X) : WE w b0 c (.Attribute (.Attribute v y p) n pos) m T Q X := ⟨fun s O _ => by
  with_reducible refine Attribute_any_ ?_ (by with_unfolding_all rfl)
  exact h.then s O trivial fun va a m₁ T₁ s₁ ra O₁ _ x₁ hq => wp_res x₁ ((hq va).run s₁ O₁ ra)⟩
theorem e_attrS {v y : Expr} {n : Str} {p pos : Pos} (h : WE w b0 c (.Subscript v y p) m T (KAt w b0 c X Q n) X) : WE w b0 c (.Attribute (.Subscript v y p) n pos) m T Q X := ⟨fun s O _ => by
  with_reducible refine Attribute_any_ ?_ (by with_unfolding_all rfl)
  exact h.then s O trivial fun va a m₁ T₁ s₁ ra O₁ _ x₁ hq => wp_res x₁ ((hq va).run s₁ O₁ ra)⟩
theorem e_attrC {v : Expr} {y n : Str} {p pp pos : Pos} {as : List Expr} {ks : List Keyword} (h : WE w b0 c (.Call (.Attribute v y p) as ks pp) m T (KAt w b0 c X Q n) X) : WE w b0 c (.Attribute (.Call (.Attribute v y p) as ks pp) n pos) m T Q X := ⟨fun s O _ => by
  with_reducible refine Attribute_any_ ?_ (by with_unfolding_all rfl)
  exact h.then s O trivial fun va a m₁ T₁ s₁ ra O₁ _ x₁ hq => wp_res x₁ ((hq va).run s₁ O₁ ra)⟩
theorem instAt {h : Heap} {a C d : Addr} {fs : Loc} (r : RO w h a (.inst C d fs)) : ∃ sl es n, InstAt h a ⟨.ref C, some d, .plain, sl⟩ C (some (dictOf es n)) ∧ Flds h es fs := by
  obtain ⟨sl, es, n, h1, h2, h3⟩ := r
  exact ⟨sl, es, n, ⟨h1, rfl, rfl, h2⟩, h3⟩
/-- a field of one's own -/
theorem a_own {x C d : Addr} {fs : Loc} {n : Str} {a : AV} {attr : Option Value} (G : Gd w b0) (hx : (x, .inst C d fs) ∈ T) (hl : LG n a fs) (ha : a.hand = true)
    (hg : plainGet (hd.heap_39 w.params) C n = true) (hh : hasDictIn (hd.heap_39 w.params) C = true) (hf : findIn (hd.heap_39 w.params) (.ref C) n = some attr) (hn : noGet (hd.heap_39 w.params) attr = true) (h : Q a m T) : AttrQ w b0 c n (rf x) m T Q X := fun va => ⟨fun s O ra => by
  refine ra.E ?_; intro _
  obtain ⟨sl, es, k, I, F⟩ := instAt (O.1.rep _ hx)
  obtain ⟨v, h1, h2⟩ := F.get hl
  have KI := G.K.keeps O.1.stay
  with_reducible exact get_value KI I (plainGet_of hg).1 (findObj_own hh hf hn (lookIn_dict n es k ▸ h1)) (h2.handed ha) (res_here O h2 h _)⟩

/-! subscripts -/
noncomputable def ItemQ (w : World) (b0 : Heap) (c : Cx) (a k : AV) (m : Loc) (T : Store) (Q : AV → Loc → Store → Prop) (X : Addr → Loc → Store → Prop) : Prop :=
  ∀ (va vk : Value), W w b0 c (fun h => RV h va a ∧ RV h vk k) RV (getItem va vk) m T Q X ∧ ∀ s : Shared, OkF w b0 c m T s.heap → RV s.heap va a → ∃ (TT id : String), s.TypeIs va TT ∧ typeLookup (.type TT) "__getitem__" = pure (some (.builtin id))
section
variable (w : World) (b0 : Heap) (c : Cx) (X : Addr → Loc → Store → Prop)
noncomputable abbrev KI2 (Q : AV → Loc → Store → Prop) (a : AV) : AV → Loc → Store → Prop := fun k m T => ItemQ w b0 c a k m T Q X
noncomputable abbrev KI1 (Q : AV → Loc → Store → Prop) (i : Expr) : AV → Loc → Store → Prop := fun a m T => WE w b0 c i m T (KI2 w b0 c X Q a) X
end
theorem e_item {v i : Expr} {pos : Pos} (h : WE w b0 c v m T (KI1 w b0 c X Q i) X)
    (hs : ∀ va vk, ∃ ops, subscripted i false va vk = operate ops (getItem va vk) := by exact fun _ _ => ⟨_, by with_unfolding_all rfl⟩) : WE w b0 c (.Subscript v i pos) m T Q X := ⟨fun s O _ =>
  Subscript_ (h.then s O trivial fun va a m₁ T₁ s₁ ra O₁ _ x₁ hr => wp_back x₁ (W.then hr s₁ O₁ trivial fun vb b m₂ T₂ s₂ rb O₂ k₂ x₂ hq => by
    obtain ⟨hi, ht⟩ := hq va vb
    obtain ⟨TT, id, h1, h2⟩ := ht s₂ O₂ (ra.keepI k₂)
    obtain ⟨ops, hs⟩ := hs va vb
    exact tail_any h1 h2 (wpAny_mono (hi.run s₂ O₂ ⟨ra.keepI k₂, rb⟩) (fun _ _ e => e.back (x₁.more x₂)) fun _ _ e => e.back (x₁.more x₂)) hs))⟩
theorem i_tup {xs : List AV} {a : AV} {k : Int} {n : Nat} (hk : seqIndex? k xs.length = some n) (hn : xs[n]? = some a) (h : Q a m T) (hlo : -(2 ^ 63) ≤ k := by decide) (hhi : k < 2 ^ 63 := by decide) : ItemQ w b0 c (.tup xs) (.int k) m T Q X := fun va vk => ⟨⟨fun s O ⟨ra, rk⟩ => by
  refine ra.tupE fun t vs q h1 r1 => ?_
  refine rk.E ?_; intro _
  obtain ⟨v, h2, h3⟩ := r1.get hn
  have ht : PyProof.Rows.IsTup s.heap t vs.toArray := ⟨_, h1, rfl, q, rfl⟩
  with_reducible exact PyProof.Rows.getItem_tuple ht hlo hhi (by rw [List.size_toArray, r1.length]; exact hk) (by simpa using h2) (res_same O h3 h)⟩, fun s O ra => by
  refine ra.tupE fun t vs q h1 r1 => ?_
  have ht : PyProof.Rows.IsTup s.heap t vs.toArray := ⟨_, h1, rfl, q, rfl⟩
  exact ⟨_, _, ht.typeIs, slot_tuple_getitem.lookup⟩⟩
theorem listAt {h : Heap} {a : Addr} {xs : List AV} (r : RO w h a (.list xs)) : ∃ vs, h.IsList a vs.toArray ∧ RVs h vs xs := by
  obtain ⟨vs, n, h1, h2⟩ := r
  exact ⟨vs, ⟨_, h1, rfl, n, rfl⟩, h2⟩
theorem i_list {x : Addr} {xs : List AV} {a : AV} {k : Int} (hx : (x, .list xs) ∈ T) (h0 : 0 ≤ k) (hhi : k < 2 ^ 63) (hn : xs[k.toNat]? = some a) (h : Q a m T) : ItemQ w b0 c (rf x) (.int k) m T Q X := fun va vk => ⟨⟨fun s O ⟨ra, rk⟩ => by
  refine ra.E ?_; intro _; refine rk.E ?_; intro _
  obtain ⟨vs, h1, r1⟩ := listAt (O.1.rep _ hx)
  obtain ⟨v, h2, h3⟩ := r1.get hn
  with_reducible exact wpAny_getItem_list h1 h0 hhi (by simpa using h2) (res_same O h3 h)⟩, fun s O ra => by
  refine ra.E ?_; intro _
  obtain ⟨vs, h1, r1⟩ := listAt (O.1.rep _ hx)
  exact ⟨_, _, h1.typeIs, slot_list_getitem.lookup⟩⟩
theorem i_last {x : Addr} {xs : List AV} {a : AV} (hx : (x, .list (xs ++ [a])) ∈ T) (hz : xs.length < 2 ^ 62) (h : Q a m T) : ItemQ w b0 c (rf x) (.int (-1)) m T Q X := fun va vk => ⟨⟨fun s O ⟨ra, rk⟩ => by
  refine ra.E ?_; intro _; refine rk.E ?_; intro _
  obtain ⟨vs, h1, r1⟩ := listAt (O.1.rep _ hx)
  have hl := r1.length
  rw [List.length_append, List.length_singleton] at hl
  obtain ⟨v, h2, h3⟩ := r1.get (k := xs.length) (x := a) (by simp)
  with_reducible exact PySem.wpAny_getItem_list_neg h1 (by decide) (by rw [List.size_toArray, hl]; omega) (by decide) (by rw [List.size_toArray, hl, show ((-1 : Int) + ((xs.length + 1 : Nat) : Int)).toNat = xs.length from by omega]; simpa using h2) (res_same O h3 h)⟩, fun s O ra => by
  refine ra.E ?_; intro _
  obtain ⟨vs, h1, r1⟩ := listAt (O.1.rep _ hx)
  exact ⟨_, _, h1.typeIs, slot_list_getitem.lookup⟩⟩
/- dicts -/
noncomputable def getA {K α : Type} [DecidableEq K] (kvs : List (K × α)) (k : K) : Option α := (kvs.find? fun kv => kv.1 = k).map (·.2)
noncomputable def putA {K α : Type} [DecidableEq K] (kvs : List (K × α)) (k : K) (v : α) : List (K × α) := if kvs.any (fun kv => kv.1 = k) then kvs.map (fun kv => if kv.1 = k then (kv.1, v) else kv) else kvs ++ [(k, v)]
theorem Prs.get {K : Type} [DecidableEq K] {h : Heap} {es : List (K × Value)} {fs : List (K × AV)} (r : Prs h es fs) (k : K) : (∃ v a, getA es k = some v ∧ getA fs k = some a ∧ RV h v a) ∨ (getA es k = none ∧ getA fs k = none) := by
  induction es generalizing fs with
  | nil => cases fs with
    | nil => exact .inr ⟨rfl, rfl⟩
    | cons _ _ => exact r.elim
  | cons e es ih => cases fs with
    | nil => exact r.elim
    | cons f fs =>
      obtain ⟨e1, e2, e3⟩ := r
      unfold getA
      rw [List.find?_cons, List.find?_cons, ← e1]
      by_cases q : e.1 = k
      · simp only [q, decide_true]
        exact .inl ⟨_, _, rfl, rfl, e2⟩
      · simp only [q, decide_false]
        exact ih e3
theorem Prs.any {K : Type} [DecidableEq K] {h : Heap} {es : List (K × Value)} {fs : List (K × AV)} (r : Prs h es fs) (k : K) : es.any (fun kv => kv.1 = k) = fs.any (fun kv => kv.1 = k) := by
  induction es generalizing fs with
  | nil => cases fs with
    | nil => rfl
    | cons _ _ => exact r.elim
  | cons e es ih => cases fs with
    | nil => exact r.elim
    | cons f fs =>
      obtain ⟨e1, e2, e3⟩ := r
      rw [List.any_cons, List.any_cons, ih e3, e1]
theorem Prs.map {K : Type} [DecidableEq K] {h : Heap} {es : List (K × Value)} {fs : List (K × AV)} (r : Prs h es fs) (k : K) {v : Value} {a : AV} (hv : RV h v a) :
    Prs h (es.map (fun kv => if kv.1 = k then (kv.1, v) else kv)) (fs.map (fun kv => if kv.1 = k then (kv.1, a) else kv)) := by
  induction es generalizing fs with
  | nil => cases fs with
    | nil => trivial
    | cons _ _ => exact r.elim
  | cons e es ih => cases fs with
    | nil => exact r.elim
    | cons f fs =>
      obtain ⟨e1, e2, e3⟩ := r
      rw [List.map_cons, List.map_cons, ← e1]
      refine ⟨?_, ?_, ih e3⟩
      · split
        · rfl
        · exact e1
      · split
        · exact hv
        · exact e2
theorem Prs.snoc {K : Type} {h : Heap} {es : List (K × Value)} {fs : List (K × AV)} (r : Prs h es fs) (k : K) {v : Value} {a : AV} (hv : RV h v a) : Prs h (es ++ [(k, v)]) (fs ++ [(k, a)]) := by
  induction es generalizing fs with
  | nil => cases fs with
    | nil => exact ⟨rfl, hv, trivial⟩
    | cons _ _ => exact r.elim
  | cons e es ih => cases fs with
    | nil => exact r.elim
    | cons f fs => exact ⟨r.1, r.2.1, ih r.2.2⟩
theorem Prs.put {K : Type} [DecidableEq K] {h : Heap} {es : List (K × Value)} {fs : List (K × AV)} (r : Prs h es fs) (k : K) {v : Value} {a : AV} (hv : RV h v a) : Prs h (putA es k v) (putA fs k a) := by
  unfold putA
  rw [r.any k]
  split
  · exact r.map k hv
  · exact r.snoc k hv
theorem Prs.length {K : Type} {h : Heap} {es : List (K × Value)} {fs : List (K × AV)} (r : Prs h es fs) : es.length = fs.length := by
  induction es generalizing fs with
  | nil => cases fs with
    | nil => rfl
    | cons _ _ => exact r.elim
  | cons e es ih => cases fs with
    | nil => exact r.elim
    | cons f fs => rw [List.length_cons, List.length_cons, ih r.2.2]
theorem i_sdict {x : Addr} {kvs : List (Str × AV)} {k : Str} {a : AV} (hx : (x, .sdict kvs) ∈ T) (hk : getA kvs k = some a) (h : Q a m T) : ItemQ w b0 c (rf x) (.str k) m T Q X := fun va vk => ⟨⟨fun s O ⟨ra, rk⟩ => by
  refine ra.E ?_; intro _; refine rk.E ?_; intro _
  obtain ⟨_, es, D, P⟩ := O.1.rep _ hx
  rcases P.get k with ⟨v, a', h1, h2, h3⟩ | ⟨_, h2⟩
  · obtain rfl : a = a' := by rw [hk] at h2; exact Option.some.inj h2
    have h1' : valueAt es k = some v := h1
    with_reducible exact wpAny_getItem_of (strKind_is pr w k _) D.mapOf h1' (res_here O h3 h _)
  · rw [hk] at h2; cases h2⟩, fun s O ra => by
  refine ra.E ?_; intro _
  obtain ⟨_, es, D, P⟩ := O.1.rep _ hx
  exact ⟨_, _, D.typeIs, slot_dict_getitem.lookup⟩⟩
theorem i_idict {x : Addr} {kvs : List (Int × AV)} {k : Int} {a : AV} (hx : (x, .idict kvs) ∈ T) (hk : getA kvs k = some a) (h : Q a m T) : ItemQ w b0 c (rf x) (.int k) m T Q X := fun va vk => ⟨⟨fun s O ⟨ra, rk⟩ => by
  refine ra.E ?_; intro _; refine rk.E ?_; intro _
  obtain ⟨_, es, D, P⟩ := O.1.rep _ hx
  rcases P.get k with ⟨v, a', h1, h2, h3⟩ | ⟨_, h2⟩
  · obtain rfl : a = a' := by rw [hk] at h2; exact Option.some.inj h2
    have h1' : valueAt es k = some v := h1
    with_reducible exact wpAny_getItem_of (intKind_is pr w k _) D.mapOf h1' (res_here O h3 h _)
  · rw [hk] at h2; cases h2⟩, fun s O ra => by
  refine ra.E ?_; intro _
  obtain ⟨_, es, D, P⟩ := O.1.rep _ hx
  exact ⟨_, _, D.typeIs, slot_dict_getitem.lookup⟩⟩
end
end
section
section
variable {w : World} {A : Around} {E : Value → Shared → Prop} {s : Shared} {K : Frag} {x C d : Addr} {es : List DictEntry} {n : Nat} {name : Str} {v : Value} {sl : Array (Option Value)}
/-- a field set: the dict of the object is turned, nothing else -/
theorem set_raw {Q : Unit → Shared → Prop} (X : K.In s.heap) (I : InstAt s.heap x ⟨.ref C, some d, .plain, sl⟩ C (some (dictOf es n)))
    (hs : findIn K (.ref C) "__setattr__" = some (some (.builtin "object.__setattr__"))) (hp : plainOver K C = true) (ht : takerIn K C name = some none) (hh : hasDictIn K C = true) (hl : (getL name es).isSome = true) (hz : es.length < 1000)
    (h : Q () { s with heap := s.heap.update d (Obj.putName name (PyData.keyHash w.params name) (.str name (s.toks + 1)) v), toks := s.toks + 2 }) :
    wpAny (model pr w) A (setAttr (.ref x) name v) Q E s := by
  refine set_plain X I hs ?_
  with_reducible refine osa_open X I hp ht fun b => ?_
  obtain ⟨cd, hc, hd'⟩ := any_some hh
  have hx : s.heap.get? x = some ⟨.ref C, some d, .plain, sl⟩ := I.at_
  have D : s.heap.get? d = some (dictOf es n) := I.dict
  refine wpAny_bind (wpAny_pure (wpAny_bind (wpAny_bind (wpAny_loadPart hx (wpAny_bind (Looks.here (s := { s with toks := s.toks + 1 }) (looks_clsIn X hc) ?_))))))
  rw [hd']
  refine wpAny_pure (a := some d) (wpAny_bind (wpAny_pure (wpAny_bind ?_)))
  unfold nsSet
  refine wpAny_bind (wpAny_bind (wpAny_askSetting (wpAny_pure (wpAny_bind (wpAny_mkText (wpAny_bind (wpAny_loadPart D ?_)))))))
  have no : (!es.toArray.any (·.key.isStr name) && es.toArray.any (·.refKey)) = false := by
    rw [← Array.any_toList, ← Array.any_toList]
    unfold getL at hl
    split at hl
    · rename_i e he
      rw [List.any_eq_true.mpr ⟨e, List.mem_of_find?_eq_some he, List.find?_some he⟩]; rfl
    · split at hl
      · cases hl
      · rename_i z; rw [Bool.not_eq_true] at z; rw [z, Bool.and_false]
  dsimp only
  rw [aRefKeyMayBeTheName_at, no]
  refine wpAny_updatePart D ?_
  have D' : (s.heap.update d (Obj.putName name (PyData.keyHash w.params name) (.str name (s.toks + 1)) v)).get? d = some (dictOf (putL name (PyData.keyHash w.params name) (.str name (s.toks + 1)) v es) (putN name es n)) := by
    have := Heap.get?_update_self (Obj.putName name (PyData.keyHash w.params name) (.str name (s.toks + 1)) v) D (by rw [putName_dict]; rfl)
    rw [this, putName_dict]
  refine wpAny_bind (wpAny_lookBehind D' (pastItsLine_dict (by
    have := putL_len name (PyData.keyHash w.params name) (.str name (s.toks + 1)) v es
    rw [List.size_toArray, sizeLine_eq]; omega)) ?_)
  exact wpAny_pure h
end

/-- no value -/
noncomputable abbrev RUn : Heap → Unit → Unit → Prop := fun _ _ _ => True
section
variable {w : World} {b0 : Heap} {c : Cx} {m m₁ m' : Loc} {T T' T₁ T₂ : Store} {s s₁ s₂ : Shared} {Q : AV → Loc → Store → Prop} {X : Addr → Loc → Store → Prop} {i j : Int}
noncomputable def SetAQ (w : World) (b0 : Heap) (c : Cx) (n : Str) (b a : AV) (m : Loc) (T : Store) (Q : Loc → Store → Prop) (X : Addr → Loc → Store → Prop) : Prop :=
  ∀ vb va, W w b0 c (fun h => RV h vb b ∧ RV h va a) RUn (setAttr vb n va) m T (fun _ => Q) X
noncomputable def SetIQ (w : World) (b0 : Heap) (c : Cx) (b k a : AV) (m : Loc) (T : Store) (Q : Loc → Store → Prop) (X : Addr → Loc → Store → Prop) : Prop :=
  ∀ vb vk va, W w b0 c (fun h => RV h vb b ∧ RV h vk k ∧ RV h va a) RUn (setItem vb vk va) m T (fun _ => Q) X
theorem sa_own {x C d : Addr} {fs fs' : Loc} {n : Str} {a : AV} {Q : Loc → Store → Prop} (G : Gd w b0) (U : TU x (.inst C d fs) (.inst C d fs') T T') (l : LU n a fs fs') (hz : fs.length < 1000)
    (hs : findIn (hd.heap_39 w.params) (.ref C) "__setattr__" = some (some (.builtin "object.__setattr__"))) (hp : plainOver (hd.heap_39 w.params) C = true) (ht : takerIn (hd.heap_39 w.params) C n = some none) (hh : hasDictIn (hd.heap_39 w.params) C = true)
    (h : Q m T') : SetAQ w b0 c n (rf x) a m T Q X := fun vb va => ⟨fun s O ⟨rb, ra⟩ => by
  refine rb.E ?_; intro _
  obtain ⟨sl, es, k, I, F⟩ := instAt (O.1.rep _ U.mem)
  have KI := G.K.keeps O.1.stay
  have D : s.heap.get? d = some (dictOf es k) := I.dict
  have hx : s.heap.get? x = some ⟨.ref C, some d, .plain, sl⟩ := I.at_
  have hl : (getL n es).isSome = true := F.some
  have hz' : es.length < 1000 := by rw [F.len]; exact hz
  have hxd : d ≠ x := fun q => by subst q; rw [hx] at D; cases D
  with_reducible refine set_raw KI I hs hp ht hh hl hz' ?_
  have D' : (s.heap.update d (Obj.putName n (PyData.keyHash w.params n) (.str n (s.toks + 1)) va)).get? d = some (dictOf (putL n (PyData.keyHash w.params n) (.str n (s.toks + 1)) va es) (putN n es k)) := by
    have := Heap.get?_update_self (Obj.putName n (PyData.keyHash w.params n) (.str n (s.toks + 1)) va) D (by rw [putName_dict]; rfl)
    rw [this, putName_dict]
  have k1 : ∀ b ob, b ∉ fp (x, .inst C d fs) → s.heap.get? b = some ob → (s.heap.update d (Obj.putName n (PyData.keyHash w.params n) (.str n (s.toks + 1)) va)).get? b = some ob := fun b ob hb e =>
    (Heap.get?_update_other _ _ fun q => hb (by rw [← q]; exact .tail _ (.head _))).trans e
  have ki : KeepI s.heap (s.heap.update d (Obj.putName n (PyData.keyHash w.params n) (.str n (s.toks + 1)) va)) := fun b ob e hi => k1 b ob (fun q => by
    obtain ⟨o', h1, h2⟩ := (O.1.rep _ U.mem).at b q
    rw [e] at h1; cases h1; exact h2 hi) e
  exact res_turn (tk := s.toks + 2) O U k1 ⟨sl, _, _, (Heap.get?_update_other _ _ hxd).trans hx, D', Flds.put (ra.keepI ki) (F.keepI ki) l⟩ rfl (b := ()) trivial h⟩
theorem turn1 {x : Addr} {o o' : AO} {h h' : Heap} (hs : Heap.SameBut x h h') : ∀ b ob, b ∉ [x] → h.get? b = some ob → h'.get? b = some ob := fun b ob hb e => (hs.2 b fun q => hb (q ▸ .head _)).trans e
theorem keepI_turn {x : Addr} {o : AO} {h h' : Heap} (r : RO w h x o) (k : ∀ b ob, b ∉ fp (x, o) → h.get? b = some ob → h'.get? b = some ob) : KeepI h h' := fun b ob e hi => k b ob (fun q => by
  obtain ⟨o', h1, h2⟩ := r.at b q
  rw [e] at h1; cases h1; exact h2 hi) e
theorem si_idict {x : Addr} {kvs : List (Int × AV)} {k : Int} {a : AV} {Q : Loc → Store → Prop} (U : TU x (.idict kvs) (.idict (putA kvs k a)) T T') (hz : kvs.length ≤ 16777216) (h : Q m T') : SetIQ w b0 c (rf x) (.int k) a m T Q X := fun vb vk va => ⟨fun s O ⟨rb, rk, ra⟩ => by
  refine rb.E ?_; intro _; refine rk.E ?_; intro _
  obtain ⟨lo, es, D, P⟩ := O.1.rep _ U.mem
  have hz' : es.length ≤ sizeLine := by rw [P.length, sizeLine_eq]; exact hz
  with_reducible refine wpAny_setItem_pairs (intKind_is pr w k _) D (fun h' D' hs => ?_) hz'
  have k1 := turn1 (o := .idict kvs) (o' := .idict kvs) hs
  have ki := keepI_turn (O.1.rep _ U.mem) k1
  exact res_turn (tk := s.toks + 1) O U k1 ⟨lo, _, D', (P.keepI ki).put k (ra.keepI ki)⟩ rfl (b := ()) trivial h⟩
theorem wpAny_setItem_listX {x : Addr} {vs : List Value} {n : Nat} {k : Int} {t : Tok} {v : Value} {A : Around} {E : Value → Shared → Prop} {Q : Unit → Shared → Prop} (hl : s.heap.get? x = some (listOf vs.toArray n)) (h0 : 0 ≤ k) (hfit : k < 2 ^ 63) (hn : k < vs.length)
    (hQ : ∀ h', h'.get? x = some (listOf (vs.set k.toNat v).toArray n) → Heap.SameBut x s.heap h' → Q () { s with heap := h' }) :
    wpAny (model pr w) A (setItem (.ref x) (.int k t) v) Q E s := by
  have hL : s.heap.IsList x vs.toArray := ⟨_, hl, rfl, n, rfl⟩
  unfold setItem
  try with_reducible refine wpAny_holding ?_
  first | refine wpAny_bind (wpAny_pure ?_) | skip
  refine wpAny_bind (wpAny_sequenceKey hL.typeIs (by decide) ?_)
  refine wpAny_bind (wpAny_callSpecial?_slot (name := Str.ofString "__setitem__") hL.typeIs slot_list_setitem
    (wpAny_call_entry slot_list_setitem hL.typeIs entry_list_setitem ?_ (args_list_setitem _ _ _)))
  show wpAny _ _ (Builtin.List.listSubscript? (.int k t) >>= _) _ _ s
  refine wpAny_bind (wpAny_listSubscript_int (fitsIndex_of h0 hfit) ?_)
  clear hfit
  obtain ⟨j, rfl⟩ := Int.eq_ofNat_of_zero_le h0
  have hj : j < vs.toArray.size := by rw [List.size_toArray]; omega
  have hx' : vs.toArray[j]? = some vs.toArray[j] := Array.getElem?_eq_getElem hj
  show wpAny _ _ ((seqItemAt x j >>= fun r => pure (r.map (j, ·))) >>= _) _ _ s
  refine wpAny_bind (wpAny_bind (wpAny_seqItemAt hl rfl (wpAny_pure ?_)))
  rw [hx']
  show wpAny _ _ (setSeqItemAt x j v >>= _) _ _ s
  have hfin : (s.heap.update x (Obj.mapSeq (·.setIfInBounds j v))).get? x = some (listOf (vs.set j v).toArray n) := by
    have := PySem.IsL.update (l := x) (items := vs.toArray) (n := n) hl (·.setIfInBounds j v)
    rw [this]
    simp
  refine wpAny_bind (wpAny_setSeqItemAt hl rfl ?_)
  first
    | exact wpAny_bind (wpAny_pure (wpAny_pure ⟨.none, rfl, wpAny_pure (hQ _ hfin (Heap.SameBut.update ..))⟩))
    | exact wpAny_pure ⟨.none, rfl, wpAny_pure (hQ _ hfin (Heap.SameBut.update ..))⟩
theorem si_list {x : Addr} {xs : List AV} {k : Int} {a : AV} {Q : Loc → Store → Prop} (U : TU x (.list xs) (.list (xs.set k.toNat a)) T T') (h0 : 0 ≤ k) (hfit : k < 2 ^ 63) (hn : k < xs.length) (h : Q m T') : SetIQ w b0 c (rf x) (.int k) a m T Q X := fun vb vk va => ⟨fun s O ⟨rb, rk, ra⟩ => by
  refine rb.E ?_; intro _; refine rk.E ?_; intro _
  obtain ⟨vs, n, hl, R⟩ := O.1.rep _ U.mem
  have hn' : k < vs.length := by rw [R.length]; exact hn
  with_reducible refine wpAny_setItem_listX hl h0 hfit hn' (fun h' hl' hs => ?_)
  have k1 := turn1 (o := .list xs) (o' := .list xs) hs
  have ki := keepI_turn (O.1.rep _ U.mem) k1
  exact res_turn (tk := s.toks) O U k1 ⟨_, _, hl', (R.keepI ki).set k.toNat (ra.keepI ki)⟩ rfl (b := ()) trivial h⟩
end
end
section
section
variable {w : World} {b0 : Heap} {c : Cx} {m m₁ m' : Loc} {T T' T₁ T₂ : Store} {s s₁ s₂ : Shared} {Q : AV → Loc → Store → Prop} {QF : FA → Loc → Store → Prop} {X : Addr → Loc → Store → Prop} {i j : Int}
noncomputable abbrev WS (w : World) (b0 : Heap) (c : Cx) (x : Stmt) := W w b0 c Tru RFl (exec x c.env)
noncomputable abbrev WB (w : World) (b0 : Heap) (c : Cx) (x : List Stmt) := W w b0 c Tru RFl (execs x c.env)
/-- what is done behind a statement -/
noncomputable def Nx (k : Loc → Store → Prop) (Q : FA → Loc → Store → Prop) : FA → Loc → Store → Prop
  | .next, m, T => k m T
  | .brk, m, T => Q .brk m T
  | .cont, m, T => Q .cont m T
  | .ret v, m, T => Q (.ret v) m T
theorem nx {k : Loc → Store → Prop} (h : k m T) : Nx k QF .next m T := h
theorem nr {k : Loc → Store → Prop} {v : AV} (h : QF (.ret v) m T) : Nx k QF (.ret v) m T := h
theorem b_nil (h : QF .next m T) : WB w b0 c [] m T QF X := ⟨fun s O _ => wpAny_execs_nil (res_same O .next h)⟩
section
variable (w : World) (b0 : Heap) (c : Cx) (X : Addr → Loc → Store → Prop)
noncomputable abbrev KSq (QF : FA → Loc → Store → Prop) (r : List Stmt) : Loc → Store → Prop := fun m T => WB w b0 c r m T QF X
noncomputable abbrev KRe (QF : FA → Loc → Store → Prop) : AV → Loc → Store → Prop := fun a m T => QF (.ret a) m T
noncomputable abbrev KEx (QF : FA → Loc → Store → Prop) : AV → Loc → Store → Prop := fun a m T => a = .none ∧ QF .next m T
noncomputable abbrev KIB (QF : FA → Loc → Store → Prop) (x y : List Stmt) : Bool → Loc → Store → Prop := fun b m T => (b = true → WB w b0 c x m T QF X) ∧ (b = false → WB w b0 c y m T QF X)
noncomputable abbrev KSA2 (QF : FA → Loc → Store → Prop) (n : Str) (a : AV) : AV → Loc → Store → Prop := fun b m T => SetAQ w b0 c n b a m T (QF .next) X
noncomputable abbrev KSA1 (QF : FA → Loc → Store → Prop) (n : Str) (o : Expr) : AV → Loc → Store → Prop := fun a m T => WE w b0 c o m T (KSA2 w b0 c X QF n a) X
noncomputable abbrev KSI3 (QF : FA → Loc → Store → Prop) (a b : AV) : AV → Loc → Store → Prop := fun k m T => SetIQ w b0 c b k a m T (QF .next) X
noncomputable abbrev KSI2 (QF : FA → Loc → Store → Prop) (i : Expr) (a : AV) : AV → Loc → Store → Prop := fun b m T => WE w b0 c i m T (KSI3 w b0 c X QF a b) X
noncomputable abbrev KSI1 (QF : FA → Loc → Store → Prop) (o i : Expr) : AV → Loc → Store → Prop := fun a m T => WE w b0 c o m T (KSI2 w b0 c X QF i a) X
end
theorem b_cons {st : Stmt} {r : List Stmt} (h : WS w b0 c st m T (Nx (KSq w b0 c X QF r) QF) X) : WB w b0 c (st :: r) m T QF X := ⟨fun s O _ => by
  with_reducible refine wpAny_execs_cons ?_
  refine h.then s O trivial fun va a m₁ T₁ s₁ ra O₁ _ x₁ hq => ?_
  cases ra with
  | next => exact wp_res x₁ (W.run hq s₁ O₁ trivial)
  | brk => exact (res_same (R := RFl) (Q := QF) O₁ .brk hq).back x₁
  | cont => exact (res_same (R := RFl) (Q := QF) O₁ .cont hq).back x₁
  | ret r => exact (res_same (R := RFl) (Q := QF) O₁ (.ret r) hq).back x₁⟩
theorem b_one {st : Stmt} (h : WS w b0 c st m T QF X) : WB w b0 c [st] m T QF X := b_cons (h.mono fun f m' T' q => by
  cases f with
  | next => exact b_nil q
  | _ => exact q)
theorem s_ret {e : Expr} {p : Pos} (h : WE w b0 c e m T (KRe QF) X) : WS w b0 c (.Return (some e) p) m T QF X := ⟨fun s O _ =>
  wpAny_Return_some (wpAny_mono (h.run s O trivial) (fun v s' zz => Res.elim zz fun b m' T' h1 h2 h3 h4 => ⟨_, m', T', .ret h1, h2, h3, h4⟩) fun _ _ e => e)⟩
theorem s_expr {e : Expr} {p : Pos} (h : WE w b0 c e m T (KEx QF) X) (hk : c.env.scope.kind = .function) (hs : swapsWith e none p.line c.env = pure false := by rfl) : WS w b0 c (.Expr e p) m T QF X := ⟨fun s O _ =>
  wpAny_Expr (wpAny_mono (h.run s O trivial) (fun v s' zz => Res.elim zz fun b m' T' h1 h2 h3 h4 => by obtain ⟨h4, h5⟩ := h4; subst h4; refine h1.E ?_; intro _; exact ⟨_, m', T', .next, h2, h3, h5⟩) fun _ _ e => e)
    (by unfold interactive; show (c.env.scope.kind == ScopeKind.module && _) = false; rw [hk]; rfl) hs⟩
theorem s_if {t : Expr} {x y : List Stmt} {p : Pos} (h : WT w b0 c t m T (KIB w b0 c X QF x y) X) : WS w b0 c (.If t x y p) m T QF X := ⟨fun s O _ =>
  wpAny_If (h.then s O trivial fun va a m₁ T₁ s₁ ra O₁ _ x₁ hq => by
    subst ra
    cases va with
    | true => exact wp_res x₁ ((hq.1 rfl).run s₁ O₁ trivial)
    | false => exact wp_res x₁ ((hq.2 rfl).run s₁ O₁ trivial))⟩
/-- a name set -/
theorem wp_store {x : Str} {v : Value} {a : AV} {m₂ : Loc} {α : Type} {R : Heap → α → FA → Prop} (O : OkF w b0 c m T s.heap) (hv : RV s.heap v a) (U : LU x a m m₂) (hk : c.env.scope.kind = .function) (hx : c.env.kindOf x = some .local)
    {g : Unit → Shared → Prop} {E : Value → Shared → Prop} (h : ∀ h', OkF w b0 c m₂ T h' → Stp (FLs c.fl) (c.C :: fps T) (fps T) s { s with heap := h', toks := s.toks + 1 } → KeepI s.heap h' → g () { s with heap := h', toks := s.toks + 1 }) : wpAny (model pr w) c.A (storeName c.env x v) g E s := by
  obtain ⟨_, mm, hn, hl⟩ := O.2
  refine wpAny_storeName_local hx (c.locals ▸ hn) (fun h' hn' hs => ?_) (by show (c.env.scope.kind == .class || (c.env.scope.kind == .module && _)) = false; rw [hk]; rfl)
  rw [c.locals] at hn' hs
  have O' := O.setL hl hn' hs hv U
  have st : Stp (FLs c.fl) (c.C :: fps T) (fps T) s { s with heap := h', toks := s.toks + 1 } := stp_setL (c := c) (let ⟨o, _, _, h1, _⟩ := hn'; ⟨o, h1⟩) hs
  exact h h' O' st (O.keepI st.ext)
theorem s_assignN {x : Str} {e : Expr} {p p' : Pos} (h : WE w b0 c e m T (fun a m₁ T₁ => ∃ m₂, LU x a m₁ m₂ ∧ QF .next m₂ T₁) X) (hk : c.env.scope.kind = .function) (hx : c.env.kindOf x = some .local)
    (hs : swapsWith e (some (.Name x p')) p.line c.env = pure false := by rfl) : WS w b0 c (.Assign [.Name x p'] e p) m T QF X := ⟨fun s O _ =>
  wpAny_Assign_Name (h.then s O trivial fun va a m₁ T₁ s₁ ra O₁ _ x₁ zz => by
    obtain ⟨m₂, U, hq⟩ := zz
    exact wp_store (R := RFl) O₁ ra U hk hx fun h' O' st ki => ⟨.next, m₂, T₁, .next, O', x₁.more st, hq⟩) hs⟩
theorem s_assignA {o e : Expr} {n : Str} {p p' : Pos} (h : WE w b0 c e m T (KSA1 w b0 c X QF n o) X)
    (hs : swapsWith e (some (.Attribute o n p')) p.line c.env = pure false := by rfl) : WS w b0 c (.Assign [.Attribute o n p'] e p) m T QF X := ⟨fun s O _ =>
  plainObj_wpAny_Assign_Attribute (h.then s O trivial fun va a m₁ T₁ s₁ ra O₁ _ x₁ hr => wp_back x₁ (W.then hr s₁ O₁ trivial fun vb b m₂ T₂ s₂ rb O₂ k₂ x₂ hq =>
    wpAny_mono ((hq vb va).run s₂ O₂ ⟨rb, ra.keepI k₂⟩) (fun _ _ zz => Res.elim zz fun _ m' T' _ h2 h3 h4 => ⟨.next, m', T', .next, h2, (x₁.more x₂).more h3, h4⟩) fun _ _ e => e.back (x₁.more x₂))) hs⟩
theorem s_assignI {o i e : Expr} {p p' : Pos} (h : WE w b0 c e m T (KSI1 w b0 c X QF o i) X)
    (hs : swapsWith e (some (.Subscript o i p')) p.line c.env = pure false := by rfl) : WS w b0 c (.Assign [.Subscript o i p'] e p) m T QF X := ⟨fun s O _ =>
  wpAny_Assign_Subscript (h.then s O trivial fun va a m₁ T₁ s₁ ra O₁ _ x₁ hr => wp_back x₁ (W.then hr s₁ O₁ trivial fun vb b m₂ T₂ s₂ rb O₂ k₂ x₂ hr₂ => wp_back (x₁.more x₂) (W.then hr₂ s₂ O₂ trivial fun vk k m₃ T₃ s₃ rk O₃ k₃ x₃ hq =>
    wpAny_mono ((hq vb vk va).run s₃ O₃ ⟨rb.keepI k₃, rk, (ra.keepI k₂).keepI k₃⟩) (fun _ _ zz => Res.elim zz fun _ m' T' _ h2 h3 h4 => ⟨.next, m', T', .next, h2, ((x₁.more x₂).more x₃).more h3, h4⟩) fun _ _ e => e.back ((x₁.more x₂).more x₃)))) hs⟩
/- displays -/
noncomputable abbrev WEs (w : World) (b0 : Heap) (c : Cx) (es : List Expr) (p : Pos) := W w b0 c Tru RVs (spliced (backTo p (starEach es c.env)))
section
variable {Qs : List AV → Loc → Store → Prop} {p : Pos}
theorem es_nil (h : Qs [] m T) : WEs w b0 c [] p m T Qs X := ⟨fun s O _ => spliced_none (res_same O .nil h)⟩
section
variable (w : World) (b0 : Heap) (c : Cx) (X : Addr → Loc → Store → Prop)
noncomputable abbrev KE2 (Qs : List AV → Loc → Store → Prop) (a : AV) : List AV → Loc → Store → Prop := fun xs m T => Qs (a :: xs) m T
noncomputable abbrev KE1 (Qs : List AV → Loc → Store → Prop) (r : List Expr) (p : Pos) : AV → Loc → Store → Prop := fun a m T => WEs w b0 c r p m T (KE2 Qs a) X
noncomputable abbrev KTu (Q : AV → Loc → Store → Prop) : List AV → Loc → Store → Prop := fun xs m T => xs.length ≤ 16777216 ∧ Q (.tup xs) m T
noncomputable abbrev KLi (Q : AV → Loc → Store → Prop) : List AV → Loc → Store → Prop := fun xs m T => xs.length ≤ 16777216 ∧ ∀ z, Q (rf z) m ((z, .list xs) :: T)
end
theorem es_cons {e : Expr} {r : List Expr} (h : WE w b0 c e m T (KE1 w b0 c X Qs r p) X) (he : starEach (e :: r) c.env = (false, eval e c.env) :: starEach r c.env := by rfl) : WEs w b0 c (e :: r) p m T Qs X := ⟨fun s O _ =>
  spliced_more (h.then s O trivial fun va a m₁ T₁ s₁ ra O₁ _ x₁ hr => wp_back x₁ (W.then hr s₁ O₁ trivial fun vb b m₂ T₂ s₂ rb O₂ k₂ x₂ hq =>
    (res_same (R := RVs) O₂ (.cons (ra.keepI k₂) rb) hq).back (x₁.more x₂))) he⟩
end
theorem e_tup {es : List Expr} {k : Nat} {p : Pos} (h : WEs w b0 c es p m T (KTu Q) X) : WE w b0 c (.Tuple es k p) m T Q X := ⟨fun s O _ =>
  Tuple_ (h.then s O trivial fun vs xs m₁ T₁ s₁ rs O₁ _ x₁ ⟨hz, hq⟩ => by
    refine wpAny_newObj_type ?_ (by show vs.toArray.size ≤ sizeLine; rw [List.size_toArray, rs.length, sizeLine_eq]; exact hz)
    have g := Grow.push s₁.heap { cls := .type "tuple", data := .seq vs.toArray }
    exact (res_grow (tk := s₁.toks) O₁ g (.tup (n := 0) (vs := vs) (Heap.get?_push_size _ rfl) (rs.keepI g.keepI)) hq).back x₁)⟩
theorem e_list {es : List Expr} {p : Pos} (h : WEs w b0 c es p m T (KLi Q) X) : WE w b0 c (.List es p) m T Q X := ⟨fun s O _ =>
  List_ (h.then s O trivial fun vs xs m₁ T₁ s₁ rs O₁ _ x₁ ⟨hz, hq⟩ => by
    refine wpAny_newObj_type ?_ (by show vs.toArray.size ≤ sizeLine; rw [List.size_toArray, rs.length, sizeLine_eq]; exact hz)
    have g := Grow.push s₁.heap { cls := .type "list", data := .seq vs.toArray }
    exact (res_new (a := s₁.heap.objs.size) (o := .list xs) (tk := s₁.toks) O₁ g ⟨vs, 0, Heap.get?_push_size _ rfl, rs.keepI g.keepI⟩ (by simp [fp]) (fun x hx => by rw [List.mem_singleton.mp hx]; exact noneAt _ (Nat.le_refl _)) (.raw _) (hq _)).back x₁)⟩
/- calls -/
noncomputable def CallQ (w : World) (b0 : Heap) (c : Cx) (f : AV) (xs : List AV) (m : Loc) (T : Store) (Q : AV → Loc → Store → Prop) (X : Addr → Loc → Store → Prop) : Prop :=
  ∀ vf vs, W w b0 c (fun h => RV h vf f ∧ RVs h vs xs) RV (call vf vs) m T Q X
section
variable (w : World) (b0 : Heap) (c : Cx) (X : Addr → Loc → Store → Prop)
noncomputable abbrev KCa (Q : AV → Loc → Store → Prop) (f : AV) (as : List AV) : List AV → Loc → Store → Prop := fun xs m T => CallQ w b0 c f (as ++ xs) m T Q X
noncomputable abbrev KCl (Q : AV → Loc → Store → Prop) (f : AV) : List AV → Loc → Store → Prop := fun xs m T => CallQ w b0 c f xs m T Q X
end
noncomputable def KeepQ (w : World) (f : AV) : Prop := ∀ vf h, (KK w).In h ∧ RV h vf f → ∃ k, (k = Keeper.frame ∨ k = Keeper.machine ∨ k = Keeper.boundFrame) ∧ Looks (model pr w) h (keeperOf vf) k
theorem keep_fn {a : Addr} (h : keepIn (hd.heap_39 w.params) (.ref a) = true) : KeepQ w (rf a) := fun vf hh ⟨KI, r⟩ => by refine r.E ?_; intro _; exact keeps_K h hh KI
theorem keep_builtin {id : String} : KeepQ w (.raw (.builtin id)) := fun vf hh ⟨KI, r⟩ => by refine r.E ?_; intro _; exact ⟨.machine, .inr (.inl rfl), Looks.of_pure rfl⟩
theorem keep_type {id : String} : KeepQ w (.raw (.type id)) := fun vf hh ⟨KI, r⟩ => by refine r.E ?_; intro _; exact ⟨.machine, .inr (.inl rfl), Looks.of_pure rfl⟩
theorem keep_clo {k : Nat} {a : Addr} : KeepQ w (.clo k a) := fun vf hh ⟨KI, r⟩ => by
  cases r with
  | clo ho hd => exact ⟨.frame, .inl rfl, (Looks.ld (part := none) ho).andThen (by rw [hd]; exact .now)⟩
theorem wp_callWith {f : Value} {first : List Value} {args : List Expr} {p : Pos} {af : AV} {as : List AV} (G : Gd w b0) (hp : (backTo p (starEach args c.env)).any (·.1) = false) (O : OkF w b0 c m T s.heap) (rf : RV s.heap f af) (rs : RVs s.heap first as) (hk : KeepQ w af)
    (h : WEs w b0 c args p m T (KCa w b0 c X Q af as) X) : wpAny (model pr w) c.A (callWith p f first (backTo p (starEach args c.env)) []) (Res w b0 c RV s T Q) (Exc w b0 c s T X) s := by
  refine callWith_of (P := fun h => (KK w).In h ∧ RV h f af) (by rw [hp]; rfl) (fun h => hk f h) ?_
  have done : wpAny (model pr w) c.A (spliced (backTo p (starEach args c.env))) (fun vs s₁ => ((KK w).In s₁.heap ∧ RV s₁.heap f af) ∧ wpAny (model pr w) c.A (call f (first ++ vs) []) (Res w b0 c RV s T Q) (Exc w b0 c s T X) s₁) (Exc w b0 c s T X) s :=
    h.then s O trivial fun vs xs m₁ T₁ s₁ rx O₁ k₁ x₁ hq => ⟨⟨G.K.keeps O₁.1.stay, rf.keepI k₁⟩, wp_res x₁ ((hq f (first ++ vs)).run s₁ O₁ ⟨rf.keepI k₁, (rs.keepI k₁).append rx⟩)⟩
  cases hb : backTo p (starEach args c.env) with
  | nil =>
    rw [hb] at done
    unfold evalArgs
    show wpAny _ _ (spliced [] >>= _) _ _ s
    refine wpAny_bind (wpAny_mono done (fun vs s' h' => ?_) fun _ _ x => x)
    refine wpAny_bind (wpAny_pure ?_)
    refine wpAny_holding ?_
    exact wpAny_bind (wpAny_pure (wpAny_bind (wpAny_pure (wpAny_pure h'))))
  | cons y r =>
    obtain ⟨b, x⟩ := y
    rw [hb] at done hp
    obtain rfl : b = false := by cases b with | false => rfl | true => simp at hp
    exact evalArgs_plain done
end
end
section
section
variable {w : World} {b0 : Heap} {c : Cx} {m m₁ m' : Loc} {T T' T₁ T₂ : Store} {s s₁ s₂ : Shared} {Q : AV → Loc → Store → Prop} {QF : FA → Loc → Store → Prop} {X : Addr → Loc → Store → Prop} {i j : Int}
section
variable (w : World) (b0 : Heap) (c : Cx) (X : Addr → Loc → Store → Prop)
noncomputable abbrev KF (Q : AV → Loc → Store → Prop) (args : List Expr) (p : Pos) : AV → Loc → Store → Prop := fun f m T => KeepQ w f ∧ WEs w b0 c args p m T (KCl w b0 c X Q f) X
end
theorem e_callN {x : Str} {args : List Expr} {p q : Pos} (G : Gd w b0) (h : WE w b0 c (.Name x q) m T (KF w b0 c X Q args p) X)
    (hp : (backTo p (starEach args c.env)).any (·.1) = false := by rfl) : WE w b0 c (.Call (.Name x q) args [] p) m T Q X := ⟨fun s O _ =>
  Call_ (h.then s O trivial fun vf f m₁ T₁ s₁ rf O₁ _ x₁ ⟨hk, hq⟩ => wp_res x₁ (wp_callWith G hp O₁ rf .nil hk hq))⟩
theorem e_callS {x y : Expr} {args : List Expr} {p q : Pos} (G : Gd w b0) (h : WE w b0 c (.Subscript x y q) m T (KF w b0 c X Q args p) X)
    (hp : (backTo p (starEach args c.env)).any (·.1) = false := by rfl) : WE w b0 c (.Call (.Subscript x y q) args [] p) m T Q X := ⟨fun s O _ =>
  Call_ (h.then s O trivial fun vf f m₁ T₁ s₁ rf O₁ _ x₁ ⟨hk, hq⟩ => wp_res x₁ (wp_callWith G hp O₁ rf .nil hk hq))⟩
/-- a method asked for -/
noncomputable def RMe (h : Heap) (v : Value × List Value) (a : AV × List AV) : Prop := RV h v.1 a.1 ∧ RVs h v.2 a.2
noncomputable def MethQ (w : World) (b0 : Heap) (c : Cx) (n : Str) (a : AV) (m : Loc) (T : Store) (Q : AV × List AV → Loc → Store → Prop) (X : Addr → Loc → Store → Prop) : Prop :=
  ∀ va pl, W w b0 c (fun h => RV h va a) RMe (getMethod va n pl) m T Q X
section
variable (w : World) (b0 : Heap) (c : Cx) (X : Addr → Loc → Store → Prop)
noncomputable abbrev KM2 (Q : AV → Loc → Store → Prop) (args : List Expr) (p : Pos) : AV × List AV → Loc → Store → Prop := fun f m T => KeepQ w f.1 ∧ WEs w b0 c args p m T (KCa w b0 c X Q f.1 f.2) X
noncomputable abbrev KM1 (Q : AV → Loc → Store → Prop) (args : List Expr) (p : Pos) (n : Str) : AV → Loc → Store → Prop := fun a m T => MethQ w b0 c n a m T (KM2 w b0 c X Q args p) X
end
theorem e_callM {o : Expr} {n : Str} {args : List Expr} {ap p : Pos} (G : Gd w b0) {pl : Sem Bool} (h : WE w b0 c o m T (KM1 w b0 c X Q args p n) X)
    (he : eval (.Call (.Attribute o n ap) args [] p) c.env = (do
      let ov ← eval o c.env
      standAt ap.atName
      let (f, first) ← holding [ov] (getMethod ov n pl)
      callWith p f first (backTo p (starEach args c.env)) []))
    (hp : (backTo p (starEach args c.env)).any (·.1) = false := by rfl) : WE w b0 c (.Call (.Attribute o n ap) args [] p) m T Q X := ⟨fun s O _ =>
  MethodCall_ (h.then s O trivial fun va a m₁ T₁ s₁ ra O₁ _ x₁ hr => wp_back x₁ (W.then (hr va pl) s₁ O₁ ra fun vf f m₂ T₂ s₂ rf O₂ k₂ x₂ ⟨hk, hq⟩ =>
    wpAny_mono (wp_callWith G hp O₂ rf.1 rf.2 hk hq) (fun _ _ e => e.back (x₁.more x₂)) fun _ _ e => e.back (x₁.more x₂))) he⟩
theorem me_list {x : Addr} {xs : List AV} {n : Str} {id : String} {Q : AV × List AV → Loc → Store → Prop} (hx : (x, .list xs) ∈ T) (slot : Slot "list" n id) (hty : typeOf (.builtin id) = pure (.type "method_descriptor")) (h : Q (.raw (.builtin id), [rf x]) m T) : MethQ w b0 c n (rf x) m T Q X := fun va pl => ⟨fun s O ra => by
  refine ra.E ?_; intro _
  obtain ⟨vs, k, h1, r1⟩ := O.1.rep _ hx
  have hl : s.heap.IsList x vs.toArray := ⟨_, h1, rfl, k, rfl⟩
  exact getMethod_list_of slot hty hl ⟨_, h1, rfl⟩ (res_same (R := RMe) O ⟨.raw _, .cons (.raw _) .nil⟩ h)⟩
theorem me_dict {x : Addr} {kvs : List (Int × AV)} {n : Str} {id : String} {Q : AV × List AV → Loc → Store → Prop} (hx : (x, .idict kvs) ∈ T) (slot : Slot "dict" n id) (hty : typeOf (.builtin id) = pure (.type "method_descriptor")) (h : Q (.raw (.builtin id), [rf x]) m T) : MethQ w b0 c n (rf x) m T Q X := fun va pl => ⟨fun s O ra => by
  refine ra.E ?_; intro _
  obtain ⟨lo, es, D, P⟩ := O.1.rep _ hx
  exact getMethod_builtin D.typeIs PySem.F.plainAttrs_dict slot hty (fun a e => by cases e; exact D.mapOf.noDict _ rfl) (res_same (R := RMe) O ⟨.raw _, .cons (.raw _) .nil⟩ h)⟩
/-- a method of the class -/
theorem me_inst {x C d f : Addr} {fs : Loc} {n : Str} {Q : AV × List AV → Loc → Store → Prop} (G : Gd w b0) (hx : (x, .inst C d fs) ∈ T) (hf0 : ∀ h es, Flds h es fs → getL n es = some none)
    (hg : plainGet (hd.heap_39 w.params) C n = true) (hf : findIn (hd.heap_39 w.params) (.ref C) n = some (some (.ref f))) (ht : isFn (hd.heap_39 w.params) (.ref f) = true) (h : Q (rf f, [rf x]) m T) : MethQ w b0 c n (rf x) m T Q X := fun va pl => ⟨fun s O ra => by
  refine ra.E ?_; intro _
  obtain ⟨sl, es, k, I, F⟩ := instAt (O.1.rep _ hx)
  have KI := G.K.keeps O.1.stay
  have hsh : shadowIn (some (dictOf es k)) n = some false := by show (lookIn n (dictOf es k)).map _ = _; rw [lookIn_dict, hf0 _ _ F]; rfl
  exact method_fn KI I (plainGet_of hg).1 (plainGet_of hg).2 hf (beq_iff_eq.mp ht) hsh (res_same (R := RMe) O ⟨.raw _, .cons (.raw _) .nil⟩ h)⟩
/-- a field that is called -/
theorem me_field {x C d : Addr} {fs : Loc} {n : Str} {a : AV} {Q : AV × List AV → Loc → Store → Prop} (G : Gd w b0) (hx : (x, .inst C d fs) ∈ T) (hl : LG n a fs) (ha : a.hand = true)
    (hg : plainGet (hd.heap_39 w.params) C n = true) (hh : hasDictIn (hd.heap_39 w.params) C = true) (hf : findIn (hd.heap_39 w.params) (.ref C) n = some none) (h : Q (a, []) m T) : MethQ w b0 c n (rf x) m T Q X := fun va pl => ⟨fun s O ra => by
  refine ra.E ?_; intro _
  obtain ⟨sl, es, k, I, F⟩ := instAt (O.1.rep _ hx)
  have KI := G.K.keeps O.1.stay
  obtain ⟨v, h1, h2⟩ := F.get hl
  exact method_usual KI I (plainGet_of hg).1 (plainGet_of hg).2 hf rfl (get_value KI I (plainGet_of hg).1 (findObj_own hh hf rfl (lookIn_dict n es k ▸ h1)) (h2.handed ha) (res_here (R := RMe) O ⟨h2, .nil⟩ h _))⟩
/- what comes built in -/
theorem RVs.one {h : Heap} {vs : List Value} {a : AV} (r : RVs h vs [a]) : ∃ v, vs = [v] ∧ RV h v a := r.oneE fun v a => ⟨v, rfl, a⟩
theorem RVs.two {h : Heap} {vs : List Value} {a b : AV} (r : RVs h vs [a, b]) : ∃ v u, vs = [v, u] ∧ RV h v a ∧ RV h u b := r.twoE fun v u a b => ⟨v, u, rfl, a, b⟩
theorem RVs.three {h : Heap} {vs : List Value} {a b d : AV} (r : RVs h vs [a, b, d]) : ∃ v u x, vs = [v, u, x] ∧ RV h v a ∧ RV h u b ∧ RV h x d := r.threeE fun v u x a b d => ⟨v, u, x, rfl, a, b, d⟩
theorem k_abs (h : Q (.int (i.natAbs : Int)) m T) : CallQ w b0 c (.raw (.builtin "abs")) [.int i] m T Q X := fun vf vs => ⟨fun s O ⟨rf, rs⟩ => by
  refine rf.E ?_; intro _
  refine rs.oneE fun v r => ?_
  refine r.E ?_; intro _
  have e : (if i < 0 then -i else i) = (i.natAbs : Int) := by split <;> omega
  with_reducible refine PyProof.Rows.call_abs_int (fun u tk => ?_)
  rw [e]
  exact res_here O (.int _ _) h tk⟩
theorem k_max (hh : c.A.handled = none) (h : Q (.int (max i j)) m T) : CallQ w b0 c (.raw (.builtin "max")) [.int i, .int j] m T Q X := fun vf vs => ⟨fun s O ⟨rf, rs⟩ => by
  refine rf.E ?_; intro _
  refine rs.twoE fun v u r q => ?_
  refine r.E ?_; intro _; refine q.E ?_; intro _
  refine max_two_ints hh fun h' tk g => ?_
  have g' : Grow s.heap h' := g
  split
  · rename_i hc
    rw [show max i j = j from by omega] at h
    exact res_grow O g' (.int _ _) h
  · rename_i hc
    rw [show max i j = i from by omega] at h
    exact res_grow O g' (.int _ _) h⟩
theorem k_lenl {x : Addr} {xs : List AV} (hx : (x, .list xs) ∈ T) (hz : xs.length < 2 ^ 62) (h : Q (.int xs.length) m T) : CallQ w b0 c (.raw (.builtin "len")) [rf x] m T Q X := fun vf vs => ⟨fun s O ⟨r, rs⟩ => by
  refine r.E ?_; intro _
  refine rs.oneE fun v r => ?_
  refine r.E ?_; intro _
  obtain ⟨us, h1, r1⟩ := listAt (O.1.rep _ hx)
  refine PyProof.Rows.len_list h1 (by rw [List.size_toArray, r1.length]; omega) ?_
  rw [List.size_toArray, r1.length]
  exact res_here O (.int _ _) h _⟩
theorem k_lent {xs : List AV} (hz : xs.length < 2 ^ 62) (h : Q (.int xs.length) m T) : CallQ w b0 c (.raw (.builtin "len")) [.tup xs] m T Q X := fun vf vs => ⟨fun s O ⟨r, rs⟩ => by
  refine r.E ?_; intro _
  refine rs.oneE fun v r => ?_
  refine r.tupE fun t us q h1 r1 => ?_
  have ht : PyProof.Rows.IsTup s.heap t us.toArray := ⟨_, h1, rfl, q, rfl⟩
  refine PyProof.Rows.len_tuple ht (by rw [List.size_toArray, r1.length]; omega) ?_
  rw [List.size_toArray, r1.length]
  exact res_here O (.int _ _) h _⟩
/- lists turned -/
theorem k_append {x : Addr} {xs : List AV} {a : AV} (U : TU x (.list xs) (.list (xs ++ [a])) T T') (hz : xs.length ≤ 1000000) (h : Q .none m T') : CallQ w b0 c (.raw (.builtin "list.append")) [rf x, a] m T Q X := fun vf vs => ⟨fun s O ⟨r, rs⟩ => by
  refine r.E ?_; intro _
  refine rs.twoE fun v u r q => ?_
  refine r.E ?_; intro _
  obtain ⟨us, n, h1, r1⟩ := O.1.rep _ U.mem
  refine PyProof.Rows.append_at h1 (fun h' hs h2 => ?_) (by rw [List.size_toArray, r1.length, sizeLine_eq]; omega)
  have k1 := turn1 (o := .list xs) (o' := .list xs) hs
  have ki := keepI_turn (O.1.rep _ U.mem) k1
  exact res_turn (tk := s.toks) O U k1 ⟨us ++ [u], n + 1, by rw [h2]; simp, (r1.keepI ki).append (.cons (q.keepI ki) .nil)⟩ rfl .none h⟩
theorem RVs.splitLast {h : Heap} : ∀ {us : List Value} {xs : List AV} {a : AV}, RVs h us (xs ++ [a]) → ∃ ws u, us = ws ++ [u] ∧ RVs h ws xs ∧ RV h u a
  | us, [], a, r => by
    obtain ⟨v, e, r⟩ := RVs.one r
    exact ⟨[], v, e, .nil, r⟩
  | _, _ :: xs, a, .cons b r => by
    obtain ⟨ws, u, rfl, h1, h2⟩ := RVs.splitLast r
    exact ⟨_ :: ws, u, rfl, .cons b h1, h2⟩
theorem k_pop {x : Addr} {xs : List AV} {a : AV} (U : TU x (.list (xs ++ [a])) (.list xs) T T') (hz : xs.length ≤ 1000000) (h : Q a m T') : CallQ w b0 c (.raw (.builtin "list.pop")) [rf x] m T Q X := fun vf vs => ⟨fun s O ⟨r, rs⟩ => by
  refine r.E ?_; intro _
  refine rs.oneE fun v r => ?_
  refine r.E ?_; intro _
  obtain ⟨us, n, h1, r1⟩ := O.1.rep _ U.mem
  obtain ⟨us, u, rfl, r1, r2⟩ := r1.splitLast
  have hl := r1.length
  have hz' : (us ++ [u]).toArray.size ≤ sizeLine := by rw [List.size_toArray, List.length_append, hl, sizeLine_eq, List.length_singleton]; omega
  have hk : (us ++ [u]).toArray.size - 1 = us.length := by rw [List.size_toArray, List.length_append]; rfl
  have hy : (us ++ [u]).toArray[(us ++ [u]).toArray.size - 1]? = some u := by rw [hk]; simp
  have e : (us ++ [u]).toArray.eraseIdxIfInBounds ((us ++ [u]).toArray.size - 1) = us.toArray := by
    rw [hk]
    apply Array.toList_inj.mp
    simp [List.eraseIdx_append_of_length_le]
  have h2 := PySem.IsL.update (l := x) (items := (us ++ [u]).toArray) (n := n) h1 (fun z => z.eraseIdxIfInBounds ((us ++ [u]).toArray.size - 1))
  rw [e] at h2
  have hs : Heap.SameBut x s.heap (s.heap.update x (Obj.mapSeq fun z => z.eraseIdxIfInBounds ((us ++ [u]).toArray.size - 1))) := Heap.SameBut.update ..
  have k1 := turn1 (o := .list (xs ++ [a])) (o' := .list xs) hs
  have ki := keepI_turn (O.1.rep _ U.mem) k1
  exact call_meets PySem.F.slot_list_pop ⟨_, h1, rfl⟩ PySem.F.entry_list_pop (PySem.F.args_list_pop_1 _) (PySem.MeetsSeq.list_pop_last x _ n u hy hz') ⟨h1, res_turn (tk := s.toks) O U k1 ⟨us, _, h2, r1.keepI ki⟩ rfl (r2.keepI ki) h⟩⟩
theorem k_extend {x y : Addr} {xs ys : List AV} (U : TU x (.list xs) (.list (xs ++ ys)) T T') (hy : (y, .list ys) ∈ T) (hz : xs.length + ys.length ≤ 1000000) (h : Q .none m T') : CallQ w b0 c (.raw (.builtin "list.extend")) [rf x, rf y] m T Q X := fun vf vs => ⟨fun s O ⟨r, rs⟩ => by
  refine r.E ?_; intro _
  refine rs.twoE fun v u r q => ?_
  refine r.E ?_; intro _; refine q.E ?_; intro _
  obtain ⟨us, n, h1, r1⟩ := O.1.rep _ U.mem
  obtain ⟨ws, k, h2, r2⟩ := O.1.rep _ hy
  have h3 := PySem.IsL.update (l := x) (items := us.toArray) (n := n) h1 (fun z => z ++ ws.toArray)
  have e : us.toArray ++ ws.toArray = (us ++ ws).toArray := by simp
  rw [e] at h3
  have l1 := r1.length
  have l2 := r2.length
  have hs : Heap.SameBut x s.heap (s.heap.update x (Obj.mapSeq fun z => z ++ ws.toArray)) := Heap.SameBut.update ..
  have k1 := turn1 (o := .list xs) (o' := .list (xs ++ ys)) hs
  have ki := keepI_turn (O.1.rep _ U.mem) k1
  refine call_meets PySem.F.slot_list_extend ⟨_, h1, rfl⟩ PySem.F.entry_list_extend (PySem.F.args_list_extend_2 _ _) (PySem.AutoSeq1.list_extend_list_list_0 x us.toArray n y ws.toArray k ?_ ?_ ?_) ⟨h1, h2, res_turn (tk := s.toks) O U k1 ⟨us ++ ws, _, h3, (r1.keepI ki).append (r2.keepI ki)⟩ rfl .none h⟩
  · intro q
    simp only [Bool.and_eq_true] at q
    have := q.2
    unfold Builtin.List.listTooLong at this
    have := of_decide_eq_true this
    have hq := sizeLine_eq
    simp only [List.size_toArray] at this
    omega
  · have hq := sizeLine_eq
    simp only [List.size_toArray]
    omega
  · have hq := sizeLine_eq
    simp only [List.size_toArray]
    omega⟩
theorem k_get {x : Addr} {kvs : List (Int × AV)} {k : Int} {a : AV} (hx : (x, .idict kvs) ∈ T) (h : Q ((getA kvs k).getD a) m T) : CallQ w b0 c (.raw (.builtin "dict.get")) [rf x, .int k, a] m T Q X := fun vf vs => ⟨fun s O ⟨r, rs⟩ => by
  refine r.E ?_; intro _
  refine rs.threeE fun v u y r q z => ?_
  refine r.E ?_; intro _; refine q.E ?_; intro _
  obtain ⟨lo, es, D, P⟩ := O.1.rep _ hx
  have hr : RV s.heap ((valueAt es k).getD y) ((getA kvs k).getD a) := by
    rcases P.get k with ⟨v, a', h1, h2, h3⟩ | ⟨h1, h2⟩
    · have h1' : valueAt es k = some v := h1
      rw [h1', h2]; exact h3
    · have h1' : valueAt es k = none := h1
      rw [h1', h2]; exact z
  exact call_meetsIn PySem.F.slot_dict_get D.typeIs PySem.F.entry_dict_get (PySem.F.args_dict_get_3 _ _ _) (meets_dict_get_default (intKind pr w) x (intKind_is pr w k _) lo y) ⟨_, D.mapOf, res_here O hr h _⟩⟩
end
end
section
theorem RO.noFields {w : World} {h : Heap} {a : Addr} {o : AO} (r : RO w h a o) : ∀ x ∈ fp (a, o), ∃ ob, h.get? x = some ob ∧ ∀ vs, ob.data = .fields vs → ob.cls = .none := by
  intro x hx
  cases o with
  | list xs =>
    obtain ⟨vs, n, ho, _⟩ := r
    rw [fp, List.mem_singleton] at hx
    subst hx
    exact ⟨_, ho, fun vs e => (nomatch e)⟩
  | inst C d fs =>
    obtain ⟨sl, es, n, h1, h2, _⟩ := r
    simp only [fp, List.mem_cons, List.not_mem_nil, or_false] at hx
    rcases hx with rfl | rfl
    · exact ⟨_, h1, fun vs e => (nomatch e)⟩
    · exact ⟨_, h2, fun vs e => (nomatch e)⟩
  | idict kvs =>
    obtain ⟨_, kvs', ⟨ob, es, ep, ho, _, hd, _⟩, _⟩ := r
    rw [fp, List.mem_singleton] at hx
    subst hx
    exact ⟨ob, ho, fun vs e => by rw [hd] at e; cases e⟩
  | sdict kvs =>
    obtain ⟨_, kvs', ⟨ob, es, ep, ho, _, hd, _⟩, _⟩ := r
    rw [fp, List.mem_singleton] at hx
    subst hx
    exact ⟨ob, ho, fun vs e => by rw [hd] at e; cases e⟩
  | cell v =>
    obtain ⟨ob, ov, ho, hd, _⟩ := r
    rw [fp, List.mem_singleton] at hx
    subst hx
    exact ⟨ob, ho, fun vs e => by rw [hd] at e; cases e⟩
  | tab qs =>
    obtain ⟨ps, ho, _⟩ := r
    rw [fp, List.mem_singleton] at hx
    subst hx
    exact ⟨_, ho, fun _ _ => rfl⟩
/-- classes of records that stay, or that are the store's -/
noncomputable abbrev ImmX (v : Value) : Prop := ImmC v ∨ v = .none
section
variable {w : World} {b0 : Heap} {c : Cx} {m m₁ m' : Loc} {T T' T₁ T₂ : Store} {s s₀ s₁ s₂ : Shared} {h h' : Heap}
/-- records that are no code turned, and frames' slots -/
structure ExcChg (b0 : Heap) (fl : List Addr) (ex : List Addr) (h h' : Heap) : Prop where
  ext : Ext fl ex h h'
  alive : ∀ b o, h.get? b = some o → ∃ o', h'.get? b = some o'
  rcd : ∀ x ∈ ex, h.get? x = none ∨ ∃ o vs, h.get? x = some o ∧ o.data = .fields vs ∧ ¬ ImmX o.cls
  new : ∀ x ∈ ex, b0.get? x = none
theorem ExcChg.refl (b0 : Heap) (fl : List Addr) (h : Heap) : ExcChg b0 fl [] h h := ⟨fun _ o e _ => ⟨fun _ => e, o.slots, e⟩, fun _ o e => ⟨o, e⟩, fun _ hx => (nomatch hx), fun _ hx => (nomatch hx)⟩
theorem OkF.exc {ex : List Addr} (O : OkF w b0 c m T h) (x : ExcChg b0 (FLs c.fl) ex h h') : OkF w b0 c m T h' := by
  have hcat := O.Cat
  obtain ⟨H, hC, mm, hn, hl⟩ := O
  have nT : ∀ z ∈ fps T, z ∉ ex := fun z hz q => by
    obtain ⟨p, hp, hz'⟩ := List.mem_flatMap.mp hz
    obtain ⟨o, h1, h2⟩ := (H.rep p hp).noFields z hz'
    rcases x.rcd z q with e | ⟨o', vs, e, d, k⟩
    · rw [h1] at e; cases e
    · rw [h1] at e; cases e; exact k (.inr (h2 vs d))
  have nF : ∀ z ∈ FLs c.fl, z ∉ ex := fun z hz q => by
    obtain ⟨o, es, ep, h1, h2⟩ := H.fdict z hz
    rcases x.rcd z q with e | ⟨o', vs, e, d, _⟩
    · rw [h1] at e; cases e
    · rw [h1] at e; cases e; rw [h2] at d; cases d
  have ki : KeepI h h' := fun b o e hi => by
    have n1 : b ∉ FLs c.fl := fun q => by
      obtain ⟨o', es, ep, h1, h2⟩ := H.fdict b q
      rw [e] at h1; cases h1
      unfold Imm at hi; rw [h2] at hi; exact hi
    refine (x.ext b o e fun q => ?_).1 n1
    rcases x.rcd b q with z | ⟨o', vs, z, d, k⟩
    · rw [e] at z; cases z
    · rw [e] at z; cases z
      unfold Imm at hi; rw [d] at hi; exact k (.inl hi)
  have fr : ∀ z ∈ FLs c.fl, ∀ o, h.get? z = some o → ∃ o', h'.get? z = some o' ∧ o'.data = o.data := fun z hz o e => by
    obtain ⟨sl, h2⟩ := (x.ext z o e (nF z hz)).2
    exact ⟨_, h2, rfl⟩
  obtain ⟨oL, es, ep, hL, hLd, hr⟩ := hn
  have nC : c.C ∉ ex := fun q => by
    rcases x.rcd _ q with e | ⟨o', vs, e, d, _⟩
    · rw [hL] at e; cases e
    · rw [hL] at e; cases e; rw [hLd] at d; cases d
  obtain ⟨slC, hL'⟩ := (x.ext c.C oL hL nC).2
  refine ⟨⟨fun b o e => ?_, funFrames_at H.frames fr, fun z hz => ?_, fun p hp => (H.rep p hp).keep ki fun z hz ob e => (x.ext z ob e (nT z (mem_fps hp hz))).1 (H.off z (mem_fps hp hz)), H.nodup, H.fresh, H.off⟩, hC, mm, ⟨_, es, ep, hL', hLd, hr⟩, fun p hp => let ⟨v, a, b⟩ := hl p hp; ⟨v, a, b.keepI ki⟩⟩
  · have n1 : b ∉ ex := fun q => by have := x.new b q; rw [e] at this; cases this
    have n2 : b ∉ FLs c.fl := fun q => by
      obtain ⟨env, he, hf⟩ := List.mem_filterMap.mp q
      obtain ⟨h1, _⟩ := H.frames.mem q
      rw [e] at h1; cases h1
    exact (x.ext b o (H.stay b o e) n1).1 n2
  · obtain ⟨o, es, ep, h1, h2⟩ := H.fdict z hz
    obtain ⟨o', h3, h4⟩ := fr z hz o h1
    exact ⟨o', es, ep, h3, h4.trans h2⟩
theorem Stp.exc {fl F F' ex : List Addr} {s₀ s s' : Shared} (x : Stp fl F F' s₀ s) (y : ExcChg b0 fl ex s.heap s'.heap) (hn : ∀ z ∈ ex, s₀.heap.get? z = Option.none) (h1 : s'.gens = s.gens := by rfl) (h2 : s'.drawn = s.drawn := by rfl) (h3 : s'.os = s.os := by rfl) : Stp fl F F' s₀ s' := by
  refine ⟨fun b o e hb => ?_, fun b o e => ?_, x.new, h1.trans x.gens, h2.trans x.drawn, h3.trans x.os⟩
  · have n : b ∉ ex := fun q => by have := hn b q; rw [e] at this; cases this
    obtain ⟨a1, sl, a2⟩ := x.ext b o e hb
    refine ⟨fun q => (y.ext b o (a1 q) n).1 q, ?_⟩
    obtain ⟨_, sl', a3⟩ := y.ext b _ a2 n
    exact ⟨sl', a3⟩
  · obtain ⟨o', e'⟩ := x.alive b o e
    exact y.alive b o' e'

theorem ExcChg.trans {fl e₁ e₂ : List Addr} {h₁ h₂ h₃ : Heap} (x : ExcChg b0 fl e₁ h₁ h₂) (y : ExcChg b0 fl e₂ h₂ h₃) (hr : ∀ z ∈ e₂, h₁.get? z = none ∨ z ∈ e₁ ∨ ∃ o vs, h₁.get? z = some o ∧ o.data = .fields vs ∧ ¬ ImmX o.cls) : ExcChg b0 fl (e₁ ++ e₂) h₁ h₃ := by
  refine ⟨fun b o e hb => ?_, fun b o e => let ⟨o', e'⟩ := x.alive b o e; y.alive b o' e', fun z hz => ?_, fun z hz => (List.mem_append.mp hz).elim (x.new z) (y.new z)⟩
  · have n1 : b ∉ e₁ := fun q => hb (List.mem_append_left _ q)
    have n2 : b ∉ e₂ := fun q => hb (List.mem_append_right _ q)
    obtain ⟨a1, sl, a2⟩ := x.ext b o e n1
    refine ⟨fun q => (y.ext b o (a1 q) n2).1 q, ?_⟩
    obtain ⟨_, sl', a3⟩ := y.ext b _ a2 n2
    exact ⟨sl', a3⟩
  · rcases List.mem_append.mp hz with q | q
    · exact x.rcd z q
    · rcases hr z q with e | e | e
      · exact .inl e
      · exact x.rcd z e
      · exact .inr e
/-- one record's fields -/
theorem chg_field {fl : List Addr} {x : Addr} {o : Obj} {vs : Array Value} (f : Array Value → Array Value) (ho : h.get? x = some o) (hd : o.data = .fields vs) (hc : ¬ ImmX o.cls) (hb : b0.get? x = none) : ExcChg b0 fl [x] h (h.update x (Obj.mapFields f)) := by
  refine ⟨fun b ob e hb => ?_, fun b ob e => ?_, fun z hz => ?_, fun z hz => by rw [List.mem_singleton.mp hz]; exact hb⟩
  · have n : x ≠ b := fun q => hb (q ▸ .head _)
    exact ⟨fun _ => (Heap.get?_update_other h _ n).trans e, ob.slots, (Heap.get?_update_other h _ n).trans e⟩
  · by_cases q : x = b
    · subst q; exact ⟨_, Heap.get?_update_self _ ho (Obj.isFreed_of_fields (Obj.data_mapFields hd f))⟩
    · exact ⟨ob, (Heap.get?_update_other h _ q).trans e⟩
  · rw [List.mem_singleton.mp hz]; exact .inr ⟨o, vs, ho, hd, hc⟩
theorem chg_slots {h h' : Heap} (hs : Heap.SlotsOnly (FLs c.fl) h h') : ExcChg b0 (FLs c.fl) [] h h' :=
  ⟨fun b o e _ => ⟨fun q => (hs.2.1 b q).trans e, hs.2.2 b o e⟩, fun b o e => let ⟨sl, e'⟩ := hs.2.2 b o e; ⟨_, e'⟩, fun _ hx => (nomatch hx), fun _ hx => (nomatch hx)⟩
theorem chg_push {fl : List Addr} (o : Obj) : ExcChg b0 fl [] h (h.push o) :=
  ⟨fun b ob e _ => ⟨fun _ => Heap.get?_push_of_some _ e, ob.slots, Heap.get?_push_of_some _ e⟩, fun b ob e => ⟨ob, Heap.get?_push_of_some _ e⟩, fun _ hx => (nomatch hx), fun _ hx => (nomatch hx)⟩
/-- an exception in flight: its record, its trace -/
noncomputable def ExcTb (pre h : Heap) (ea C : Addr) (x : Value) : Prop := ∃ oe vs Tb oT ts, h.get? ea = some oe ∧ oe.cls = .ref C ∧ oe.data = .fields vs ∧ pre.get? ea = none ∧ vs[1]? = some (.ref Tb) ∧ Tb ≠ ea ∧ pre.get? Tb = none ∧ h.get? Tb = some oT ∧ oT.cls = .type "traceback" ∧ oT.data = .fields ts ∧ ts[3]? = some x
theorem ExcTb.elim {pre h : Heap} {ea C : Addr} {x : Value} {g : Prop} (t : ExcTb pre h ea C x) (k : ∀ oe vs Tb oT ts, h.get? ea = some oe → oe.cls = .ref C → oe.data = .fields vs → pre.get? ea = none → vs[1]? = some (.ref Tb) → Tb ≠ ea → pre.get? Tb = none → h.get? Tb = some oT → oT.cls = .type "traceback" → oT.data = .fields ts → ts[3]? = some x → g) : g := by
  obtain ⟨oe, vs, Tb, oT, ts, a1, a2, a3, a4, a5, a6, a7, a8, a9, a10, a11⟩ := t
  exact k oe vs Tb oT ts a1 a2 a3 a4 a5 a6 a7 a8 a9 a10 a11
theorem ExcTb.obj {pre h : Heap} {ea C : Addr} {x : Value} (t : ExcTb pre h ea C x) : ExcObj pre h ea C := by
  refine t.elim fun oe vs Tb oT ts a1 a2 a3 a4 a5 a6 a7 a8 a9 a10 a11 => ?_
  exact ⟨oe, vs, a1, a2, a3, a4, .inr ⟨Tb, oT, ts, x, a5, a6, a7, a8, a9, a10, a11⟩⟩
/-- the entry made -/
theorem wp_entry {E : Value → Shared → Prop} {pre : Heap} {ea C : Addr} {oe : Obj} {vs : Array Value} {head : Value} {hadNext : Bool} {Q : Unit → Shared → Prop} (hfr : c.A.frames = some (c.fenv :: c.outer)) (hl : s.heap.FunFrames b0 c.fl) (hd : ∀ x ∈ FLs c.fl, ∃ o es ep, s.heap.get? x = some o ∧ o.data = .dict es ep)
    (hp : ∀ b o, pre.get? b = some o → ∃ o', s.heap.get? b = some o') (hbp : b0.StaysIn pre) (he : s.heap.get? ea = some oe) (hc : oe.cls = .ref C) (hde : oe.data = .fields vs) (hsz : 1 < vs.size) (hn : pre.get? ea = none)
    (h : ∀ h', ExcChg b0 (FLs c.fl) [ea] s.heap h' → ExcTb pre h' ea C (rawInt c.L) → Q () { s with heap := h' }) :
    wpAny (model pr w) c.A (do let a ← frameOf c.fenv; let pl ← entryPlaceOf c.L hadNext; let b ← EntryCells.newEntry head a .none (rawInt c.L) .none pl; setField (.ref ea) 1 b) Q E s := by
  have hbe : b0.get? ea = none := by
    cases q : b0.get? ea with
    | none => rfl
    | some o => have := hbp ea o q; rw [hn] at this; cases this
  have heF : ea ∉ FLs c.fl := fun q => by
    obtain ⟨o, es, ep, h1, h2⟩ := hd ea q
    rw [he] at h1; cases h1; rw [hde] at h2; cases h2
  refine wpAny_bind (wpAny_frameOf_fun (env := c.fenv) (outer := c.outer) (L := c.L) hfr hl rfl fun h₁ hs₁ => ?_)
  refine wpAny_bind (wpAny_entryPlaceOf fun pl hpl => ?_)
  unfold EntryCells.newEntry newFields
  refine wpAny_bind (wpAny_newObj_type ?_ (hpl.sizeOk5 _ _ _ _ _))
  have c1 := chg_slots (b0 := b0) (c := c) hs₁
  have he₁ : h₁.get? ea = some oe := (hs₁.2.1 ea heF).trans he
  generalize hvs : ([head, .ref c.L, .none, rawInt c.L, .none] ++ (if pl.isEmpty then List.replicate 6 Value.none else pl)).toArray = ts
  have c2 := chg_push (b0 := b0) (fl := FLs c.fl) (h := h₁) ({ cls := .type "traceback", dict := none, data := .fields ts } : Obj)
  have he₂ := Heap.get?_push_of_some (h := h₁) ({ cls := .type "traceback", dict := none, data := .fields ts } : Obj) he₁
  refine wpAny_setField he₂ hde hsz ?_
  have c3 := chg_field (b0 := b0) (fl := FLs c.fl) (·.setIfInBounds 1 (Value.ref h₁.objs.size)) he₂ hde (by rw [hc]; rintro ((e | e) | e) <;> cases e) hbe
  have hTe : h₁.objs.size ≠ ea := Nat.ne_of_gt (Heap.lt_size he₁)
  refine h _ (((c1.trans c2 fun _ hz => (nomatch hz)).trans c3 fun z hz => ?_)) ?_
  · rw [List.mem_singleton.mp hz]
    exact .inr (.inr ⟨oe, vs, he, hde, by rw [hc]; rintro ((e | e) | e) <;> cases e⟩)
  · have hde' := Obj.data_mapFields hde (·.setIfInBounds 1 (Value.ref h₁.objs.size))
    refine ⟨_, _, h₁.objs.size, _, ts, Heap.get?_update_self _ he₂ (Obj.isFreed_of_fields hde'), (Obj.cls_mapFields _ _).trans hc, hde', hn, by simp [hsz], hTe, ?_, (Heap.get?_update_other _ _ (Ne.symm hTe)).trans (Heap.get?_push_size h₁ rfl), rfl, rfl, ?_⟩
    · cases q : pre.get? h₁.objs.size with
      | none => rfl
      | some o =>
        obtain ⟨o', e⟩ := hp _ o q
        obtain ⟨o'', e'⟩ := c1.alive _ o' e
        exact absurd (Heap.lt_size e') (Nat.lt_irrefl _)
    · rw [← hvs]; simp

theorem baseNone {pre : Heap} {z : Addr} (hbp : b0.StaysIn pre) (hn : pre.get? z = none) : b0.get? z = none := by
  cases q : b0.get? z with
  | none => rfl
  | some o => have := hbp z o q; rw [hn] at this; cases this
noncomputable def Noted (pre : Heap) (b0 : Heap) (c : Cx) (h h' : Heap) : Prop := ∃ ex, (∀ z ∈ ex, pre.get? z = none) ∧ ExcChg b0 (FLs c.fl) ex h h'
theorem wp_note {E : Value → Shared → Prop} {pre : Heap} {ea C : Addr} {Q : Unit → Shared → Prop} (hfr : c.A.frames = some (c.fenv :: c.outer)) (hl : s.heap.FunFrames b0 c.fl) (hd : ∀ x ∈ FLs c.fl, ∃ o es ep, s.heap.get? x = some o ∧ o.data = .dict es ep)
    (hp : ∀ b o, pre.get? b = some o → ∃ o', s.heap.get? b = some o') (hbp : b0.StaysIn pre) (x : ExcObj pre s.heap ea C)
    (h : ∀ h', Noted pre b0 c s.heap h' → ExcTb pre h' ea C (rawInt c.L) → Q () { s with heap := h' }) : wpAny (model pr w) c.A (noteFrame (.ref ea) c.fenv) Q E s := by
  obtain ⟨oe, vs, he, hc, hde, hn, htb⟩ := x
  unfold noteFrame
  show wpAny _ _ (do
    let head ← field (.ref ea) 1
    if head != .none then
      if (← field head 3) == rawInt c.L then return
      setField head 3 .none
    setField (.ref ea) 1 (← EntryCells.newEntry head (← frameOf c.fenv) .none (rawInt c.L) .none (← entryPlaceOf c.L (head != .none)))) _ _ _
  rcases htb with h1 | ⟨Tb, oT, ts, y, h1, hTe, hTn, hT, hTc, hTd, h3⟩
  · refine wpAny_bind (wpAny_field he hde h1 ?_)
    rw [if_neg (by decide)]
    exact wp_entry hfr hl hd hp hbp he hc hde (Array.getElem?_eq_some_iff.mp h1).1 hn fun h' x t => h h' ⟨[ea], fun z hz => by rw [List.mem_singleton.mp hz]; exact hn, x⟩ t
  · refine wpAny_bind (wpAny_field he hde h1 ?_)
    rw [if_pos (show (Value.ref Tb != Value.none) = true from by simp)]
    refine wpAny_bind (wpAny_field hT hTd h3 ?_)
    by_cases hy : (y == rawInt c.L) = true
    · rw [if_pos hy]
      obtain rfl : y = rawInt c.L := by simpa using hy
      exact wpAny_pure (h s.heap ⟨[], fun _ hz => (nomatch hz), ExcChg.refl ..⟩ ⟨oe, vs, Tb, oT, ts, he, hc, hde, hn, h1, hTe, hTn, hT, hTc, hTd, h3⟩)
    · rw [if_neg hy]
      refine wpAny_bind (wpAny_setField hT hTd (Array.getElem?_eq_some_iff.mp h3).1 ?_)
      have c1 := chg_field (b0 := b0) (fl := FLs c.fl) (·.setIfInBounds 3 Value.none) hT hTd (by rw [hTc]; rintro ((e | e) | e) <;> first | exact absurd (Value.type.inj e) (by decide) | cases e) (baseNone hbp hTn)
      have he₁ : (s.heap.update Tb (Obj.mapFields (·.setIfInBounds 3 Value.none))).get? ea = some oe := (Heap.get?_update_other _ _ hTe).trans he
      have nF : ∀ z ∈ FLs c.fl, z ≠ Tb := fun z hz q => by
        obtain ⟨o, es, ep, h1, h2⟩ := hd z hz
        rw [q, hT] at h1; cases h1; rw [hTd] at h2; cases h2
      refine wp_entry hfr (funFrames_at hl fun z hz o e => ⟨o, (Heap.get?_update_other _ _ (Ne.symm (nF z hz))).trans e, rfl⟩) (fun z hz => let ⟨o, es, ep, h1, h2⟩ := hd z hz; ⟨o, es, ep, (Heap.get?_update_other _ _ (Ne.symm (nF z hz))).trans h1, h2⟩)
        (fun b o e => let ⟨o', e'⟩ := hp b o e; c1.alive b o' e') hbp he₁ hc hde (Array.getElem?_eq_some_iff.mp h1).1 hn fun h' x t => h h' ⟨[Tb] ++ [ea], fun z hz => ?_, c1.trans x fun z hz => ?_⟩ t
      · rcases List.mem_append.mp hz with q | q
        · rw [List.mem_singleton.mp q]; exact hTn
        · rw [List.mem_singleton.mp q]; exact hn
      · rw [List.mem_singleton.mp hz]
        exact .inr (.inr ⟨oe, vs, he, hde, by rw [hc]; rintro ((e | e) | e) <;> cases e⟩)
theorem wp_flight {E : Value → Shared → Prop} {pre : Heap} {ea C : Addr} {x : Value} {fo : Option Addr} {Q : Unit → Shared → Prop} (hbp : b0.StaysIn pre) (t : ExcTb pre s.heap ea C x)
    (h : ∀ h', Noted pre b0 c s.heap h' → ExcTb pre h' ea C (fo.elim .none fun f => rawInt f) → Q () { s with heap := h' }) : wpAny (model pr w) c.A (setFlight (.ref ea) fo) Q E s := by
  refine t.elim fun oe vs Tb oT ts he hc hde hn h1 hTe hTn hT hTc hTd h3 => ?_
  unfold setFlight
  refine wpAny_bind (wpAny_field he hde h1 ?_)
  rw [if_pos (show (Value.ref Tb != Value.none) = true from by simp)]
  have hz := (Array.getElem?_eq_some_iff.mp h3).1
  refine wpAny_setField hT hTd hz ?_
  have c1 := chg_field (b0 := b0) (fl := FLs c.fl) (·.setIfInBounds 3 (fo.elim Value.none fun f => rawInt f)) hT hTd (by rw [hTc]; rintro ((e | e) | e) <;> first | exact absurd (Value.type.inj e) (by decide) | cases e) (baseNone hbp hTn)
  have hd' := Obj.data_mapFields hTd (·.setIfInBounds 3 (fo.elim Value.none fun f => rawInt f))
  exact h _ ⟨[Tb], fun z hz => by rw [List.mem_singleton.mp hz]; exact hTn, c1⟩ ⟨oe, vs, Tb, _, _, (Heap.get?_update_other _ _ hTe).trans he, hc, hde, hn, h1, hTe, hTn, Heap.get?_update_self _ hT (Obj.isFreed_of_fields hd'), (Obj.cls_mapFields _ _).trans hTc, hd', by simp [hz]⟩
theorem wp_leaving {E : Value → Shared → Prop} {pre : Heap} {ea C : Addr} {Q : Unit → Shared → Prop} (hfr : c.A.frames = some (c.fenv :: c.outer)) (O : OkF w b0 c m T s.heap)
    (hp : ∀ b o, pre.get? b = some o → ∃ o', s.heap.get? b = some o') (hbp : b0.StaysIn pre) (x : ExcObj pre s.heap ea C)
    (h : ∀ h' h'', Noted pre b0 c s.heap h' → OkF w b0 c m T h' → Noted pre b0 c h' h'' → OkF w b0 c m T h'' → ExcTb pre h'' ea C .none → Q () { s with heap := h'' }) : wpAny (model pr w) c.A (leaving c.fenv (.ref ea)) Q E s := by
  unfold leaving
  refine wpAny_bind (wp_note hfr O.1.frames O.1.fdict hp hbp x fun h' n t => ?_)
  obtain ⟨ex, n1, n2⟩ := id n
  have O' := O.exc n2
  refine wp_flight (s := { s with heap := h' }) hbp t fun h'' n' t' => ?_
  obtain ⟨ex', n1', n2'⟩ := id n'
  exact h h' h'' n O' n' (O'.exc n2') t'
end
end
section
/-- a part of the store, in any order -/
noncomputable def Sb (T' T : Store) : Prop := ∃ U : Store, T'.Perm U ∧ U.Sublist T
theorem Sb.refl (T : Store) : Sb T T := ⟨T, .refl T, List.Sublist.refl T⟩
theorem Sb.mem {T' T : Store} (x : Sb T' T) : ∀ p ∈ T', p ∈ T := fun p hp => let ⟨_, h1, h2⟩ := x; h2.subset (h1.mem_iff.mp hp)
theorem fps_sub {U T : Store} (h : U.Sublist T) : (fps U).Sublist (fps T) := by
  induction h with
  | slnil => exact List.Sublist.refl _
  | cons p _ ih => rw [fps_cons]; exact ih.trans (List.sublist_append_right _ _)
  | cons_cons p _ ih => rw [fps_cons, fps_cons]; exact (List.Sublist.refl _).append ih
theorem Sb.nodup {T' T : Store} (x : Sb T' T) (h : (fps T).Nodup) : (fps T').Nodup :=
  let ⟨_, h1, h2⟩ := x; (h1.flatMap_right fp).nodup_iff.mpr (h.sublist (fps_sub h2))
theorem Sb.fps {T' T : Store} (x : Sb T' T) : ∀ a ∈ fps T', a ∈ Mine.fps T := fun a ha => by
  obtain ⟨p, hp, h⟩ := List.mem_flatMap.mp ha
  exact mem_fps (x.mem p hp) h
theorem Sb.consF {T' T : Store} {C : Addr} (x : Sb T' T) (a : Addr) (h : a ∈ C :: Mine.fps T') : a ∈ C :: Mine.fps T := by
  rcases List.mem_cons.mp h with rfl | h
  · exact .head _
  · exact .tail _ (x.fps _ h)
theorem Sb.trans {T₁ T₂ T₃ : Store} (x : Sb T₁ T₂) (y : Sb T₂ T₃) : Sb T₁ T₃ := by
  obtain ⟨U, h1, h2⟩ := x
  obtain ⟨V, h3, h4⟩ := y
  obtain ⟨Z, h5, h6⟩ := List.exists_perm_sublist h2 h3
  exact ⟨Z, h1.trans h5.symm, h6.trans h4⟩
theorem Sb.skip {p : Addr × AO} {T' T : Store} (x : Sb T' T) : Sb T' (p :: T) := let ⟨U, h1, h2⟩ := x; ⟨U, h1, .cons _ h2⟩
theorem Sb.keep {p : Addr × AO} {T' T : Store} (x : Sb T' T) : Sb (p :: T') (p :: T) := let ⟨U, h1, h2⟩ := x; ⟨p :: U, h1.cons p, .cons_cons _ h2⟩
theorem Sb.nil (T : Store) : Sb [] T := ⟨[], .refl _, List.nil_sublist T⟩
theorem Sb.ofPerm {T' T : Store} (h : T'.Perm T) : Sb T' T := ⟨T, h, List.Sublist.refl T⟩
section
variable {w : World} {b0 : Heap} {c : Cx} {m m₁ m' : Loc} {T T' T₁ T₂ Tc : Store} {s s₀ s₁ s₂ s' : Shared} {h h' h₁ : Heap} {fl : List Env}
theorem OkH.sub (O : OkH w b0 fl T h) (x : Sb T' T) : OkH w b0 fl T' h :=
  ⟨O.stay, O.frames, O.fdict, fun p hp => O.rep p (x.mem p hp), x.nodup O.nodup, fun a ha => O.fresh a (x.fps a ha), fun a ha => O.off a (x.fps a ha)⟩
theorem OkF.sub (O : OkF w b0 c m T h) (x : Sb T' T) (hm : ∀ p ∈ m', p ∈ m) : OkF w b0 c m' T' h :=
  ⟨O.1.sub x, ⟨fun q => O.2.1.1 (x.fps _ q), O.2.1.2⟩, let ⟨mm, a, b⟩ := O.2.2; ⟨mm, a, fun p hp => b p (hm p hp)⟩⟩
theorem Stp.sub {fl F : List Addr} (y : Stp fl F (fps T) s s') (x : Sb T' T) : Stp fl F (fps T') s s' := ⟨y.ext, y.alive, fun a ha => y.new a (x.fps a ha), y.gens, y.drawn, y.os⟩
section
variable {α β : Type} {P : Heap → Prop} {R : Heap → α → β → Prop} {t : Sem α} {Q : β → Loc → Store → Prop} {X : Addr → Loc → Store → Prop}
/-- less is told than stands -/
noncomputable def Dr (Q : β → Loc → Store → Prop) (b : β) (m : Loc) (T : Store) : Prop := ∃ m' T', (∀ p ∈ m', p ∈ m) ∧ Sb T' T ∧ Q b m' T'
theorem Dr.of {b : β} (h : Q b m T) : Dr Q b m T := ⟨m, T, fun _ h => h, .refl T, h⟩
theorem W.drop (h : W w b0 c P R t m T (Dr Q) (Dr X)) : W w b0 c P R t m T Q X := ⟨fun s O p =>
  wpAny_mono (h.run s O p) (fun _ _ zz => Res.elim zz fun b m' T' h1 h2 h3 h4 => by obtain ⟨m'', T'', a1, a2, a3⟩ := h4; exact ⟨b, m'', T'', h1, h2.sub a2 a1, h3.sub a2, a3⟩)
    fun _ _ zz => Exc.elim zz fun ea C m' T' h2 h3 h4 h5 => by obtain ⟨m'', T'', a1, a2, a3⟩ := h5; exact ⟨ea, C, m'', T'', rfl, h2, h3.sub a2 a1, h4.sub a2, a3⟩⟩
/-- less is asked for -/
theorem W.less (h : W w b0 c P R t m' T' Q X) (hm : ∀ p ∈ m', p ∈ m) (x : Sb T' T) : W w b0 c P R t m T Q X := ⟨fun s O p =>
  wpAny_mono (h.run s (O.sub x hm) p) (fun _ _ zz => Res.elim zz fun b m₁ T₁ h1 h2 h3 h4 => ⟨b, m₁, T₁, h1, h2, ⟨fun b o e n => h3.ext b o e fun q => n (x.consF _ q), h3.alive, fun a ha => (h3.new a ha).imp (x.consF _) id, h3.gens, h3.drawn, h3.os⟩, h4⟩)
    fun _ _ zz => Exc.elim zz fun ea C m₁ T₁ h2 h3 h4 h5 => ⟨ea, C, m₁, T₁, rfl, h2, h3, ⟨fun b o e n => h4.ext b o e fun q => n (x.consF _ q), h4.alive, fun a ha => (h4.new a ha).imp (x.consF _) id, h4.gens, h4.drawn, h4.os⟩, h5⟩⟩
end
end
structure Fit (A : Around) (n : Nat) : Prop where
  depth : A.depth + n < recursionLimit
  units : A.units + 16 * n + 100 < cLine
section
variable (w : World) (b0 : Heap) (fl : List Env)
noncomputable def ResC (s : Shared) (T : Store) (Q : AV → Store → Prop) (v : Value) (s' : Shared) : Prop :=
  ∃ r T', RV s'.heap v r ∧ OkH w b0 fl T' s'.heap ∧ Stp (FLs fl) (fps T) (fps T') s s' ∧ Q r T'
noncomputable def ExcC (s : Shared) (T : Store) (X : Addr → Store → Prop) (e : Value) (s' : Shared) : Prop :=
  ∃ ea C T', e = .ref ea ∧ ExcObj s.heap s'.heap ea C ∧ OkH w b0 fl T' s'.heap ∧ Stp (FLs fl) (fps T) (fps T') s s' ∧ X C T'
noncomputable def EndC (s : Shared) (T : Store) (Q : AV → Store → Prop) (X : Addr → Store → Prop) (r : Result) (s' : Shared) : Prop := match r with
  | .ok (.ret v) => ResC w b0 fl s T Q v s'
  | .ok _ => False
  | .error e => ExcC w b0 fl s T X e s'
end
/-- a call of one of the text's defs -/
structure WC (w : World) (b0 : Heap) (n : Nat) (hn : Bool) (f : AV) (xs : List AV) (T : Store) (Q : AV → Store → Prop) (X : Addr → Store → Prop) : Prop where
  run : ∀ (A : Around) (fl : List Env) (s : Shared) (vf : Value) (vs : List Value), A.frames = some fl → (hn = true → A.handled = none) → Fit A n → OkH w b0 fl T s.heap → RV s.heap vf f → RVs s.heap vs xs →
    codeAny (model pr w) A (.call vf ⟨vs, []⟩) (EndC w b0 fl s T Q X) s
theorem Stp.weak {fl F G F' : List Addr} {s s' : Shared} (x : Stp fl F F' s s') (h : ∀ a ∈ F, a ∈ G) : Stp fl G F' s s' :=
  ⟨fun b o e hb => x.ext b o e fun q => hb (h b q), x.alive, fun a ha => (x.new a ha).imp (h a) id, x.gens, x.drawn, x.os⟩
section
variable {w : World} {b0 : Heap} {c : Cx} {m m₁ m' : Loc} {T T' T₁ T₂ Tc : Store} {s s₀ s₁ s₂ s' : Shared} {h h' h₁ : Heap} {Q : AV → Loc → Store → Prop} {X : Addr → Loc → Store → Prop}
@[elab_as_elim] theorem EndC.elim {fl : List Env} {Q : AV → Store → Prop} {X : Addr → Store → Prop} {r : Result} {g : Result → Prop} (z : EndC w b0 fl s T Q X r s') (ke : ∀ ea C T', ExcObj s.heap s'.heap ea C → OkH w b0 fl T' s'.heap → Stp (FLs fl) (fps T) (fps T') s s' → X C T' → g (.error (.ref ea)))
    (kr : ∀ v r T', RV s'.heap v r → OkH w b0 fl T' s'.heap → Stp (FLs fl) (fps T) (fps T') s s' → Q r T' → g (.ok (.ret v))) : g r := by
  rcases r with e | (_ | _ | _ | v)
  · obtain ⟨ea, C, T', rfl, h2, h3, h4, h5⟩ := z
    exact ke ea C T' h2 h3 h4 h5
  · exact False.elim z
  · exact False.elim z
  · exact False.elim z
  · obtain ⟨r, T', h1, h2, h3, h4⟩ := z
    exact kr v r T' h1 h2 h3 h4
theorem WC.mono {n n' : Nat} {hn hn' : Bool} {f : AV} {xs : List AV} {Q Q' : AV → Store → Prop} {X X' : Addr → Store → Prop} (h : WC w b0 n hn f xs T Q X) (hQ : ∀ r T', Q r T' → Q' r T') (hX : ∀ C T', X C T' → X' C T' := by intros; assumption) (hle : n ≤ n' := by omega) (hh : hn = true → hn' = true := by decide) : WC w b0 n' hn' f xs T Q' X' := ⟨fun A fl s vf vs h1 h2 h3 h4 h5 h6 =>
  codeAny_mono (h.run A fl s vf vs h1 (fun q => h2 (hh q)) ⟨by have := h3.depth; omega, by have := h3.units; omega⟩ h4 h5 h6) fun r s' z => by
    refine EndC.elim z (fun ea C T' h2 h3 h4 h5 => ?_) fun v r T' h1 h2 h3 h4 => ?_
    · exact ⟨ea, C, T', rfl, h2, h3, h4, hX _ _ h5⟩
    · skip
      exact ⟨r, T', h1, h2, h3, hQ _ _ h4⟩⟩
theorem OkF.afterCall (O : OkF w b0 c m T s.heap) (H : OkH w b0 c.fl T' s'.heap) (x : Stp (FLs c.fl) (fps T) (fps T') s s') : OkF w b0 c m T' s'.heap := by
  obtain ⟨H0, hC, mm, ⟨oL, es, ep, hL, hLd, hr⟩, hl⟩ := O
  have ki : KeepI s.heap s'.heap := H0.keepI (fun _ h => .inl h) x.ext
  obtain ⟨_, sl, h2⟩ := x.ext c.C oL hL hC.1
  exact ⟨H, ⟨fun q => (x.new _ q).elim hC.1 fun e => (by rw [hL] at e; cases e), hC.2⟩, mm, ⟨_, es, ep, h2, hLd, hr⟩, fun p hp => let ⟨v, a, b⟩ := hl p hp; ⟨v, a, b.keepI ki⟩⟩
noncomputable abbrev KFq (Q : AV → Loc → Store → Prop) (m : Loc) : AV → Store → Prop := fun r T => Q r m T
noncomputable abbrev KFx (X : Addr → Loc → Store → Prop) (m : Loc) : Addr → Store → Prop := fun C T => X C m T
theorem k_fn {n n' : Nat} {hn : Bool} {f : AV} {xs : List AV} (h : WC w b0 n hn f xs T (KFq Q m) (KFx X m)) (hc : c.Ok n') (hle : n ≤ n') (hh : hn = true → c.A.handled = none) : CallQ w b0 c f xs m T Q X := fun vf vs => ⟨fun s O ⟨rf, rs⟩ => by
  refine wpAny_call (codeAny_mono (h.run c.A c.fl s vf vs hc.frames hh ⟨by have := hc.depth; omega, by have := hc.units; omega⟩ O.1 rf rs) fun r s' z => ?_)
  refine EndC.elim z (fun ea C T' h2 h3 h4 h5 => ?_) fun v r T' h1 h2 h3 h4 => ?_
  · exact ⟨ea, C, m, T', rfl, h2, O.afterCall h3 h4, h4.weak fun a ha => .tail _ ha, h5⟩
  · skip
    exact ⟨r, m, T', h1, O.afterCall h2 h3, h3.weak fun a ha => .tail _ ha, h4⟩⟩
/-- what a body hands back -/
noncomputable def RetQ (Q : AV → Store → Prop) : FA → Loc → Store → Prop
  | .ret v, _, T => ∃ T', Sb T' T ∧ Q v T'
  | .next, _, T => ∃ T', Sb T' T ∧ Q .none T'
  | _, _, _ => False
theorem rq {Q : AV → Store → Prop} {v : AV} (h : Q v T) : RetQ Q (.ret v) m T := ⟨T, .refl T, h⟩
theorem rq0 {Q : AV → Store → Prop} (h : Q .none T) : RetQ Q .next m T := ⟨T, .refl T, h⟩
theorem rqd {Q : AV → Store → Prop} {v : AV} (x : Sb T' T) (h : Q v T') : RetQ Q (.ret v) m T := ⟨T', x, h⟩
noncomputable def XQ (X : Addr → Store → Prop) (C : Addr) (_ : Loc) (T : Store) : Prop := ∃ T', Sb T' T ∧ X C T'
theorem binds_ok {m₀ : Loc} {mm : Str → Option Value} (hi : c.inn = none) (O : OkH w b0 c.outer T h) (g : Grow h h₁) (hns : h₁.Ns c.L mm) (hnew : h.get? c.L = none) (hk : c.cs.kind = .function) (hm : ∀ p ∈ m₀, ∃ v, mm p.1 = some v ∧ RV h v p.2) : OkF w b0 c m₀ T h₁ := by
  have O₁ := O.grow g
  obtain ⟨h1, h2, h3⟩ := O.newAt hnew
  obtain ⟨oL, es, ep, hL, hLd, hr⟩ := id hns
  have hC : c.C = c.L := by unfold Cx.C; rw [hi]
  refine ⟨⟨O₁.stay, Heap.FunFrames.cons (env := c.fenv) (outer := c.outer) (L := c.L) (by show c.cs.kind ≠ _; rw [hk]; decide) rfl hns h1 O₁.frames, fun x hx => ?_, O₁.rep, O₁.nodup, O₁.fresh, fun x hx q => ?_⟩, by rw [hC]; exact ⟨h3, h1⟩, mm, by rw [hC]; exact hns, fun p hp => let ⟨v, a, b⟩ := hm p hp; ⟨v, a, b.keepI g.keepI⟩⟩
  · rcases List.mem_cons.mp (show x ∈ c.L :: FLs c.outer from hx) with rfl | hx
    · exact ⟨oL, es, ep, hL, hLd⟩
    · exact O₁.fdict x hx
  · rcases List.mem_cons.mp (show x ∈ c.L :: FLs c.outer from q) with rfl | q
    · exact h3 hx
    · exact O₁.off x hx q
theorem OkF.out (O : OkF w b0 c m T h) : OkH w b0 c.outer T h := by
  obtain ⟨H, _⟩ := O
  have hF : h.FunFrames b0 (c.fenv :: c.outer) := H.frames
  exact ⟨H.stay, hF.2.2, fun x hx => H.fdict x (show x ∈ c.L :: FLs c.outer from .tail _ hx), H.rep, H.nodup, H.fresh, fun x hx q => H.off x hx (show x ∈ c.L :: FLs c.outer from .tail _ q)⟩
theorem stp_out {F₁ F' : List Addr} {s s₁ s' : Shared} (g : Grow s.heap s₁.heap) (hnew : s.heap.get? c.L = none) (x : Stp (FLs c.fl) F₁ F' s₁ s') (h1 : s₁.gens = s.gens) (h2 : s₁.drawn = s.drawn) (h3 : s₁.os = s.os) (hF : ∀ a ∈ F₁, a ∈ fps T ∨ s.heap.get? a = none) :
    Stp (FLs c.outer) (fps T) F' s s' := by
  refine ⟨fun b o e hb => ?_, fun b o e => x.alive b o (g b o e), fun a ha => ?_, x.gens.trans h1, x.drawn.trans h2, x.os.trans h3⟩
  · have n : b ≠ c.L := fun q => by rw [q, hnew] at e; cases e
    obtain ⟨a1, a2⟩ := x.ext b o (g b o e) fun q => (hF b q).elim hb fun z => by rw [e] at z; cases z
    exact ⟨fun q => a1 fun q' => (List.mem_cons.mp (show b ∈ c.L :: FLs c.outer from q')).elim n q, a2⟩
  · rcases x.new a ha with q | q
    · exact hF a q
    · refine .inr ?_
      cases e : s.heap.get? a with
      | none => rfl
      | some o => have := g a o e; rw [q] at this; cases this
theorem Gd.nolimit (G : Gd w b0) : b0.NoLimit := by obtain ⟨_, _, _, _, _, T⟩ := G.T; exact T.nolimit
/-- a body run -/
theorem body_end {n tk : Nat} {m₀ : Loc} {body : List Stmt} {Q : AV → Store → Prop} {X : Addr → Store → Prop} (hi : c.inn = none) (hok : c.Ok n) (g : Grow s.heap h₁) (hnew : s.heap.get? c.L = none) (hTc : ∀ x ∈ fps Tc, s.heap.get? x = none) (O₁ : OkF w b0 c m₀ (Tc ++ T) h₁)
    (hw : WB w b0 c body m₀ (Tc ++ T) (RetQ Q) (XQ X)) :
    wpAny (model pr w) c.A (execs body c.fenv) (fun f s' => EndC w b0 c.outer s T Q X (.ok (.ret (match f with | .ret v => v | _ => .none))) s')
      (fun e s' => wpAny (model pr w) c.A (leaving c.fenv e) (fun _ s'' => EndC w b0 c.outer s T Q X (.error e) s'') (fun e' s'' => EndC w b0 c.outer s T Q X (.error e') s'') s') { s with heap := h₁, toks := tk } := by
  have hC : c.C = c.L := by unfold Cx.C; rw [hi]
  have hF : ∀ a ∈ c.C :: fps (Tc ++ T), a ∈ fps T ∨ s.heap.get? a = none := fun a ha => by
    rcases List.mem_cons.mp ha with rfl | ha
    · exact .inr (hC ▸ hnew)
    · rw [fps_append] at ha
      exact (List.mem_append.mp ha).elim (fun q => .inr (hTc a q)) .inl
  have he : c.env = c.fenv := by unfold Cx.env; rw [hi]
  have hw := hw.run { s with heap := h₁, toks := tk } O₁ trivial
  rw [he] at hw
  refine wpAny_mono hw (fun f s' z => ?_) fun e s' z => ?_
  · refine Res.elim z fun fa' m' T' rf O' st q => ?_
    have st' := stp_out (T := T) (c := c) (s := s) (s₁ := { s with heap := h₁, toks := tk }) g hnew st rfl rfl rfl hF
    cases rf with
    | next => obtain ⟨T'', q1, q2⟩ := q; exact ⟨.none, T'', .none, O'.out.sub q1, st'.sub q1, q2⟩
    | brk => exact q.elim
    | cont => exact q.elim
    | ret r => obtain ⟨T'', q1, q2⟩ := q; exact ⟨_, T'', r, O'.out.sub q1, st'.sub q1, q2⟩
  · refine Exc.elim z fun ea C m' T' x O' st q => ?_
    refine wp_leaving (c := c) (pre := h₁) hok.frames O' (fun b o e => st.alive b o e) O₁.1.stay x fun h' h'' n1 O1 n2 O2 t => ?_
    obtain ⟨e1, n1a, n1b⟩ := n1
    obtain ⟨e2, n2a, n2b⟩ := n2
    have st1 : Stp (FLs c.fl) (c.C :: fps (Tc ++ T)) (fps T') { s with heap := h₁, toks := tk } { s' with heap := h' } := st.exc n1b n1a
    have st2 : Stp (FLs c.fl) (c.C :: fps (Tc ++ T)) (fps T') { s with heap := h₁, toks := tk } { s' with heap := h'' } := st1.exc n2b n2a
    have st' := stp_out (T := T) (c := c) (s := s) (s₁ := { s with heap := h₁, toks := tk }) g hnew st2 rfl rfl rfl hF
    have x0 : ExcObj s.heap h'' ea C := by
      have back : ∀ z, h₁.get? z = none → s.heap.get? z = none := fun z hz => by
        cases e : s.heap.get? z with
        | none => rfl
        | some o => have := g z o e; rw [hz] at this; cases this
      exact t.obj.mono back
    obtain ⟨T'', q1, q2⟩ := q
    exact ⟨ea, C, T'', rfl, x0, O2.out.sub q1, st'.sub q1, q2⟩
/-- a def entered -/
theorem wc_def {n : Nat} {hn : Bool} {fa : Addr} {xs : List AV} {Q : AV → Store → Prop} {X : Addr → Store → Prop} {name qual : Str} {params : Arguments} {body : List Stmt} {scope : Scope} {dV kV doc pm cdv ct oc : Value} {an od : Option Addr} {osl : Array (Option Value)} {m₀ : Loc} (G : Gd w b0)
    (ho : (hd.heap_39 w.params).lookup fa = some ⟨oc, od, .func (fnOf name qual params body scope dV kV doc pm an cdv ct), osl⟩) (hcd : codeIn (hd.heap_39 w.params) cdv qual = true)
    (hb : ∀ (s : Shared) vs, (KK w).In s.heap → RVs s.heap vs xs → ∃ binds, BindsTo s (fnOf name qual params body scope dV kV doc pm an cdv ct) ⟨vs, []⟩ binds ∧ (∀ y ∈ binds, scope.names.lookup y.1 = some .local) ∧ ∀ p ∈ m₀, ∃ v, binds.reverse.lookup p.1 = some v ∧ RV s.heap v p.2)
    (hcell : ∀ x ∈ scope.names, x.2 ≠ .cell) (hco : scope.isCoroutine = false) (hgen : scope.isGenerator = false) (hk : scope.kind = .function)
    (h : ∀ (L : Addr) (fl : List Env) (A : Around), (Cx.mk qual scope L fa cdv [] fl A none).Ok n → (hn = true → A.handled = none) → WB w b0 ⟨qual, scope, L, fa, cdv, [], fl, A, none⟩ body m₀ T (RetQ Q) (XQ X)) : WC w b0 (n + 1) hn (rf fa) xs T Q X := ⟨fun A fl s vf vs hA hh hf O rv rs => by
  refine rv.E ?_; intro _
  have KI := G.K.keeps O.stay
  obtain ⟨binds, hbind, hloc, hm⟩ := hb s vs KI rs
  refine codeAny_call_def (fd := fnOf name qual params body scope dV kV doc pm an cdv ct) (body := body) (binds := binds) (by have := hf.depth; omega) (KI _ _ ho) rfl (G.nolimit.keeps O.stay) (codeRec_of KI hcd) rfl hbind hcell hloc (fun h₁ hns g => ?_) hco hgen hk
  have hnew : s.heap.get? s.heap.objs.size = none := noneAt _ (Nat.le_refl _)
  let cc : Cx := ⟨qual, scope, s.heap.objs.size, fa, cdv, [], fl, A.deeper (callEnv (fnOf name qual params body scope dV kV doc pm an cdv ct) s.heap.objs.size fa), none⟩
  have hok : cc.Ok n := ⟨Around.frames_deeper hA, hk, by have := hf.depth; show A.depth + 1 + n < _; omega, by have := hf.units; show A.units + 3 + 16 * n + 100 < _; omega⟩
  have O₁ : OkF w b0 cc m₀ T h₁ := binds_ok (c := cc) rfl O g hns hnew hk hm
  exact body_end (c := cc) (Tc := []) rfl hok g hnew (fun _ hx => nomatch hx) O₁ (h s.heap.objs.size fl cc.A hok fun q => hh q)⟩
end
end
section
section
variable {w : World} {b0 : Heap} {T : Store} {n : Nat} {hn : Bool} {fa : Addr} {Q : AV → Store → Prop} {X : Addr → Store → Prop} {name qual : Str} {params : Arguments} {body : List Stmt} {scope : Scope} {dV kV doc pm cdv ct oc : Value} {an od : Option Addr} {osl : Array (Option Value)} {n₁ n₂ n₃ : Str} {a₁ a₂ a₃ : AV}
theorem wc_def0 (G : Gd w b0)
    (ho : (hd.heap_39 w.params).lookup fa = some ⟨oc, od, .func (fnOf name qual params body scope dV kV doc pm an cdv ct), osl⟩) (hcd : codeIn (hd.heap_39 w.params) cdv qual = true)
    (hb : ∀ s : Shared, (KK w).In s.heap → BindsTo s (fnOf name qual params body scope dV kV doc pm an cdv ct) ⟨[], []⟩ [])
    (hs : (scope.names.all (fun x => !(x.2 == .cell)) && !scope.isCoroutine && !scope.isGenerator && scope.kind == .function) = true)
    (h : ∀ (L : Addr) (fl : List Env) (A : Around), (Cx.mk qual scope L fa cdv [] fl A none).Ok n → (hn = true → A.handled = none) → WB w b0 ⟨qual, scope, L, fa, cdv, [], fl, A, none⟩ body [] T (RetQ Q) (XQ X)) : WC w b0 (n + 1) hn (rf fa) [] T Q X := by
  simp only [Bool.and_eq_true, beq_iff_eq, Bool.not_eq_true'] at hs
  refine wc_def G ho hcd (fun s vs KI rs => ?_) (fun x hx => ?_) hs.1.1.2 hs.1.2 hs.2 h
  · refine rs.E ?_; intro _
    exact ⟨[], hb s KI, fun _ hy => (nomatch hy), fun _ hp => (nomatch hp)⟩
  · have := List.all_eq_true.mp hs.1.1.1 x hx
    simpa using this
theorem wc_def1 (G : Gd w b0)
    (ho : (hd.heap_39 w.params).lookup fa = some ⟨oc, od, .func (fnOf name qual params body scope dV kV doc pm an cdv ct), osl⟩) (hcd : codeIn (hd.heap_39 w.params) cdv qual = true)
    (hb : ∀ (s : Shared) v₁, (KK w).In s.heap → BindsTo s (fnOf name qual params body scope dV kV doc pm an cdv ct) ⟨[v₁], []⟩ [(n₁, v₁)])
    (hs : (scope.names.all (fun x => !(x.2 == .cell)) && !scope.isCoroutine && !scope.isGenerator && scope.kind == .function) = true) (hl : (scope.names.lookup n₁ == some .local) = true)
    (h : ∀ (L : Addr) (fl : List Env) (A : Around), (Cx.mk qual scope L fa cdv [] fl A none).Ok n → (hn = true → A.handled = none) → WB w b0 ⟨qual, scope, L, fa, cdv, [], fl, A, none⟩ body [(n₁, a₁)] T (RetQ Q) (XQ X)) : WC w b0 (n + 1) hn (rf fa) [a₁] T Q X := by
  simp only [Bool.and_eq_true, beq_iff_eq, Bool.not_eq_true'] at hs
  refine wc_def G ho hcd (fun s vs KI rs => ?_) (fun x hx => ?_) hs.1.1.2 hs.1.2 hs.2 h
  · refine rs.oneE fun v r => ?_
    refine ⟨[(n₁, v)], hb s v KI, fun y hy => ?_, fun p hp => ?_⟩
    · rw [List.mem_singleton.mp hy]; simpa using hl
    · rw [List.mem_singleton.mp hp]; exact ⟨v, by simp [List.lookup_cons], r⟩
  · have := List.all_eq_true.mp hs.1.1.1 x hx
    simpa using this
theorem wc_def2 (G : Gd w b0)
    (ho : (hd.heap_39 w.params).lookup fa = some ⟨oc, od, .func (fnOf name qual params body scope dV kV doc pm an cdv ct), osl⟩) (hcd : codeIn (hd.heap_39 w.params) cdv qual = true)
    (hb : ∀ (s : Shared) v₁ v₂, (KK w).In s.heap → BindsTo s (fnOf name qual params body scope dV kV doc pm an cdv ct) ⟨[v₁, v₂], []⟩ [(n₁, v₁), (n₂, v₂)])
    (hs : (scope.names.all (fun x => !(x.2 == .cell)) && !scope.isCoroutine && !scope.isGenerator && scope.kind == .function) = true) (hl : (scope.names.lookup n₁ == some .local && scope.names.lookup n₂ == some .local && !(n₁ == n₂)) = true)
    (h : ∀ (L : Addr) (fl : List Env) (A : Around), (Cx.mk qual scope L fa cdv [] fl A none).Ok n → (hn = true → A.handled = none) → WB w b0 ⟨qual, scope, L, fa, cdv, [], fl, A, none⟩ body [(n₁, a₁), (n₂, a₂)] T (RetQ Q) (XQ X)) : WC w b0 (n + 1) hn (rf fa) [a₁, a₂] T Q X := by
  simp only [Bool.and_eq_true, beq_iff_eq, Bool.not_eq_true'] at hs hl
  refine wc_def G ho hcd (fun s vs KI rs => ?_) (fun x hx => ?_) hs.1.1.2 hs.1.2 hs.2 h
  · refine rs.twoE fun v u r q => ?_
    refine ⟨[(n₁, v), (n₂, u)], hb s v u KI, fun y hy => ?_, fun p hp => ?_⟩
    · simp only [List.mem_cons, List.not_mem_nil, or_false] at hy
      rcases hy with rfl | rfl
      · exact hl.1.1
      · exact hl.1.2
    · simp only [List.mem_cons, List.not_mem_nil, or_false] at hp
      rcases hp with rfl | rfl
      · exact ⟨v, by simp [List.lookup_cons, hl.2], r⟩
      · exact ⟨u, by simp [List.lookup_cons], q⟩
  · have := List.all_eq_true.mp hs.1.1.1 x hx
    simpa using this
theorem wc_def3 (G : Gd w b0)
    (ho : (hd.heap_39 w.params).lookup fa = some ⟨oc, od, .func (fnOf name qual params body scope dV kV doc pm an cdv ct), osl⟩) (hcd : codeIn (hd.heap_39 w.params) cdv qual = true)
    (hb : ∀ (s : Shared) v₁ v₂ v₃, (KK w).In s.heap → BindsTo s (fnOf name qual params body scope dV kV doc pm an cdv ct) ⟨[v₁, v₂, v₃], []⟩ [(n₁, v₁), (n₂, v₂), (n₃, v₃)])
    (hs : (scope.names.all (fun x => !(x.2 == .cell)) && !scope.isCoroutine && !scope.isGenerator && scope.kind == .function) = true)
    (hl : (scope.names.lookup n₁ == some .local && scope.names.lookup n₂ == some .local && scope.names.lookup n₃ == some .local && !(n₁ == n₂) && !(n₁ == n₃) && !(n₂ == n₃)) = true)
    (h : ∀ (L : Addr) (fl : List Env) (A : Around), (Cx.mk qual scope L fa cdv [] fl A none).Ok n → (hn = true → A.handled = none) → WB w b0 ⟨qual, scope, L, fa, cdv, [], fl, A, none⟩ body [(n₁, a₁), (n₂, a₂), (n₃, a₃)] T (RetQ Q) (XQ X)) : WC w b0 (n + 1) hn (rf fa) [a₁, a₂, a₃] T Q X := by
  simp only [Bool.and_eq_true, beq_iff_eq, Bool.not_eq_true'] at hs hl
  refine wc_def G ho hcd (fun s vs KI rs => ?_) (fun x hx => ?_) hs.1.1.2 hs.1.2 hs.2 h
  · refine rs.threeE fun v u z r q t => ?_
    refine ⟨[(n₁, v), (n₂, u), (n₃, z)], hb s v u z KI, fun y hy => ?_, fun p hp => ?_⟩
    · simp only [List.mem_cons, List.not_mem_nil, or_false] at hy
      rcases hy with rfl | rfl | rfl
      · exact hl.1.1.1.1.1
      · exact hl.1.1.1.1.2
      · exact hl.1.1.1.2
    · simp only [List.mem_cons, List.not_mem_nil, or_false] at hp
      rcases hp with rfl | rfl | rfl
      · exact ⟨v, by simp [List.lookup_cons, hl.1.2, hl.1.1.2], r⟩
      · exact ⟨u, by simp [List.lookup_cons, hl.2], q⟩
      · exact ⟨z, by simp [List.lookup_cons], t⟩
  · have := List.all_eq_true.mp hs.1.1.1 x hx
    simpa using this
theorem wc_def2d {dv : Value} (G : Gd w b0)
    (ho : (hd.heap_39 w.params).lookup fa = some ⟨oc, od, .func (fnOf name qual params body scope dV kV doc pm an cdv ct), osl⟩) (hcd : codeIn (hd.heap_39 w.params) cdv qual = true)
    (hb : ∀ (s : Shared) v₁ v₂, (KK w).In s.heap → BindsTo s (fnOf name qual params body scope dV kV doc pm an cdv ct) ⟨[v₁, v₂], []⟩ [(n₁, v₁), (n₂, v₂), (n₃, dv)]) (hdv : ∀ h, RV h dv a₃)
    (hs : (scope.names.all (fun x => !(x.2 == .cell)) && !scope.isCoroutine && !scope.isGenerator && scope.kind == .function) = true)
    (hl : (scope.names.lookup n₁ == some .local && scope.names.lookup n₂ == some .local && scope.names.lookup n₃ == some .local && !(n₁ == n₂) && !(n₁ == n₃) && !(n₂ == n₃)) = true)
    (h : ∀ (L : Addr) (fl : List Env) (A : Around), (Cx.mk qual scope L fa cdv [] fl A none).Ok n → (hn = true → A.handled = none) → WB w b0 ⟨qual, scope, L, fa, cdv, [], fl, A, none⟩ body [(n₁, a₁), (n₂, a₂), (n₃, a₃)] T (RetQ Q) (XQ X)) : WC w b0 (n + 1) hn (rf fa) [a₁, a₂] T Q X := by
  simp only [Bool.and_eq_true, beq_iff_eq, Bool.not_eq_true'] at hs hl
  refine wc_def G ho hcd (fun s vs KI rs => ?_) (fun x hx => ?_) hs.1.1.2 hs.1.2 hs.2 h
  · refine rs.twoE fun v u r q => ?_
    refine ⟨[(n₁, v), (n₂, u), (n₃, dv)], hb s v u KI, fun y hy => ?_, fun p hp => ?_⟩
    · simp only [List.mem_cons, List.not_mem_nil, or_false] at hy
      rcases hy with rfl | rfl | rfl
      · exact hl.1.1.1.1.1
      · exact hl.1.1.1.1.2
      · exact hl.1.1.1.2
    · simp only [List.mem_cons, List.not_mem_nil, or_false] at hp
      rcases hp with rfl | rfl | rfl
      · exact ⟨v, by simp [List.lookup_cons, hl.1.2, hl.1.1.2], r⟩
      · exact ⟨u, by simp [List.lookup_cons, hl.2], q⟩
      · exact ⟨dv, by simp [List.lookup_cons], hdv _⟩
  · have := List.all_eq_true.mp hs.1.1.1 x hx
    simpa using this
end

/-! cells -/
noncomputable def Bd (h : Heap) : List (Str × Value) → List (Str × AV) → Prop
  | [], [] => True
  | b :: bs, p :: ps => b.1 = p.1 ∧ RV h b.2 p.2 ∧ Bd h bs ps
  | _, _ => False
theorem Bd.names {h : Heap} : ∀ {bs : List (Str × Value)} {ps : List (Str × AV)}, Bd h bs ps → bs.map (·.1) = ps.map (·.1)
  | [], [], _ => rfl
  | _ :: _, _ :: _, ⟨a, _, r⟩ => by rw [List.map_cons, List.map_cons, a, Bd.names r]
  | [], _ :: _, x => x.elim
  | _ :: _, [], x => x.elim
theorem Bd.lookup {h : Heap} (n : Str) : ∀ {bs : List (Str × Value)} {ps : List (Str × AV)}, Bd h bs ps → OV h (bs.lookup n) (ps.lookup n)
  | [], [], _ => trivial
  | b :: bs, p :: ps, ⟨a, r, q⟩ => by
    rw [List.lookup_cons, List.lookup_cons, a]
    cases hb : n == p.1 with
    | true => exact r
    | false => exact Bd.lookup n q
  | [], _ :: _, x => x.elim
  | _ :: _, [], x => x.elim
theorem lookup_none_of {α : Type} {n : Str} : ∀ {l : List (Str × α)}, n ∉ l.map (·.1) → l.lookup n = none
  | [], _ => rfl
  | p :: r, h => by
    rw [List.lookup_cons]
    have h1 : (n == p.1) = false := by simpa using fun e => h (by rw [e]; exact .head _)
    rw [h1]
    exact lookup_none_of fun q => h (.tail _ q)
theorem bind_spec (k : Str → Option NameKind) (n : Str) : ∀ (bs : List (Str × Value)) (m : Str → Option Value), (bs.map (·.1)).Nodup →
    bindL k bs m n = (if k n = some .local then (match bs.lookup n with | some v => some v | none => m n) else m n) ∧ bindC k bs m n = (if k n = some .local then m n else (match bs.lookup n with | some v => some v | none => m n))
  | [], m, _ => by simp [bindL, bindC]
  | (x, v) :: r, m, hd => by
    rw [List.map_cons, List.nodup_cons] at hd
    unfold bindL bindC
    obtain ⟨e1, -⟩ := bind_spec k n r (if k x = some .local then fun y => if y = x then some v else m y else m) hd.2
    obtain ⟨-, e2⟩ := bind_spec k n r (if k x = some .local then m else fun y => if y = x then some v else m y) hd.2
    rw [e1, e2, List.lookup_cons]
    by_cases hx : n = x
    · subst hx
      have hl := lookup_none_of hd.1
      rw [hl]
      by_cases hk : k n = some .local
      · simp [hk]
      · simp [hk]
    · have hb : (n == x) = false := by simpa using hx
      rw [hb]
      by_cases hk : k n = some .local
      · by_cases hkx : k x = some .local
        · simp [hk, hkx, hx]
        · simp [hk, hkx, hx]
      · by_cases hkx : k x = some .local
        · simp [hk, hkx, hx]
        · simp [hk, hkx, hx]
theorem lookup_nd {α : Type} : ∀ {l : List (Str × α)} {p : Str × α}, (l.map (·.1)).Nodup → p ∈ l → l.lookup p.1 = some p.2
  | q :: r, p, nd, hp => by
    rw [List.map_cons, List.nodup_cons] at nd
    rw [List.lookup_cons]
    rcases List.mem_cons.mp hp with rfl | hp
    · simp
    · have : (p.1 == q.1) = false := by
        have h2 : p.1 ∈ r.map (·.1) := List.mem_map_of_mem hp
        simpa using fun e : p.1 = q.1 => nd.1 (e ▸ h2)
      rw [this]
      exact lookup_nd nd.2 hp
noncomputable def cellStore : List (Str × Option AV) → List Addr → Store
  | q :: qs, a :: as => (a, .cell q.2) :: cellStore qs as
  | _, _ => []
noncomputable def nodupB : List Str → Bool
  | [] => true
  | x :: r => !(r.contains x) && nodupB r
theorem nodupB_of : ∀ {l : List Str}, nodupB l = true → l.Nodup
  | [], _ => List.nodup_nil
  | x :: r, h => by
    unfold nodupB at h
    rw [Bool.and_eq_true] at h
    exact List.nodup_cons.mpr ⟨fun q => by simp [q] at h, nodupB_of h.2⟩
noncomputable def cellChk (scope : Scope) (ns : List Str) : Bool := nodupB ns && ns.all (fun n => scope.names.lookup n == some .local || (scope.names.lookup n == some .cell && ((cellsFrom 0 scope.names []).map (·.1)).contains n)) &&
  (cellsFrom 0 scope.names []).all (fun q => scope.names.lookup q.1 == some .cell) && nodupB ((cellsFrom 0 scope.names []).map (·.1)) && !scope.isCoroutine && !scope.isGenerator && scope.kind == .function
theorem lookup_some_of {α : Type} {n : Str} : ∀ {l : List (Str × α)}, n ∈ l.map (·.1) → (l.lookup n).isSome = true
  | p :: r, h => by
    rw [List.lookup_cons]
    cases hb : n == p.1 with
    | true => rfl
    | false =>
      refine lookup_some_of ((List.mem_cons.mp h).resolve_left fun e => ?_)
      rw [e] at hb; simp at hb
  | [], h => nomatch h
section
variable {w : World} {b0 : Heap} {c : Cx} {T : Store} {m : Loc} {h : Heap}
theorem OkF.addCells (O : OkF w b0 c m T h) : ∀ (qs : List (Str × Option AV)) (cs : List (Str × Addr)), (∀ q v, (q, v) ∈ qs.zip cs → ∃ ov, h.IsCell v.2 ov ∧ OV h ov q.2) → (cs.Pairwise fun x y => x.2 ≠ y.2) →
    (∀ x ∈ cs, b0.get? x.2 = none ∧ x.2 ∉ FLs c.fl ∧ x.2 ∉ fps T ∧ c.C ≠ x.2) → OkF w b0 c m (cellStore qs (cs.map (·.2)) ++ T) h ∧ ∀ x ∈ fps (cellStore qs (cs.map (·.2))), ∃ y ∈ cs, y.2 = x
  | [], _, _, _, _ => by
    show OkF w b0 c m ([] ++ T) h ∧ _
    exact ⟨O, fun _ hx => nomatch hx⟩
  | _ :: _, [], _, _, _ => ⟨O, fun _ hx => nomatch hx⟩
  | q :: qs, y :: cs, h1, h2, h3 => by
    obtain ⟨h2a, h2b⟩ := List.pairwise_cons.mp h2
    obtain ⟨ih, ihm⟩ := OkF.addCells O qs cs (fun q v hq => h1 q v (.tail _ hq)) h2b fun x hx => h3 x (.tail _ hx)
    obtain ⟨ov, ⟨o, ho, hd⟩, hv⟩ := h1 q y (.head _)
    obtain ⟨f1, f2, f3, f4⟩ := h3 y (.head _)
    refine ⟨OkF.add (a := y.2) (o := .cell q.2) ih ⟨o, ov, ho, hd, hv⟩ (by simp [fp]) (fun x hx => ?_) (fun hx => f4 (List.mem_singleton.mp hx)), fun x hx => ?_⟩
    · obtain rfl := List.mem_singleton.mp hx
      refine ⟨f1, f2, fun hq => ?_⟩
      have hq' : y.2 ∈ fps (cellStore qs (cs.map (·.2)) ++ T) := hq
      rw [fps_append] at hq'
      rcases List.mem_append.mp hq' with hq | hq
      · obtain ⟨z, hz, e⟩ := ihm _ hq
        exact h2a z hz e.symm
      · exact f3 hq
    · rcases List.mem_cons.mp (show x ∈ y.2 :: fps (cellStore qs (cs.map (·.2))) from hx) with rfl | hx
      · exact ⟨y, .head _, rfl⟩
      · obtain ⟨z, hz, e⟩ := ihm x hx
        exact ⟨z, .tail _ hz, e⟩
theorem zip_names : ∀ (cs : List (Str × Addr)), (cs.map (·.1)).zip (cs.map (·.2)) = cs
  | [] => rfl
  | (a, b) :: r => by rw [List.map_cons, List.map_cons, List.zip_cons_cons, zip_names r]
end
section
variable {w : World} {b0 : Heap} {T : Store} {n : Nat} {hn : Bool} {fa : Addr} {xs : List AV} {Q : AV → Store → Prop} {X : Addr → Store → Prop} {name qual : Str} {params : Arguments} {body : List Stmt} {scope : Scope} {dV kV doc pm cdv ct oc : Value} {an od : Option Addr} {osl : Array (Option Value)}
theorem wc_cell {ps : List (Str × AV)} {m₀ : Loc} {cvs : List (Str × Option AV)} (G : Gd w b0)
    (ho : (hd.heap_39 w.params).lookup fa = some ⟨oc, od, .func (fnOf name qual params body scope dV kV doc pm an cdv ct), osl⟩) (hcd : codeIn (hd.heap_39 w.params) cdv qual = true)
    (hb : ∀ (s : Shared) vs, (KK w).In s.heap → RVs s.heap vs xs → ∃ binds, BindsTo s (fnOf name qual params body scope dV kV doc pm an cdv ct) ⟨vs, []⟩ binds ∧ Bd s.heap binds ps)
    (hchk : cellChk scope (ps.map (·.1)) = true) (hm : ps.filter (fun p => scope.names.lookup p.1 == some .local) = m₀) (hcv : (cellsFrom 0 scope.names []).map (fun q => (q.1, ps.lookup q.1)) = cvs)
    (h : ∀ (L : Addr) (fl : List Env) (A : Around) (cs : List Addr), cs.length = cvs.length → (Cx.mk qual scope L fa cdv ((cvs.map (·.1)).zip cs) fl A none).Ok n → (hn = true → A.handled = none) →
      WB w b0 ⟨qual, scope, L, fa, cdv, (cvs.map (·.1)).zip cs, fl, A, none⟩ body m₀ (cellStore cvs cs ++ T) (RetQ Q) (XQ X)) : WC w b0 (n + 1) hn (rf fa) xs T Q X := ⟨fun A fl s vf vs hA hh hf O rv rs => by
  refine rv.E ?_; intro _
  subst hm hcv
  unfold cellChk at hchk
  simp only [Bool.and_eq_true, beq_iff_eq, Bool.not_eq_true'] at hchk
  obtain ⟨⟨⟨⟨⟨⟨hnd, hall⟩, hcells⟩, hcnd⟩, hco⟩, hgen⟩, hk⟩ := hchk
  have KI := G.K.keeps O.stay
  obtain ⟨binds, hbind, hbd⟩ := hb s vs KI rs
  refine codeAny_call_function (by have := hf.depth; omega) (KI _ _ ho) rfl hco hgen rfl (codeRec_of KI hcd) (hbind _ _ _ _ ?_)
  have hcn : ((cellsFrom 0 scope.names []).map (·.1)) = ((cellsFrom (s.heap.objs.size + 1) scope.names []).map (·.1)) := cellsFrom_names _ _ _ _ _ rfl
  refine wpAny_newFunctionEnv_cells hk (fun x hx => ?_) fun env he s' x => ?_
  · have hx' : x.1 ∈ ps.map (·.1) := by rw [← hbd.names]; exact List.mem_map_of_mem hx
    have h1 := List.all_eq_true.mp hall x.1 hx'
    simp only [Bool.or_eq_true, beq_iff_eq, Bool.and_eq_true] at h1
    refine h1.imp id fun ⟨a, b⟩ => ⟨a, ?_⟩
    refine lookup_some_of ?_
    rw [← hcn]
    simpa using b
  subst he
  refine ⟨(G.nolimit.keeps O.stay).keeps x.toInCall.keep, codeAny_func ?_⟩
  obtain ⟨h₁, tk, rfl, -⟩ := x.done
  have g : Grow s.heap h₁ := x.toInCall.keep
  have hnew : s.heap.get? s.heap.objs.size = none := noneAt _ (Nat.le_refl _)
  have hzip : (((cellsFrom 0 scope.names []).map (fun q => (q.1, ps.lookup q.1))).map (·.1)).zip ((cellsFrom (s.heap.objs.size + 1) scope.names []).map (·.2)) = cellsFrom (s.heap.objs.size + 1) scope.names [] := by
    rw [List.map_map]
    show List.zip ((cellsFrom 0 scope.names []).map (·.1)) _ = _
    rw [hcn]
    exact zip_names _
  let cc : Cx := ⟨qual, scope, s.heap.objs.size, fa, cdv, cellsFrom (s.heap.objs.size + 1) scope.names [], fl, A.deeper (envOfC qual scope s.heap.objs.size fa cdv), none⟩
  have hok : cc.Ok n := ⟨Around.frames_deeper hA, hk, by have := hf.depth; show A.depth + 1 + n < _; omega, by have := hf.units; show A.units + 3 + 16 * n + 100 < _; omega⟩
  have hbn : (binds.map (·.1)).Nodup := by rw [hbd.names]; exact nodupB_of hnd
  have hO : OkF w b0 cc (ps.filter (fun p => scope.names.lookup p.1 == some .local)) T h₁ := binds_ok (c := cc) rfl O g x.toInCall.ns hnew hk fun p hp => by
    obtain ⟨hp1, hp2⟩ := List.mem_filter.mp hp
    have hp2' : scope.names.lookup p.1 = some .local := by simpa using hp2
    have e := (bind_spec (fun n => scope.names.lookup n) p.1 binds (fun _ => none) hbn).1
    have hl : OV s.heap (binds.lookup p.1) (ps.lookup p.1) := hbd.lookup p.1
    have hpl : ps.lookup p.1 = some p.2 := lookup_nd (nodupB_of hnd) hp1
    rw [hpl] at hl
    cases hbl : binds.lookup p.1 with
    | none => rw [hbl] at hl; exact hl.elim
    | some v =>
      rw [hbl] at hl
      refine ⟨v, ?_, hl⟩
      refine Eq.trans e ?_
      simp only [hp2', if_true]
      rw [hbl]
  have hO2 := OkF.addCells hO ((cellsFrom 0 scope.names []).map (fun q => (q.1, ps.lookup q.1))) (cellsFrom (s.heap.objs.size + 1) scope.names []) (fun q v hq => ?_) x.apart fun y hy => ?_
  · have hw := h s.heap.objs.size fl cc.A ((cellsFrom (s.heap.objs.size + 1) scope.names []).map (·.2)) (by
      rw [List.length_map, List.length_map]
      have := congrArg List.length hcn
      rw [List.length_map, List.length_map] at this
      exact this.symm)
    rw [hzip] at hw
    exact body_end (c := cc) rfl hok g hnew (fun z hz => by
      obtain ⟨y, hy, rfl⟩ := hO2.2 z hz
      exact noneAt _ (Nat.le_of_lt (x.above y.1 y.2 hy))) hO2.1 (hw hok fun q => hh q)
  · have hz : q.1 = v.1 ∧ q ∈ (cellsFrom 0 scope.names []).map (fun q => (q.1, ps.lookup q.1)) ∧ v ∈ cellsFrom (s.heap.objs.size + 1) scope.names [] := by
      have hmem : (q, v) ∈ ((cellsFrom 0 scope.names []).map (fun q => (q.1, ps.lookup q.1))).zip (cellsFrom (s.heap.objs.size + 1) scope.names []) := hq
      have e : ((cellsFrom 0 scope.names []).map (fun q => (q.1, ps.lookup q.1))).map (·.1) = (cellsFrom (s.heap.objs.size + 1) scope.names []).map (·.1) := by
        rw [List.map_map]; exact hcn
      have aux : ∀ (l : List (Str × Option AV)) (r : List (Str × Addr)), l.map (·.1) = r.map (·.1) → ∀ q v, (q, v) ∈ l.zip r → q.1 = v.1 ∧ q ∈ l ∧ v ∈ r := by
        intro l
        induction l with
        | nil => intro r _ q v hq; cases hq
        | cons a l ih =>
          intro r he q v hq
          cases r with
          | nil => cases hq
          | cons b r =>
            rw [List.map_cons, List.map_cons] at he
            injection he with he1 he2
            rcases List.mem_cons.mp (show (q, v) ∈ (a, b) :: l.zip r from hq) with e | hq
            · cases e; exact ⟨he1, .head _, .head _⟩
            · obtain ⟨x1, x2, x3⟩ := ih r he2 q v hq
              exact ⟨x1, .tail _ x2, .tail _ x3⟩
      exact aux _ _ e q v hmem
    obtain ⟨e1, e2, e3⟩ := hz
    obtain ⟨q0, hq0, rfl⟩ := List.mem_map.mp e2
    have hcl := List.all_eq_true.mp hcells q0 hq0
    have hcl' : scope.names.lookup q0.1 = some .cell := by simpa using hcl
    have nd2 : ((cellsFrom (s.heap.objs.size + 1) scope.names []).map (·.1)).Nodup := hcn ▸ nodupB_of hcnd
    have hlk : (cellsFrom (s.heap.objs.size + 1) scope.names []).lookup q0.1 = some v.2 := by
      have e1' : q0.1 = v.1 := e1
      rw [e1']
      exact lookup_of_mem_nodup nd2 e3
    refine ⟨_, x.cell q0.1 v.2 hlk, ?_⟩
    have e := (bind_spec (fun n => scope.names.lookup n) q0.1 binds (fun _ => none) hbn).2
    have hl : OV h₁ (binds.lookup q0.1) (ps.lookup q0.1) := OV.keepI g.keepI (hbd.lookup q0.1)
    have e' : bindC (fun n => scope.names.lookup n) binds (fun _ => none) q0.1 = binds.lookup q0.1 := by
      rw [e]
      simp only [hcl']
      rw [if_neg (by decide)]
      cases binds.lookup q0.1 <;> rfl
    exact e'.symm ▸ hl
  · have ha := x.above y.1 y.2 hy
    have hN : s.heap.get? y.2 = none := noneAt _ (Nat.le_of_lt ha)
    obtain ⟨n1, n2, n3⟩ := O.newAt hN
    refine ⟨n1, fun hq => ?_, n3, Nat.ne_of_lt ha⟩
    rcases List.mem_cons.mp (show y.2 ∈ s.heap.objs.size :: FLs fl from hq) with e | hq
    · exact absurd e (Nat.ne_of_gt ha)
    · exact n2 hq⟩
/-- a closure's body -/
theorem wc_clo {k : Nat} {cA : Addr} {var : Str} {m₀ : Loc} (G : Gd w b0) (hcf : CF k = ⟨name, qual, params, body, scope, var⟩)
    (hb : ∀ (s : Shared) vs doc pm cdv ct, RVs s.heap vs xs → ∃ binds, BindsTo s (fnX name qual params body scope [(var, cA)] .none .none doc pm none cdv ct) ⟨vs, []⟩ binds ∧ (∀ y ∈ binds, scope.names.lookup y.1 = some .local) ∧ ∀ p ∈ m₀, ∃ v, binds.reverse.lookup p.1 = some v ∧ RV s.heap v p.2)
    (hs : (scope.names.all (fun x => !(x.2 == .cell)) && !scope.isCoroutine && !scope.isGenerator && scope.kind == .function) = true)
    (h : ∀ (L f : Addr) (cdv : Value) (fl : List Env) (A : Around), (Cx.mk qual scope L f cdv [(var, cA)] fl A none).Ok n → (hn = true → A.handled = none) → WB w b0 ⟨qual, scope, L, f, cdv, [(var, cA)], fl, A, none⟩ body m₀ T (RetQ Q) (XQ X)) : WC w b0 (n + 1) hn (.clo k cA) xs T Q X := ⟨fun A fl s vf vs hA hh hf O rv rs => by
  simp only [Bool.and_eq_true, beq_iff_eq, Bool.not_eq_true'] at hs
  cases rv with
  | @clo a _ cc o ok _ doc pm ct ks tq ha hda hk hkc hkd hkq =>
  rw [hcf] at hda hkq
  obtain ⟨binds, hbind, hloc, hm⟩ := hb s vs doc pm (.ref cc) ct rs
  refine codeAny_call_def (fd := fnX name qual params body scope [(var, cA)] .none .none doc pm none (.ref cc) ct) (body := body) (binds := binds) (by have := hf.depth; omega) ha hda (G.nolimit.keeps O.stay) ⟨cc, ok, ks, tq, rfl, hk, hkd, hkq⟩ rfl hbind (fun x hx => ?_) hloc (fun h₁ hns g => ?_) hs.1.1.2 hs.1.2 hs.2
  · have := List.all_eq_true.mp hs.1.1.1 x hx
    simpa using this
  have hnew : s.heap.get? s.heap.objs.size = none := noneAt _ (Nat.le_refl _)
  let c : Cx := ⟨qual, scope, s.heap.objs.size, a, .ref cc, [(var, cA)], fl, A.deeper (callEnv (fnX name qual params body scope [(var, cA)] .none .none doc pm none (.ref cc) ct) s.heap.objs.size a), none⟩
  have hok : c.Ok n := ⟨Around.frames_deeper hA, hs.2, by have := hf.depth; show A.depth + 1 + n < _; omega, by have := hf.units; show A.units + 3 + 16 * n + 100 < _; omega⟩
  have O₁ : OkF w b0 c m₀ T h₁ := binds_ok (c := c) rfl O g hns hnew hs.2 hm
  exact body_end (c := c) (Tc := []) rfl hok g hnew (fun _ hx => nomatch hx) O₁ (h s.heap.objs.size a (.ref cc) fl c.A hok fun q => hh q)⟩
end
theorem fill : (fun (_ : OpenLaw) (_ : Params → Frag) => True) PySem.Challenge.rw_pc0128_01 hd.heap_39 := by
  k_fill
  trivial
end
section
inductive CL (x : Str) (a : Addr) : List (Str × Addr) → Prop
  | head {r} : CL x a ((x, a) :: r)
  | tail {p r} : (p.1 == x) = false → CL x a r → CL x a (p :: r)
theorem CL.lookup {x : Str} {a : Addr} {l : List (Str × Addr)} (h : CL x a l) : l.lookup x = some a := by
  induction h with
  | head => rw [List.lookup_cons]; simp
  | @tail p r hn _ ih =>
    rw [List.lookup_cons]
    have : (x == p.1) = false := by
      have h1 : p.1 ≠ x := by simpa using hn
      simpa using fun e => h1 e.symm
    rw [this]; exact ih
/-- a name set, local or cell -/
inductive NS (c : Cx) (x : Str) (a : AV) : Loc → Store → Loc → Store → Prop
  | loc {m m' T} : c.env.kindOf x = some .local → LU x a m m' → NS c x a m T m' T
  | cell {m T T' ca o} : c.env.kindOf x = some .cell → c.env.cells.lookup x = some ca → TU ca (.cell o) (.cell (some a)) T T' → NS c x a m T m T'
inductive NSs (c : Cx) : List (Str × AV) → Loc → Store → Loc → Store → Prop
  | nil {m T} : NSs c [] m T m T
  | cons {x a r m T m₁ T₁ m₂ T₂} : NS c x a m T m₁ T₁ → NSs c r m₁ T₁ m₂ T₂ → NSs c ((x, a) :: r) m T m₂ T₂
theorem RVs.reverse {h : Heap} : ∀ {vs : List Value} {xs : List AV}, RVs h vs xs → RVs h vs.reverse xs.reverse
  | [], _, r => by cases r; exact .nil
  | v :: vs, _, r => by cases r with | cons a r => rw [List.reverse_cons, List.reverse_cons]; exact (RVs.reverse r).append (.cons a .nil)
theorem OV.inv {h : Heap} {ov : Option Value} {a : AV} (r : OV h ov (some a)) : ∃ v, ov = some v ∧ RV h v a := by
  cases ov with
  | none => exact r.elim
  | some v => exact ⟨v, rfl, r⟩
section
variable {w : World} {b0 : Heap} {c : Cx} {m m₁ m' : Loc} {T T' T₁ T₂ : Store} {s s₁ s₂ : Shared} {Q : AV → Loc → Store → Prop} {QF : FA → Loc → Store → Prop} {X : Addr → Loc → Store → Prop} {i j : Int}
theorem cellAt {h : Heap} {a : Addr} {v : AV} (r : RO w h a (.cell (some v))) : ∃ u, h.IsCell a (some u) ∧ RV h u v := by
  obtain ⟨o, ov, h1, h2, h3⟩ := r
  obtain ⟨u, rfl, h4⟩ := h3.inv
  exact ⟨u, ⟨o, h1, h2⟩, h4⟩
theorem e_cell {x : Str} {pos : Pos} {a : AV} {ca : Addr} (hk : c.env.scope.kind = .function) (hx : c.env.kindOf x = some .cell) (hc : CL x ca c.env.cells) (hm : (ca, .cell (some a)) ∈ T) (h : Q a m T)
    (hd : (x == ("__debug__" : Str)) = false := by decide) : WE w b0 c (.Name x pos) m T Q X := ⟨fun s O _ => by
  obtain ⟨u, h1, h2⟩ := cellAt (O.1.rep _ hm)
  exact wpAny_Name (wpAny_loadName_cell hk hx hc.lookup h1 (res_same O h2 h)) hd⟩
theorem e_free {x : Str} {pos : Pos} {a : AV} {ca : Addr} (hk : c.env.scope.kind = .function) (hx : c.env.kindOf x = some .free) (hc : CL x ca c.env.cells) (hm : (ca, .cell (some a)) ∈ T) (h : Q a m T)
    (hd : (x == ("__debug__" : Str)) = false := by decide) (hn : (x == ("__classdict__" : Str)) = false := by decide) : WE w b0 c (.Name x pos) m T Q X := ⟨fun s O _ => by
  obtain ⟨u, h1, h2⟩ := cellAt (O.1.rep _ hm)
  exact wpAny_Name (wpAny_loadName_free hk hx hc.lookup h1 (res_same O h2 h) hn) hd⟩
/-- a name set -/
theorem wp_bind {x : Str} {v : Value} {a : AV} {m₂ : Loc} {T₂ : Store} (O : OkF w b0 c m T s.heap) (hv : RV s.heap v a) (N : NS c x a m T m₂ T₂) (hk : c.env.scope.kind = .function)
    {g : Unit → Shared → Prop} {E : Value → Shared → Prop} (h : ∀ s', OkF w b0 c m₂ T₂ s'.heap → Stp (FLs c.fl) (c.C :: fps T) (fps T₂) s s' → KeepI s.heap s'.heap → g () s') : wpAny (model pr w) c.A (storeName c.env x v) g E s := by
  cases N with
  | loc hx U => exact wp_store (R := RFl) O hv U hk hx fun h' O' st ki => h _ O' st ki
  | @cell _ _ ca o hx hc U =>
    obtain ⟨ob, ov, h1, h2, h3⟩ := O.1.rep _ U.mem
    refine wpAny_storeName_cell hk hx hc ⟨ob, h1, h2⟩ fun h' hc' hs => ?_
    have k1 := turn1 (o := .cell o) (o' := .cell (some a)) hs
    have ki := keepI_turn (O.1.rep _ U.mem) k1
    obtain ⟨o', h1', h2'⟩ := hc'
    have hr : RO w h' ca (.cell (some a)) := ⟨o', some v, h1', h2', hv.keepI ki⟩
    exact h { s with heap := h' } (O.turn U k1 hr rfl) (stp_turn (s' := { s with heap := h' }) O U k1 hr rfl) ki
theorem wp_binds {E : Value → Shared → Prop} (hk : c.env.scope.kind = .function) : ∀ (ns : List (Str × AV)) (vs : List Value) (s : Shared) (m : Loc) (T : Store) {m₂ : Loc} {T₂ : Store} {g : Unit → Shared → Prop} (ts : List (Value → Sem Unit)), OkF w b0 c m T s.heap → RVs s.heap vs (ns.map (·.2)) → NSs c ns m T m₂ T₂ →
    (ts.length = ns.length ∧ ∀ (k : Nat) (x : Str), (ns.map (·.1))[k]? = some x → ∃ t : Value → Sem Unit, ts[k]? = some t ∧ ∀ v g E s, wpAny (model pr w) c.A (storeName c.env x v) g E s → wpAny (model pr w) c.A (t v) g E s) →
    (∀ s', OkF w b0 c m₂ T₂ s'.heap → Stp (FLs c.fl) (c.C :: fps T) (fps T₂) s s' → KeepI s.heap s'.heap → g () s') → wpAny (model pr w) c.A (assignInOrder ts vs) g E s
  | [], vs, s, m, T, _, _, g, ts, O, rs, N, ht, h => by
    cases N
    obtain rfl := List.length_eq_zero_iff.mp ht.1
    exact assignInOrder_nil (h s O (.refl fun x hx => .tail _ hx) fun _ _ e _ => e)
  | (x, a) :: ns, vs, s, m, T, _, _, g, ts, O, rs, N, ht, h => by
    cases rs with
    | @cons v vs _ _ r rs =>
    cases N with
    | @cons _ _ _ _ _ m₁ T₁ _ _ N₁ Ns =>
    cases ts with
    | nil => exact absurd ht.1 (by simp)
    | cons t ts =>
    obtain ⟨t', e, ht0⟩ := ht.2 0 x rfl
    cases e
    refine assignInOrder_cons (ht0 _ _ _ _ (wp_bind O r N₁ hk fun s' O' st ki => ?_))
    refine wp_binds hk ns vs s' m₁ T₁ ts O' (rs.keepI ki) Ns ⟨by simpa using ht.1, fun k y hy => ?_⟩ fun s'' O'' st' ki' => h s'' O'' (st.more st') fun b o e i => ki' b o (ki b o e i) i
    exact ht.2 (k + 1) y hy
inductive UP (T : Store) : AV → List AV → Prop
  | tup {xs} : UP T (.tup xs) xs
  | list {x xs} : (x, .list xs) ∈ T → UP T (rf x) xs
section
variable (c : Cx)
noncomputable abbrev KAs (QF : FA → Loc → Store → Prop) (x : Str) : AV → Loc → Store → Prop := fun a m T => ∃ m₂ T₂, NS c x a m T m₂ T₂ ∧ QF .next m₂ T₂
noncomputable abbrev KNs (QF : FA → Loc → Store → Prop) (ns : List Str) : AV → Loc → Store → Prop := fun a m T => ∃ xs m₂ T₂, UP T a xs ∧ xs.length = ns.length ∧ NSs c (ns.zip xs) m T m₂ T₂ ∧ QF .next m₂ T₂
noncomputable abbrev KNr (QF : FA → Loc → Store → Prop) (ns : List Str) : AV → Loc → Store → Prop := fun a m T => ∃ xs m₂ T₂, UP T a xs ∧ xs.length = ns.length ∧ NSs c (ns.reverse.zip xs.reverse) m T m₂ T₂ ∧ QF .next m₂ T₂
end
theorem kas {QF : FA → Loc → Store → Prop} {x : Str} {a : AV} {m m₂ : Loc} {T T₂ : Store} (hl : NS c x a m T m₂ T₂) (h : QF .next m₂ T₂) : KAs c QF x a m T := ⟨_, _, hl, h⟩
theorem s_assign {x : Str} {e : Expr} {p p' : Pos} (h : WE w b0 c e m T (KAs c QF x) X) (hk : c.env.scope.kind = .function)
    (hs : swapsWith e (some (.Name x p')) p.line c.env = pure false := by rfl) : WS w b0 c (.Assign [.Name x p'] e p) m T QF X := ⟨fun s O _ =>
  wpAny_Assign_Name (h.then s O trivial fun va a m₁ T₁ s₁ ra O₁ _ x₁ zz => by
    obtain ⟨m₂, T₂, U, hq⟩ := zz
    exact wp_bind O₁ ra U hk fun s' O' st ki => ⟨.next, m₂, T₂, .next, O', x₁.more st, hq⟩) hs⟩
/-- what is unpacked -/
theorem wp_items {v : Value} {a : AV} {xs : List AV} {n : Nat} {g : List Value → Shared → Prop} {E : Value → Shared → Prop} (O : OkF w b0 c m T s.heap) (hh : c.A.handled = none) (hv : RV s.heap v a) (u : UP T a xs) (hn : xs.length = n)
    (h : ∀ h' vs, OkF w b0 c m T h' → Stp (FLs c.fl) (c.C :: fps T) (fps T) s { s with heap := h' } → KeepI s.heap h' → RVs h' vs xs → g vs { s with heap := h' }) : wpAny (model pr w) c.A (unpackItems v n none) g E s := by
  have fin : ∀ (vs : List Value) (h' : Heap), RVs s.heap vs xs → Heap.ExtBut s.heap.objs.size s.heap h' → g vs.toArray.toList { s with heap := h' } := fun vs h' rs he => by
    have gr : Grow s.heap h' := fun b o e => he b o (Nat.ne_of_lt (Heap.lt_size e)) e
    exact h h' _ (O.grow gr) (stp_same (s' := { s with heap := h' }) gr) gr.keepI (by simpa using rs.keepI gr.keepI)
  cases u with
  | tup =>
    refine hv.tupE fun t vs q h1 r1 => ?_
    have ht : PyProof.Rows.IsTup s.heap t vs.toArray := ⟨_, h1, rfl, q, rfl⟩
    rw [← hn, show xs.length = vs.toArray.size by rw [List.size_toArray, r1.length]]
    exact PyProof.Rows.unpackItems_tuple hh ht fun h' he => fin vs h' r1 he
  | list hx =>
    cases hv
    obtain ⟨vs, h1, r1⟩ := listAt (O.1.rep _ hx)
    rw [← hn, show xs.length = vs.toArray.size by rw [List.size_toArray, r1.length]]
    exact kun_itemsOf hh h1 fun h' he => fin vs h' r1 he
theorem assignEach_names {es : List Expr} {ns : List Str} (hes : es.map (fun | .Name x _ => some x | _ => none) = ns.map some) : (assignEach es c.env).length = ns.length ∧ (assignEach es c.env).findIdx? (·.1) = none ∧ ∀ (k : Nat) (x : Str), ns[k]? = some x → ∃ t : Value → Sem Unit, ((assignEach es c.env).map (·.2))[k]? = some t ∧ ∀ v g E s, wpAny (model pr w) c.A (storeName c.env x v) g E s → wpAny (model pr w) c.A (t v) g E s := by
    induction es generalizing ns with
    | nil => cases ns with
      | nil => exact ⟨rfl, rfl, fun k x hk => by cases hk⟩
      | cons _ _ => cases hes
    | cons e es ih => cases ns with
      | nil => cases hes
      | cons n ns =>
        rw [List.map_cons, List.map_cons] at hes
        injection hes with he1 he2
        obtain ⟨a1, a2, a3⟩ := ih he2
        cases e with
        | Name x pp =>
          obtain rfl : x = n := Option.some.inj he1
          refine ⟨?_, ?_, fun k y hk => ?_⟩
          · show (assignEach es c.env).length + 1 = _; rw [a1, List.length_cons]
          · show List.findIdx? _ ((false, assign (.Name x pp) c.env) :: assignEach es c.env) = none
            rw [List.findIdx?_cons, a2]; rfl
          · cases k with
            | zero => cases hk; exact ⟨assign (.Name x pp) c.env, rfl, fun v g E s h => PyProof.Rows.assign_Name h⟩
            | succ k => exact a3 k y hk
        | _ => cases he1
theorem s_unpack {es : List Expr} {k : Nat} {e : Expr} {p tp : Pos} (ns : List Str) (hes : es.map (fun | .Name x _ => some x | _ => none) = ns.map some) (hh : c.A.handled = none) (hk : c.env.scope.kind = .function)
    (h : WE w b0 c e m T (KNs c QF ns) X)
    (hs : swapsWithSole [.Tuple es k tp] e p.line c.env = pure false) (hw : swappedStores [.Tuple es k tp] e c.env = pure none) : WS w b0 c (.Assign [.Tuple es k tp] e p) m T QF X := ⟨fun s O _ => by
  refine Assign_Tuple (h.then s O trivial fun va a m₁ T₁ s₁ ra O₁ _ x₁ zz => ?_) hs hw
  obtain ⟨xs, m₂, T₂, u, hl, N, hq⟩ := zz
  have hlen := assignEach_names (w := w) (c := c) hes
  rw [assign_Tuple]
  refine wpAny_bind (wpAny_standAt ?_)
  unfold unpack
  rw [hlen.1, hlen.2.1]
  refine wpAny_bind (wpAny_holding (wp_items O₁ hh ra u hl fun h' vs O' st ki rs => ?_))
  have hz : (ns.zip xs).map (·.2) = xs := by rw [List.map_snd_zip]; omega
  have hz1 : (ns.zip xs).map (·.1) = ns := by rw [List.map_fst_zip]; omega
  refine wp_binds hk (ns.zip xs) vs { s₁ with heap := h' } m₁ T₁ _ O' (by rw [hz]; exact rs) N ⟨by rw [List.length_map, hlen.1, List.length_zip]; omega, by rw [hz1]; exact hlen.2.2⟩ fun s' O'' st' ki' => ⟨.next, m₂, T₂, .next, O'', (x₁.more st).more st', hq⟩⟩
theorem s_swapped {es : List Expr} {k : Nat} {e : Expr} {p tp : Pos} (ns : List Str) (hh : c.A.handled = none) (hk : c.env.scope.kind = .function)
    (h : WE w b0 c e m T (KNr c QF ns) X)
    (hs : swapsWithSole [.Tuple es k tp] e p.line c.env = pure false) (hw : swappedStores [.Tuple es k tp] e c.env = pure (some ns)) : WS w b0 c (.Assign [.Tuple es k tp] e p) m T QF X := ⟨fun s O _ => by
  refine Assign_Tuple_swapped (h.then s O trivial fun va a m₁ T₁ s₁ ra O₁ _ x₁ zz => ?_) hs hw
  obtain ⟨xs, m₂, T₂, u, hl, N, hq⟩ := zz
  refine wp_items O₁ hh ra u hl fun h' vs O' st ki rs => ?_
  have hz : (ns.reverse.zip xs.reverse).map (·.2) = xs.reverse := by rw [List.map_snd_zip]; simp [hl]
  have hz1 : (ns.reverse.zip xs.reverse).map (·.1) = ns.reverse := by rw [List.map_fst_zip]; simp [hl]
  have rr : RVs h' vs.reverse xs.reverse := rs.reverse
  refine wp_binds hk (ns.reverse.zip xs.reverse) vs.reverse { s₁ with heap := h' } m₁ T₁ _ O' (by rw [hz]; exact rr) N ⟨by simp [hl], by
    rw [hz1]
    intro k x hx
    exact ⟨bindName c.env x, by rw [List.getElem?_map, hx]; rfl, fun v g E s h => bindName_ h⟩⟩ fun s' O'' st' ki' => ⟨.next, m₂, T₂, .next, O'', (x₁.more st).more st', hq⟩⟩
/- slices -/
theorem e_sliceTo {v e : Expr} {sp pos : Pos} (h : WE w b0 c v m T (fun a m₁ T₁ => WE w b0 c e m₁ T₁ (fun k m₂ T₂ => ∃ (x : Addr) (xs : List AV) (n : Int), a = rf x ∧ k = .int n ∧ (x, .list xs) ∈ T₂ ∧ xs.length ≤ 16777216 ∧ ∀ z, Q (rf z) m₂ ((z, .list (xs.take (kms_hi (some n) xs.length))) :: T₂)) X) X)
    (ht : ∀ o r, letTemporaryGo v o r = pure ()) : WE w b0 c (.Subscript v (.Slice none (some e) none sp) pos) m T Q X := ⟨fun s O _ => by
  refine wpAny_Subscript_Slice (T := "list") (id := "list.__getitem__") list_getitem_lookup (h.then s O trivial fun va a m₁ T₁ s₁ ra O₁ _ x₁ hr => wp_back x₁ ?_) ht
  refine wpAny_Slice ?_
  refine wpAny_pure (W.then hr s₁ O₁ trivial fun vb b m₂ T₂ s₂ rb O₂ k₂ x₂ zz => wpAny_pure ?_)
  obtain ⟨x, xs, n, e1, e2, hx, hz, hq⟩ := zz
  subst e1 e2
  refine ra.E ?_; intro _
  cases rb with
  | int _ tn =>
  obtain ⟨vs, h1, r1⟩ := listAt (O₂.1.rep _ hx)
  have g1 := Grow.push s₂.heap { cls := .type "slice", data := .fields #[.none, .int n tn, .none] }
  refine ⟨Heap.IsList.typeIs (s := { s₂ with heap := _ }) (h1.push _), ?_⟩
  refine wpAny_getItem_list_slice (h1.push _) (Heap.IsSliceOf.new ..) .none (.int _ _) .none (by simp) ?_ (by rw [List.size_toArray, r1.length, sizeLine_eq]; exact hz)
  rw [kms_pick_eq]
  have e : kms_pick vs.toArray.toList none (some n) = vs.take (kms_hi (some n) xs.length) := by
    unfold kms_pick
    simp [kms_lo, r1.length]
  rw [e]
  have g2 := Grow.push (s₂.heap.push { cls := .type "slice", data := .fields #[.none, .int n tn, .none] }) { cls := .type "list", data := .seq (vs.take (kms_hi (some n) xs.length)).toArray }
  have gg := g1.trans g2
  refine (res_new (c := c) (R := RV) (Q := Q) (a := (s₂.heap.push { cls := .type "slice", data := .fields #[.none, .int n tn, .none] }).objs.size) (o := .list (xs.take (kms_hi (some n) xs.length))) (tk := s₂.toks) O₂ gg ⟨_, 0, Heap.get?_push_size _ rfl, (r1.keepI gg.keepI).take _⟩ (by simp [fp]) (fun y hy => ?_) (.raw _) (hq _)).back (x₁.more x₂)
  rw [List.mem_singleton.mp hy]
  exact noneAt _ (by rw [Heap.size_push]; omega)⟩
/- in a tuple of strs -/
theorem strsAre {h : Heap} {vs : List Value} : ∀ {ys : List Str}, RVs h vs (ys.map .str) → StrsAre vs ys := by
  induction vs with
  | nil => intro ys r; cases ys with
    | nil => exact .nil
    | cons _ _ => cases r
  | cons v vs ih => intro ys r; cases ys with
    | nil => cases r
    | cons y ys => cases r with | cons a r => cases a; exact .cons _ _ (ih r)
theorem c_inS {x : Str} {xs : List AV} {ys : List Str} (he : xs = ys.map .str) (h : Q (.bool (ys.any (· == x))) m T) : CmpQ w b0 c .In (.str x) (.tup xs) m T Q X := fun va vb => ⟨fun s O ⟨ra, rb⟩ => by
  subst he
  refine ra.E ?_; intro _
  refine rb.tupE fun t vs q h1 r1 => ?_
  have ht : PyProof.Rows.IsTup s.heap t vs.toArray := ⟨_, h1, rfl, q, rfl⟩
  exact in_tuple_strs ht (by simpa using strsAre r1) (res_same O (.bool _) h)⟩
/- truth -/
theorem tr_list {x : Addr} {xs : List AV} {Q : Bool → Loc → Store → Prop} (hx : (x, .list xs) ∈ T) (hz : xs.length < 2 ^ 62) (h : Q (!xs.isEmpty) m T) : TruQ w b0 c (rf x) m T Q X := fun va => ⟨fun s O ra => by
  refine ra.E ?_; intro _
  obtain ⟨vs, h1, r1⟩ := listAt (O.1.rep _ hx)
  refine wpAny_truthy_list h1 (by rw [List.size_toArray, r1.length]; omega) ?_
  have e : (!vs.toArray.isEmpty) = (!xs.isEmpty) := by
    have := r1.length
    cases vs <;> cases xs <;> simp_all
  rw [e]
  exact res_here O rfl h _⟩
/- copies -/
theorem k_list {x : Addr} {xs : List AV} (hx : (x, .list xs) ∈ T) (hz : xs.length ≤ 16777216) (h : ∀ z, Q (rf z) m ((z, .list xs) :: T)) : CallQ w b0 c (.raw (.type "list")) [rf x] m T Q X := fun vf vs => ⟨fun s O ⟨r, rs⟩ => by
  refine r.E ?_; intro _
  refine rs.oneE fun v r => ?_
  refine r.E ?_; intro _
  obtain ⟨us, n, h1, r1⟩ := O.1.rep _ hx
  refine call_list_seq x (.inl rfl) h1 rfl rfl (fun h' c' hk hD => ?_) (by rw [List.size_toArray, r1.length, sizeLine_eq]; exact hz)
  have g : Grow s.heap h' := hk
  exact res_new (a := s.heap.objs.size) (o := .list xs) (tk := s.toks) O g ⟨us, c', hD, r1.keepI g.keepI⟩ (by simp [fp]) (fun y hy => by rw [List.mem_singleton.mp hy]; exact noneAt _ (Nat.le_refl _)) (.raw _) (h _)⟩
theorem k_tuple {x : Addr} {xs : List AV} (hx : (x, .list xs) ∈ T) (hz : xs.length ≤ 16777216) (h : Q (.tup xs) m T) : CallQ w b0 c (.raw (.type "tuple")) [rf x] m T Q X := fun vf vs => ⟨fun s O ⟨r, rs⟩ => by
  refine r.E ?_; intro _
  refine rs.oneE fun v r => ?_
  refine r.E ?_; intro _
  obtain ⟨us, h1, r1⟩ := listAt (O.1.rep _ hx)
  refine call_tuple_list h1 (fun h' hk => ?_) (by rw [List.size_toArray, r1.length, sizeLine_eq]; exact hz)
  have g0 : Grow s.heap h' := hk
  have g := g0.trans (Grow.push h' { cls := .type "tuple", data := .seq us.toArray })
  exact res_grow (tk := s.toks) O g (.tup (n := 0) (vs := us) (Heap.get?_push_size _ rfl) (r1.keepI g.keepI)) h⟩
end
end
section
/-! what is walked along -/
inductive Src where
  | rng (n : Nat)
  | list (x : Addr) (xs : List AV)
  | tup (xs : List AV)
noncomputable def Src.els : Src → List AV
  | .rng n => (List.range n).map fun (k : Nat) => .int (k : Int)
  | .list _ xs => xs
  | .tup xs => xs
noncomputable def Src.In (T : Store) : Src → Prop
  | .list x xs => (x, .list xs) ∈ T
  | _ => True
inductive SR (T : Store) : AV → Src → Prop
  | rng {n : Nat} : n < 2 ^ 60 → SR T (.rng n) (.rng n)
  | list {x xs} : (x, .list xs) ∈ T → SR T (rf x) (.list x xs)
  | tup {xs} : SR T (.tup xs) (.tup xs)
noncomputable def IterAt (h : Heap) (it : Addr) : Src → Nat → Prop
  | .rng n, i => IsRangeIter h it i ((n : Int) - i) 1
  | .list x _, i => h.IsListIter it x i
  | .tup xs, i => ∃ t vs k, h.get? t = some (tupOf vs.toArray k) ∧ RVs h vs xs ∧ h.IsTupleIter it t i
theorem IterAt.notImm {h : Heap} {it : Addr} : ∀ {src : Src} {i : Nat}, IterAt h it src i → ∃ o, h.get? it = some o ∧ ¬ Imm o
  | .rng n, i, e => ⟨_, e, by rintro (e | e) <;> exact absurd (Value.type.inj e) (by decide)⟩
  | .list x xs, i, zz => by obtain ⟨o, h1, h2, h3⟩ := zz; exact ⟨o, h1, by unfold Imm; rw [h3]; dsimp only; rw [h2]; rintro (e | e) <;> exact absurd (Value.type.inj e) (by decide)⟩
  | .tup xs, i, zz => by obtain ⟨_, _, _, _, _, o, h1, h2, h3⟩ := zz; exact ⟨o, h1, by unfold Imm; rw [h3]; dsimp only; rw [h2]; rintro (e | e) <;> exact absurd (Value.type.inj e) (by decide)⟩
theorem IterAt.keep {h h' : Heap} {it : Addr} {src : Src} {i : Nat} (x : IterAt h it src i) (e : ∀ o, h.get? it = some o → h'.get? it = some o) (ki : KeepI h h') : IterAt h' it src i := by
  cases src with
  | rng n => exact e _ x
  | list a xs => obtain ⟨o, h1, h2⟩ := x; exact ⟨o, e _ h1, h2⟩
  | tup xs =>
    obtain ⟨t, vs, k, h1, h2, o, h3, h4⟩ := x
    exact ⟨t, vs, k, ki _ _ h1 rfl, h2.keepI ki, o, e _ h3, h4⟩
/-- one address turned -/
structure But (it : Addr) (s s' : Shared) : Prop where
  ext : ∀ b o, b ≠ it → s.heap.get? b = some o → s'.heap.get? b = some o
  gens : s'.gens = s.gens
  drawn : s'.drawn = s.drawn
  os : s'.os = s.os
structure Free (b0 : Heap) (c : Cx) (T : Store) (it : Addr) : Prop where
  f1 : it ≠ c.C
  f2 : it ∉ fps T
  f3 : it ∉ FLs c.fl
  f4 : b0.get? it = none
section
variable {w : World} {b0 : Heap} {c : Cx} {m m₁ m' : Loc} {T T' T₁ T₂ : Store} {s s₀ s₁ s₂ s' : Shared} {Q : AV → Loc → Store → Prop} {QF : FA → Loc → Store → Prop} {X : Addr → Loc → Store → Prop} {it : Addr} {src : Src} {i : Nat} {fl F F' : List Addr}
theorem Stp.trans3 {G F₁ F₂ : List Addr} (x : Stp fl F F₁ s s₁) (y : Stp fl G F₂ s₁ s₂) (hG : ∀ a ∈ G, a ∈ F ∨ a ∈ F₁ ∨ s.heap.get? a = Option.none) : Stp fl F F₂ s s₂ := by
  have hG' : ∀ a ∈ G, a ∈ F ∨ s.heap.get? a = Option.none := fun a ha => (hG a ha).elim .inl fun q => q.elim (x.new a) .inr
  refine ⟨fun b o e hb => ?_, fun b o e => ?_, fun a ha => ?_, y.gens.trans x.gens, y.drawn.trans x.drawn, y.os.trans x.os⟩
  · obtain ⟨h1, sl, h2⟩ := x.ext b o e hb
    have hbG : b ∉ G := fun q => (hG' b q).elim hb fun n => by rw [n] at e; cases e
    refine ⟨fun q => (y.ext b o (h1 q) hbG).1 q, ?_⟩
    obtain ⟨_, sl', h3⟩ := y.ext b _ h2 hbG
    exact ⟨sl', h3⟩
  · obtain ⟨o', h1⟩ := x.alive b o e
    exact y.alive b o' h1
  · rcases y.new a ha with q | q
    · exact hG' a q
    · by_cases hF : a ∈ F
      · exact .inl hF
      · refine .inr ?_
        cases e : s.heap.get? a with
        | none => rfl
        | some o => obtain ⟨o', h1⟩ := x.alive a o e; rw [q] at h1; cases h1
theorem Stp.but (x : Stp fl F F' s₀ s) (y : But it s s') (hn : s₀.heap.get? it = Option.none) : Stp fl F F' s₀ s' := by
  have ne : ∀ b o, s₀.heap.get? b = some o → b ≠ it := fun b o e q => by rw [q, hn] at e; cases e
  refine ⟨fun b o e hb => ?_, fun b o e => ?_, x.new, y.gens.trans x.gens, y.drawn.trans x.drawn, y.os.trans x.os⟩
  · obtain ⟨a1, sl, a2⟩ := x.ext b o e hb
    exact ⟨fun q => y.ext b o (ne b o e) (a1 q), sl, y.ext b _ (ne b o e) a2⟩
  · obtain ⟨o', e'⟩ := x.alive b o e
    exact ⟨o', y.ext b o' (ne b o e) e'⟩
theorem But.keepI {h : Heap} (y : But it s s') (hi : ∃ o, s.heap.get? it = some o ∧ ¬ Imm o) : KeepI s.heap s'.heap := fun b o e i => y.ext b o (fun q => by
  obtain ⟨o', h1, h2⟩ := hi
  rw [q, h1] at e; cases e; exact h2 i) e
theorem OkH.but {fl : List Env} (H : OkH w b0 fl T s.heap) (y : But it s s') (hi : ∃ o, s.heap.get? it = some o ∧ ¬ Imm o) (f2 : it ∉ fps T) (f3 : it ∉ FLs fl) (f4 : b0.get? it = none) : OkH w b0 fl T s'.heap := by
  have ki := y.keepI (h := s.heap) hi
  refine ⟨fun b o e => y.ext b o (fun q => by rw [q, f4] at e; cases e) (H.stay b o e), funFrames_at H.frames fun z hz o e => ⟨o, y.ext z o (fun q => f3 (q ▸ hz)) e, rfl⟩, fun z hz => ?_, fun p hp => (H.rep p hp).keep ki fun z hz o e => y.ext z o (fun q => f2 (q ▸ mem_fps hp hz)) e, H.nodup, H.fresh, H.off⟩
  obtain ⟨o, es, ep, h1, h2⟩ := H.fdict z hz
  exact ⟨o, es, ep, y.ext z o (fun q => f3 (q ▸ hz)) h1, h2⟩
theorem OkF.but (O : OkF w b0 c m T s.heap) (y : But it s s') (hi : ∃ o, s.heap.get? it = some o ∧ ¬ Imm o) (f : Free b0 c T it) : OkF w b0 c m T s'.heap := by
  have ki := y.keepI (h := s.heap) hi
  obtain ⟨H, hC, mm, ⟨oL, es, ep, hL, hLd, hr⟩, hl⟩ := O
  refine ⟨⟨fun b o e => y.ext b o (fun q => by rw [q, f.f4] at e; cases e) (H.stay b o e), funFrames_at H.frames fun z hz o e => ⟨o, y.ext z o (fun q => f.f3 (q ▸ hz)) e, rfl⟩, fun z hz => ?_, fun p hp => (H.rep p hp).keep ki fun z hz o e => y.ext z o (fun q => f.f2 (q ▸ mem_fps hp hz)) e, H.nodup, H.fresh, H.off⟩, hC, mm,
    ⟨oL, es, ep, y.ext _ _ (Ne.symm f.f1) hL, hLd, hr⟩, fun p hp => let ⟨v, a, b⟩ := hl p hp; ⟨v, a, b.keepI ki⟩⟩
  obtain ⟨o, es, ep, h1, h2⟩ := H.fdict z hz
  exact ⟨o, es, ep, y.ext z o (fun q => f.f3 (q ▸ hz)) h1, h2⟩
theorem Free.stp (f : Free b0 c T it) (x : Stp (FLs c.fl) (c.C :: fps T) (fps T') s s') (ha : ∃ o, s.heap.get? it = some o) : Free b0 c T' it := by
  refine ⟨f.f1, fun q => ?_, f.f3, f.f4⟩
  obtain ⟨o, e⟩ := ha
  rcases x.new it q with q | q
  · exact (List.mem_cons.mp q).elim f.f1 f.f2
  · rw [e] at q; cases q
theorem Free.fix (f : Free b0 c T it) (x : Stp (FLs c.fl) (c.C :: fps T) (fps T') s s') {o : Obj} (e : s.heap.get? it = some o) : s'.heap.get? it = some o :=
  (x.ext it o e fun q => (List.mem_cons.mp q).elim f.f1 f.f2).1 f.f3
theorem Free.sub (f : Free b0 c T it) (x : Sb T' T) : Free b0 c T' it := ⟨f.f1, fun q => f.f2 (x.fps _ q), f.f3, f.f4⟩
/-- a turn -/
theorem wp_next {e : AV} {g : Option Value → Shared → Prop} {E : Value → Shared → Prop} (O : OkF w b0 c m T s.heap) (f : Free b0 c T it) (x : IterAt s.heap it src i) (hin : src.In T) (he : src.els[i]? = some e)
    (h : ∀ s' v, But it s s' → OkF w b0 c m T s'.heap → RV s'.heap v e → IterAt s'.heap it src (i + 1) → g (some v) s') : wpAny (model pr w) c.A (pyNext (.ref it)) g E s := by
  have hi := x.notImm
  cases src with
  | rng n =>
    have hlt : i < n := by
      have := (List.getElem?_eq_some_iff.mp he).1
      simpa [Src.els] using this
    have ee : e = .int i := by
      have : ((List.range n).map fun (k : Nat) => AV.int (k : Int))[i]? = some e := he
      rw [List.getElem?_map, List.getElem?_range hlt] at this
      exact (Option.some.inj this).symm
    subst ee
    refine wpAny_pyNext_range_item x (by omega) fun h' hit hs => ?_
    have y : But it s { s with heap := h', toks := s.toks + 1 } := ⟨hs.extBut, rfl, rfl, rfl⟩
    refine h { s with heap := h', toks := s.toks + 1 } _ y (O.but y hi f) (.int _ _) ?_
    have e1 : ((i + 1 : Nat) : Int) = (i : Int) + 1 := by omega
    have e2 : (n : Int) - ((i + 1 : Nat) : Int) = (n : Int) - i - 1 := by omega
    show IsRangeIter h' it ((i + 1 : Nat) : Int) ((n : Int) - ((i + 1 : Nat) : Int)) 1
    rw [e2, e1]; exact hit
  | list a xs =>
    obtain ⟨vs, h1, r1⟩ := listAt (O.1.rep _ hin)
    obtain ⟨v, h2, h3⟩ := r1.get he
    refine wpAny_pyNext_list_item x h1 (x := v) (by simpa using h2) fun h' hit hs => ?_
    have y : But it s { s with heap := h' } := ⟨hs.extBut, rfl, rfl, rfl⟩
    exact h { s with heap := h' } v y (O.but y hi f) (h3.keepI (y.keepI (h := s.heap) hi)) hit
  | tup xs =>
    obtain ⟨t, vs, k, h1, h2, h3⟩ := x
    obtain ⟨v, h4, h5⟩ := h2.get he
    have ht : s.heap.IsTuple t vs.toArray := ⟨_, h1, rfl, k, rfl⟩
    refine wpAny_pyNext_tuple_item h3 ht (x := v) (by simpa using h4) fun h' hit hs => ?_
    have y : But it s { s with heap := h' } := ⟨hs.extBut, rfl, rfl, rfl⟩
    have ki := y.keepI (h := s.heap) hi
    exact h { s with heap := h' } v y (O.but y hi f) (h5.keepI ki) ⟨t, vs, k, ki _ _ h1 rfl, h2.keepI ki, hit⟩
theorem wp_over {g : Option Value → Shared → Prop} {E : Value → Shared → Prop} (hh : c.A.handled = none) (O : OkF w b0 c m T s.heap) (f : Free b0 c T it) (x : IterAt s.heap it src i) (hin : src.In T) (he : src.els.length = i)
    (h : ∀ s', But it s s' → OkF w b0 c m T s'.heap → g none s') : wpAny (model pr w) c.A (pyNext (.ref it)) g E s := by
  have hi := x.notImm
  cases src with
  | rng n =>
    have : n = i := by simpa [Src.els] using he
    subst this
    refine wpAny_pyNext_range_end hh x (by omega) fun h' he => ?_
    have y : But it s { s with heap := h' } := ⟨he, rfl, rfl, rfl⟩
    exact h { s with heap := h' } y (O.but y hi f)
  | list a xs =>
    obtain ⟨vs, h1, r1⟩ := listAt (O.1.rep _ hin)
    refine wpAny_pyNext_list_end hh x h1 (by have := r1.length; have he' : xs.length = i := he; simp; omega) fun h' he => ?_
    have y : But it s { s with heap := h' } := ⟨he, rfl, rfl, rfl⟩
    exact h { s with heap := h' } y (O.but y hi f)
  | tup xs =>
    obtain ⟨t, vs, k, h1, h2, h3⟩ := x
    have ht : s.heap.IsTuple t vs.toArray := ⟨_, h1, rfl, k, rfl⟩
    refine wpAny_pyNext_tuple_end hh h3 ht (by have := h2.length; have he' : xs.length = i := he; simp; omega) fun h' he => ?_
    have y : But it s { s with heap := h' } := ⟨he, rfl, rfl, rfl⟩
    exact h { s with heap := h' } y (O.but y hi f)
theorem wp_self {g : Value → Shared → Prop} {E : Value → Shared → Prop} {A : Around} (x : IterAt s.heap it src i) (h : g (.ref it) s) : wpAny (model pr w) A (pyIter (.ref it)) g E s := by
  cases src with
  | rng n => exact wpAny_pyIter_rangeiter x h
  | list a xs => exact wpAny_pyIter_listiter x h
  | tup xs => obtain ⟨t, vs, k, h1, h2, h3⟩ := x; exact wpAny_pyIter_tupleiter h3 h
theorem rangeSize_up (n : Nat) : Builtin.Range.rangeSize 0 n 1 = n := by
  unfold Builtin.Range.rangeSize
  simp only [show (1 : Int) > 0 by decide, if_true, Int.ediv_one]
  split <;> omega
/-- the iterator made -/
theorem wp_iter {v : Value} {a : AV} {g : Value → Shared → Prop} {E : Value → Shared → Prop} (O : OkF w b0 c m T s.heap) (hv : RV s.heap v a) (hs : SR T a src)
    (h : ∀ s', Grow s.heap s'.heap → s'.gens = s.gens → s'.drawn = s.drawn → s'.os = s.os → IterAt s'.heap s.heap.objs.size src 0 → g (.ref s.heap.objs.size) s') : wpAny (model pr w) c.A (pyIter v) g E s := by
  cases hs with
  | @rng n hn =>
    cases hv with
    | rng hr =>
      refine wpAny_pyIter_range hr ?_ (h _ (Grow.push _ _) rfl rfl rfl ?_)
      · exact small_one (by omega) (by omega) (by omega) (by omega)
      · show IsRangeIter _ _ _ _ _
        rw [rangeSize_up]
        simp only [Int.ofNat_eq_natCast, Int.natCast_zero, Int.sub_zero, Int.cast_ofNat_Int]
        exact Heap.get?_push_size _ rfl
  | list hx =>
    cases hv
    obtain ⟨vs, h1, r1⟩ := listAt (O.1.rep _ hx)
    exact wpAny_pyIter_list h1 (h _ (Grow.push _ _) rfl rfl rfl ⟨_, Heap.get?_push_size _ rfl, rfl, rfl⟩)
  | tup =>
    refine hv.tupE fun t vs k h1 h2 => ?_
    have ht : s.heap.IsTuple t vs.toArray := ⟨_, h1, rfl, k, rfl⟩
    have g := Grow.push s.heap { cls := .type "tuple_iterator", data := .fields #[.ref t, .int 0 0] }
    exact wpAny_pyIter_tuple ht (h _ g rfl rfl rfl ⟨t, vs, k, g _ _ h1, h2.keepI g.keepI, ⟨_, Heap.get?_push_size _ rfl, rfl, rfl⟩⟩)
noncomputable abbrev XF : Addr → Loc → Store → Prop := fun _ _ _ => False
theorem exc_false {e : Value} {s s' : Shared} (h : Exc w b0 c s T XF e s') : False := Exc.elim (g := fun _ => False) h fun _ _ _ _ _ _ _ x => x
/-- how a turn of a loop ends -/
noncomputable def LoopQ (K : Loc → Store → Prop) (QF : FA → Loc → Store → Prop) : FA → Loc → Store → Prop
  | .next, m, T => K m T
  | .cont, m, T => K m T
  | .brk, m, T => QF .next m T
  | .ret v, m, T => QF (.ret v) m T
theorem lq {K : Loc → Store → Prop} (h : K m T) : LoopQ K QF .next m T := h
theorem lr {K : Loc → Store → Prop} {v : AV} (h : QF (.ret v) m T) : LoopQ K QF (.ret v) m T := h
section
variable (w : World) (b0 : Heap) (c : Cx)
noncomputable abbrev KFo (QF : FA → Loc → Store → Prop) (x : Str) (body : List Stmt) : AV → Loc → Store → Prop := fun a m₁ T₁ => ∃ (src : Src) (J : Nat → Loc → Store → Prop), SR T₁ a src ∧ J 0 m₁ T₁ ∧ (∀ i m T, J i m T → src.In T) ∧
      (∀ i e m T, src.els[i]? = some e → J i m T → ∃ m₂ T₂, NS c x e m T m₂ T₂ ∧ WB w b0 c body m₂ T₂ (LoopQ (J (i + 1)) QF) XF) ∧ (∀ m T, J src.els.length m T → QF .next m T)
end
theorem s_for {x : Str} {iter : Expr} {body : List Stmt} {px pos : Pos} (hk : c.env.scope.kind = .function) (hh : c.A.handled = none)
    (h : WE w b0 c iter m T (KFo w b0 c QF x body) X)
    (hs : ∀ x, foldedSetIterable iter c.env x = pure x) (ht : ∀ it v, letOwnedTupleGo (.Name x px) it v = pure () := by intro _ _; rfl) : WS w b0 c (.For (.Name x px) iter body [] pos) m T QF X := ⟨fun s O _ => by
  refine wpAny_For (h.then s O trivial fun va a m₁ T₁ s₁ ra O₁ _ x₁ zz => ?_) hs
  obtain ⟨src, J, hsr, j0, hin, hstep, hend⟩ := zz
  refine wp_iter O₁ ra hsr fun s₂ g1 e1 e2 e3 hit => ?_
  have hnone : s₁.heap.get? s₁.heap.objs.size = none := noneAt _ (Nat.le_refl _)
  obtain ⟨n1, n2, n3⟩ := O₁.1.newAt hnone
  obtain ⟨oC, _, _, hC, _⟩ := O₁.Cat
  have nC : s₁.heap.objs.size ≠ c.C := fun q => by rw [q] at hnone; rw [hnone] at hC; cases hC
  refine codeAny_forLoop (R := fun r s' => match r with | .ok f => Res w b0 c RFl s T QF f s' | .error e => cameBackBy (model pr w) c.A c.env (Exc w b0 c s T X) e s')
    (fun k s' => ∃ i m' T', k = src.els.length + 1 - i ∧ i ≤ src.els.length ∧ OkF w b0 c m' T' s'.heap ∧ Free b0 c T' s₁.heap.objs.size ∧ Stp (FLs c.fl) (c.C :: fps T₁) (fps T') s₁ s' ∧ IterAt s'.heap s₁.heap.objs.size src i ∧ J i m' T') ?_ (src.els.length + 1)
    ⟨0, m₁, T₁, rfl, Nat.zero_le _, O₁.grow g1, ⟨nC, n3, n2, n1⟩, stp_same g1 e1 e2 e3, hit, j0⟩ (ht _)
  rintro k s' ⟨i, m', T', rfl, hi, O', f', st', hit', hJ⟩
  cases he : src.els[i]? with
  | none =>
    have hi' : src.els.length = i := by have := List.getElem?_eq_none_iff.mp he; omega
    refine wp_over hh O' f' hit' (hin _ _ _ hJ) hi' fun s'' y O'' => wpAny_execs_nil ?_
    exact ⟨.next, m', T', .next, O'', x₁.more (st'.but y hnone), hend _ _ (hi' ▸ hJ)⟩
  | some e =>
    have hlt := (List.getElem?_eq_some_iff.mp he).1
    refine wp_next O' f' hit' (hin _ _ _ hJ) he fun s'' v y O'' rv hit'' => ?_
    obtain ⟨m₂, T₂, hN, hB⟩ := hstep i e m' T' he hJ
    refine wpAny_assign_Name (wp_bind O'' rv hN hk fun s₃ O₃ st₃ ki₃ => ?_)
    have hal : ∃ o, s''.heap.get? s₁.heap.objs.size = some o := let ⟨o, a, _⟩ := hit''.notImm; ⟨o, a⟩
    have f₃ := f'.stp st₃ hal
    have hit₃ : IterAt s₃.heap s₁.heap.objs.size src (i + 1) := hit''.keep (fun o e => f'.fix st₃ e) ki₃
    refine wpAny_mono (hB.run s₃ O₃ trivial) (fun fl s₄ zz => ?_) fun _ _ e => (exc_false e).elim
    refine Res.elim zz fun b m₄ T₄ r1 O₄ st₄ q => ?_
    have hal₃ : ∃ o, s₃.heap.get? s₁.heap.objs.size = some o := let ⟨o, a, _⟩ := hit₃.notImm; ⟨o, a⟩
    have st : Stp (FLs c.fl) (c.C :: fps T₁) (fps T₄) s₁ s₄ := ((st'.but y hnone).more st₃).more st₄
    have nx : J (i + 1) m₄ T₄ → ∃ k, k < src.els.length + 1 - i ∧ ∃ i' m' T', k = src.els.length + 1 - i' ∧ i' ≤ src.els.length ∧ OkF w b0 c m' T' s₄.heap ∧ Free b0 c T' s₁.heap.objs.size ∧ Stp (FLs c.fl) (c.C :: fps T₁) (fps T') s₁ s₄ ∧ IterAt s₄.heap s₁.heap.objs.size src i' ∧ J i' m' T' := fun q =>
      ⟨src.els.length + 1 - (i + 1), by omega, i + 1, m₄, T₄, rfl, hlt, O₄, f₃.stp st₄ hal₃, st, hit₃.keep (fun o e => f₃.fix st₄ e) (O₃.keepI st₄.ext), q⟩
    cases r1 with
    | next => exact nx q
    | cont => exact nx q
    | brk => exact ⟨.next, m₄, T₄, .next, O₄, x₁.more st, q⟩
    | ret r => exact ⟨_, m₄, T₄, .ret r, O₄, x₁.more st, q⟩⟩
theorem k_range {n : Nat} (h : Q (.rng n) m T) : CallQ w b0 c (.raw (.type "range")) [.int n] m T Q X := fun vf vs => ⟨fun s O ⟨r, rs⟩ => by
  refine r.E ?_; intro _
  refine rs.oneE fun v r => ?_
  cases r with
  | int _ tn =>
  refine call_range_1 ?_
  have g := Grow.push s.heap { cls := .type "range", data := .fields #[.int 0 s.toks, .int n tn, .int 1 (s.toks + 1)] }
  exact res_grow (tk := s.toks + 1 + 1) O g (.rng (IsRange.new ..)) h⟩
/-- a block that makes a list -/
theorem e_comp {elt iter : Expr} {x : Str} {px pos : Pos} {scope : Scope} {cl : List (Str × Addr)} (hi : c.inn = none) (hh : c.A.handled = none) (hcl : closureFor scope c.env = pure cl)
    (hsc : (scope.names.all (fun y => !(y.2 == .cell)) && scope.kind == .function && scope.names.all (fun y => !(y.2 == .local) || scope.names.lookup y.1 == some .local)) = true) (hx : scope.names.lookup x = some .local)
    (h : WE w b0 c iter m T (fun a m₁ T₁ => ∃ (src : Src) (J : Nat → List AV → Store → Prop), SR T₁ a src ∧ J 0 [] T₁ ∧ (∀ i ys T, J i ys T → src.In T) ∧ src.els.length ≤ 1000000 ∧
      (∀ i e ys T D C, src.els[i]? = some e → J i ys T → ys.length = i → WE w b0 { c with inn := some (relabel scope c.env, C, cl) } elt [(x, e)] ((D, .list ys) :: T) (fun a _ T' => ∃ T₂, Sb ((D, .list ys) :: T₂) T' ∧ J (i + 1) (ys ++ [a]) T₂) XF) ∧
      (∀ ys T D, J src.els.length ys T → ys.length = src.els.length → Q (rf D) m₁ ((D, .list ys) :: T))) X)
    (hs : ∀ x, foldedSetIterable iter c.env x = pure x) : WE w b0 c (.ListComp elt [⟨.Name x px, iter, [], 0⟩] scope pos) m T Q X := ⟨fun s O _ => by
  simp only [Bool.and_eq_true, beq_iff_eq] at hsc
  obtain ⟨⟨hcell, hkind⟩, hnames⟩ := hsc
  have hcell' : ∀ y ∈ scope.names, y.2 ≠ .cell := fun y hy => by have := List.all_eq_true.mp hcell y hy; simpa using this
  have hnames' : ∀ y ∈ scope.names, y.2 = .local → scope.names.lookup y.1 = some .local := fun y hy hl => by have := List.all_eq_true.mp hnames y hy; simpa [hl] using this
  have henv : c.env = c.fenv := by unfold Cx.env; rw [hi]
  rw [eval_ListComp]
  refine wpAny_comprehension_free (use := none) rfl hs hcl hkind hnames' (h.then s O trivial fun va a m₁ T₁ s₁ ra O₁ _ x₁ zz => ?_)
  obtain ⟨src, J, hsr, j0, hin, hlen, hstep, hend⟩ := zz
  refine wp_iter O₁ ra hsr fun s₂ g1 e1 e2 e3 hit => ?_
  have hnone : s₁.heap.get? s₁.heap.objs.size = none := noneAt _ (Nat.le_refl _)
  refine wpAny_newObj_type (wpAny_newFunctionEnv hcell' (by intro y hy; simp at hy) (fun h₁ hns₁ hsb₁ => ?_) hkind)
  dsimp only at hns₁ hsb₁ ⊢
  generalize hH2 : s₂.heap.push { cls := .type "list", dict := none, data := .seq ([] : List Value).toArray } = H2 at hns₁ hsb₁ ⊢
  have hC : H2.objs.size = s₂.heap.objs.size + 1 := by rw [← hH2, Heap.size_push]
  have hle : s₁.heap.objs.size < s₂.heap.objs.size := let ⟨o, e, _⟩ := hit.notImm; Heap.lt_size e
  have hC2 : s₂.heap.objs.size < H2.objs.size := by rw [hC]; exact Nat.lt_succ_self _
  have hC1 : s₁.heap.objs.size < H2.objs.size := Nat.lt_trans hle hC2
  have old2 : Grow s₂.heap h₁ := fun b o e => hsb₁.extBut b o (Nat.ne_of_lt (Nat.lt_trans (Heap.lt_size e) hC2)) (Heap.get?_push_of_some _ (hH2 ▸ Heap.get?_push_of_some _ e))
  have old : Grow s₁.heap h₁ := g1.trans old2
  have hacc : h₁.get? s₂.heap.objs.size = some (listOf ([] : List Value).toArray 0) := hsb₁.extBut _ _ (Nat.ne_of_lt hC2) (Heap.get?_push_of_some _ (hH2 ▸ Heap.get?_push_size _ rfl))
  have none1 : ∀ b, s₁.heap.objs.size ≤ b → s₁.heap.get? b = none := fun b hb => noneAt _ hb
  obtain ⟨oC, _, _, hCC, _⟩ := O₁.Cat
  have ltC : c.C < s₁.heap.objs.size := Heap.lt_size hCC
  have hO1 : OkF w b0 c m₁ ((s₂.heap.objs.size, .list []) :: T₁) h₁ := (O₁.grow old).add ⟨[], 0, hacc, .nil⟩ (by simp [fp]) (fun y hy => by rw [List.mem_singleton.mp hy]; exact O₁.1.newAt (none1 _ (Nat.le_of_lt hle))) (fun q => absurd (List.mem_singleton.mp q) (Nat.ne_of_lt (Nat.lt_trans ltC hle)))
  let cc : Cx := { c with inn := some (relabel scope c.env, H2.objs.size, cl) }
  have hcc : compEnvC scope cl H2.objs.size c.env = cc.env := by
    show _ = compEnvC (relabel scope c.env) cl H2.objs.size cc.fenv
    rw [henv]
    show compEnvC scope cl H2.objs.size c.fenv = compEnvC (relabel scope c.fenv) cl H2.objs.size c.fenv
    unfold compEnvC
    congr 1
    unfold relabel
    simp only [Scope.mk.injEq, List.map_map, true_and, and_true]
    congr 1
    funext y
    obtain ⟨n, k⟩ := y
    simp only [Function.comp]
    split
    · rfl
    · rfl
  have hCC : cc.C = H2.objs.size := rfl
  have newC := O₁.1.newAt (none1 H2.objs.size (Nat.le_of_lt hC1))
  have ccO : OkF w b0 cc [] ((s₂.heap.objs.size, .list []) :: T₁) h₁ := by
    refine ⟨hO1.1, ⟨fun q => ?_, newC.1⟩, _, hns₁, fun p hp => nomatch hp⟩
    rw [fps_cons] at q
    rcases List.mem_append.mp q with q | q
    · have e1 : cc.C = s₂.heap.objs.size := List.mem_singleton.mp q
      rw [hCC] at e1
      exact absurd e1 (Nat.ne_of_gt hC2)
    · exact newC.2.2 (hCC ▸ q)
  have newI := O₁.1.newAt hnone
  have ccF : Free b0 cc ((s₂.heap.objs.size, .list []) :: T₁) s₁.heap.objs.size := by
    refine ⟨by rw [hCC]; exact Nat.ne_of_lt hC1, fun q => ?_, newI.2.1, newI.1⟩
    rw [fps_cons] at q
    rcases List.mem_append.mp q with q | q
    · exact absurd (List.mem_singleton.mp q) (Nat.ne_of_lt hle)
    · exact newI.2.2 q
  have hkx : cc.env.kindOf x = some .local := by
    rw [← hcc]
    exact lookup_relabel_local hx
  have hkk : cc.env.scope.kind = .function := by rw [← hcc]; exact hkind
  have hit₁ : IterAt h₁ s₁.heap.objs.size src 0 := hit.keep (fun o e => old2 _ _ e) old2.keepI
  have loop : ∀ s₃ : Shared, s₃ = { s₂ with heap := h₁, toks := s₂.toks + ([] : List (Str × Value)).length } →
      codeAny (model pr w) c.A (.compLoop (.ListComp elt [⟨.Name x px, iter, [], 0⟩] scope pos) 0 (.ref s₁.heap.objs.size) (.ref s₂.heap.objs.size) cc.env) (compPost (model pr w) c.A (Exc w b0 c s T X) none (Res w b0 c RV s T Q) (.ref s₂.heap.objs.size) H2.objs.size) s₃ := by
    rintro s₃ rfl
    refine codeAny_compLoop_list
      (fun k s' => ∃ i ys m' T', k = src.els.length + 1 - i ∧ i ≤ src.els.length ∧ ys.length = i ∧ OkF w b0 cc m' ((s₂.heap.objs.size, .list ys) :: T') s'.heap ∧ Free b0 cc ((s₂.heap.objs.size, .list ys) :: T') s₁.heap.objs.size ∧
        Stp (FLs c.fl) (fps T₁) (fps ((s₂.heap.objs.size, .list ys) :: T')) s₁ s' ∧ IterAt s'.heap s₁.heap.objs.size src i ∧ J i ys T') ?_ (src.els.length + 1)
      ⟨0, [], [], T₁, rfl, Nat.zero_le _, rfl, ccO, ccF, stp_grow old (fun y hy => by
        rw [fps_cons] at hy
        exact (List.mem_append.mp hy).elim (fun q => .inr (by rw [List.mem_singleton.mp q]; exact none1 _ (Nat.le_of_lt hle))) .inl) e1 e2 e3, hit₁, j0⟩ (by intro _; rfl)
    rintro k s' ⟨i, ys, m', T', rfl, hi', hys, O', f', st', hit', hJ⟩
    have hin' : src.In ((s₂.heap.objs.size, .list ys) :: T') := by
      have := hin _ _ _ hJ
      cases src with
      | list => exact .tail _ this
      | _ => trivial
    cases he : src.els[i]? with
    | none =>
      have hi2 : src.els.length = i := by have := List.getElem?_eq_none_iff.mp he; omega
      refine wp_over (c := cc) hh O' f' hit' hin' hi2 fun s'' y O'' => ?_
      obtain ⟨mm, hn'⟩ : ∃ mm, s''.heap.Ns H2.objs.size mm := let ⟨mm, a, _⟩ := O''.2.2; ⟨mm, a⟩
      refine ⟨mm, hn', fun h' hs' => ?_⟩
      have st'' := st'.but y hnone
      have hal : ∃ o, s''.heap.get? H2.objs.size = some o ∧ ¬ Imm o := by
        obtain ⟨o, es, ep, a1, a2⟩ := O''.Cat
        exact ⟨o, a1, by unfold Imm; rw [a2]; exact fun e => e⟩
      have y2 : But H2.objs.size s'' { s'' with heap := h' } := ⟨hs'.extBut, rfl, rfl, rfl⟩
      have H2 := O''.1.but y2 hal O''.2.1.1 newC.2.1 newC.1
      have st3 : Stp (FLs c.fl) (fps T₁) (fps ((s₂.heap.objs.size, .list ys) :: T')) s₁ { s'' with heap := h' } := st''.but y2 (none1 _ (Nat.le_of_lt hC1))
      exact ⟨rf s₂.heap.objs.size, m₁, _, .raw _, O₁.afterCall (s' := { s'' with heap := h' }) H2 st3, x₁.more (st3.weak fun a ha => .tail _ ha), hend _ _ _ (hi2 ▸ hJ) (by omega)⟩
    | some e =>
      have hlt := (List.getElem?_eq_some_iff.mp he).1
      refine wp_next (c := cc) O' f' hit' hin' he fun s'' v y O'' rv hit'' => ?_
      refine wpAny_assign_Name (wp_bind (c := cc) (m := []) (O''.sub (.refl _) fun _ h => nomatch h) rv (.loc hkx .nil) hkk fun s₃ O₃ st₃ ki₃ => ?_)
      have hal : ∃ o, s''.heap.get? s₁.heap.objs.size = some o := let ⟨o, a, _⟩ := hit''.notImm; ⟨o, a⟩
      have f₃ := f'.stp st₃ hal
      have hit₃ : IterAt s₃.heap s₁.heap.objs.size src (i + 1) := hit''.keep (fun o e => f'.fix st₃ e) ki₃
      have hE := hstep i e ys T' s₂.heap.objs.size H2.objs.size he hJ hys
      refine wpAny_mono (hE.run s₃ O₃ trivial) (fun vx s₄ zz => ?_) fun _ _ e => (exc_false e).elim
      refine Res.elim zz fun a m₄ T₄ rx O₄ st₄ q => ?_
      obtain ⟨T₅, hsb, q⟩ := q
      have O₅ : OkF w b0 cc m₄ ((s₂.heap.objs.size, .list ys) :: T₅) s₄.heap := O₄.sub hsb fun _ h => h
      have st₅ := st₄.sub hsb
      have hal₃ : ∃ o, s₃.heap.get? s₁.heap.objs.size = some o := let ⟨o, a, _⟩ := hit₃.notImm; ⟨o, a⟩
      have f₅ := f₃.stp st₅ hal₃
      have hit₅ : IterAt s₄.heap s₁.heap.objs.size src (i + 1) := hit₃.keep (fun o e => f₃.fix st₅ e) (O₃.keepI st₄.ext)
      obtain ⟨us, un, u1, u2⟩ := O₅.1.rep _ (.head _)
      refine PyProof.Rows.append_at u1 (fun h' hs' u3 => ?_) (by rw [List.size_toArray, u2.length, sizeLine_eq]; omega)
      have U : TU s₂.heap.objs.size (.list ys) (.list (ys ++ [a])) ((s₂.heap.objs.size, .list ys) :: T₅) ((s₂.heap.objs.size, .list (ys ++ [a])) :: T₅) := .head
      have k1 := turn1 (o := .list ys) (o' := .list ys) hs'
      have ki := keepI_turn (O₅.1.rep _ U.mem) k1
      have rr : RO w h' s₂.heap.objs.size (.list (ys ++ [a])) := ⟨us ++ [vx], un + 1, by rw [u3]; simp, (u2.keepI ki).append (.cons (rx.keepI ki) .nil)⟩
      have O₆ := O₅.turn U k1 rr rfl
      have st₆ : Stp (FLs cc.fl) (cc.C :: _) _ s₄ { s₄ with heap := h' } := stp_turn (s' := { s₄ with heap := h' }) O₅ U k1 rr rfl
      have hal₅ : ∃ o, s₄.heap.get? s₁.heap.objs.size = some o := let ⟨o, a, _⟩ := hit₅.notImm; ⟨o, a⟩
      have cn : ∀ {T₀ : Store} {Z : List Addr} {s₀ : Shared}, ∀ a ∈ cc.C :: fps T₀, a ∈ Z ∨ a ∈ fps T₀ ∨ s₁.heap.get? a = none := fun {T₀ Z s₀} a ha => by
        rcases List.mem_cons.mp ha with rfl | ha
        · exact .inr (.inr (none1 _ (by rw [hCC]; exact Nat.le_of_lt hC1)))
        · exact .inr (.inl ha)
      have z1 := (st'.but y hnone).trans3 st₃ (cn (s₀ := s₁))
      have z2 := z1.trans3 st₅ (cn (s₀ := s₁))
      have z3 := z2.trans3 st₆ (cn (s₀ := s₁))
      refine ⟨src.els.length + 1 - (i + 1), by omega, i + 1, ys ++ [a], m₄, T₅, rfl, hlt, by simp [hys], O₆, f₅.stp st₆ hal₅, z3, hit₅.keep (fun o e => f₅.fix st₆ e) ki, q⟩
  have hl := loop _ rfl
  rw [← hcc] at hl
  exact codeAny_compStart_list hl (wp_self hit₁ hl)⟩
end
end
section
section
variable {w : World} {b0 : Heap} {c : Cx} {m m₁ m' : Loc} {T T' T₁ T₂ : Store} {s s₀ s₁ s₂ s' : Shared} {Q : AV → Loc → Store → Prop} {QF : FA → Loc → Store → Prop} {X : Addr → Loc → Store → Prop} {i : Nat}
/-- an exception that a part of one's own lets out -/
theorem exc_back {e : Value} (hi : c.inn = none) (hfr : c.A.frames = some (c.fenv :: c.outer)) (O : OkF w b0 c m T s.heap) (h : Exc w b0 c s T X e s') :
    notedBy (model pr w) c.A c.env (fun e s'' => cameBackBy (model pr w) c.A c.env (Exc w b0 c s T X) e s'') e s' := by
  refine Exc.elim h fun ea C m' T' x O' st q => ?_
  have he : c.env = c.fenv := by unfold Cx.env; rw [hi]
  rw [he]
  unfold notedBy
  refine wp_note (c := c) (pre := s.heap) hfr O'.1.frames O'.1.fdict (fun b o e => st.alive b o e) O.1.stay x fun h' n t => ?_
  obtain ⟨e1, n1, n2⟩ := n
  have O1 := O'.exc n2
  have st1 : Stp (FLs c.fl) (c.C :: fps T) (fps T') s { s' with heap := h' } := st.exc n2 n1
  refine t.elim fun oe vs Tb oT ts a1 _ a3 _ a5 _ _ _ _ _ _ => ?_
  unfold cameBackBy
  refine wpAny_bind (wpAny_field a1 a3 a5 ?_)
  rw [if_neg (by simp)]
  refine wp_flight (c := c) (fo := c.fenv.frame) O.1.stay t fun h'' n' t' => ?_
  obtain ⟨e2, n3, n4⟩ := n'
  exact ⟨ea, C, m', T', rfl, t'.obj, O1.exc n4, Stp.exc (s' := { s' with heap := h'' }) st1 n4 n3, q⟩
section
variable (w : World) (b0 : Heap) (c : Cx) (X : Addr → Loc → Store → Prop)
noncomputable abbrev KWj (J : Nat → Loc → Store → Prop) (n : Nat) : Loc → Store → Prop := fun m T => ∃ k, k < n ∧ J k m T
noncomputable abbrev KWh (QF : FA → Loc → Store → Prop) (J : Nat → Loc → Store → Prop) (body : List Stmt) (n : Nat) : Bool → Loc → Store → Prop := fun b m T => (b = true → WB w b0 c body m T (LoopQ (KWj J n) QF) X) ∧ (b = false → QF .next m T)
end
theorem s_while {test : Expr} {body : List Stmt} {pos : Pos} (hi : c.inn = none) (hfr : c.A.frames = some (c.fenv :: c.outer)) (J : Nat → Loc → Store → Prop) (n : Nat) (j0 : J n m T)
    (h : ∀ n m T, J n m T → WT w b0 c test m T (KWh w b0 c X QF J body n) X) : WS w b0 c (.While test body [] pos) m T QF X := ⟨fun s O _ => by
  refine wpAny_While ?_
  refine codeAny_whileLoop (R := fun r s' => match r with | .ok f => Res w b0 c RFl s T QF f s' | .error e => cameBackBy (model pr w) c.A c.env (Exc w b0 c s T X) e s')
    (fun k s' => ∃ m' T', OkF w b0 c m' T' s'.heap ∧ Stp (FLs c.fl) (c.C :: fps T) (fps T') s s' ∧ J k m' T') ?_ n ⟨m, T, O, .refl fun a ha => .tail _ ha, j0⟩
  rintro k s₁ ⟨m₁, T₁, O₁, st₁, jk⟩
  refine wpAny_mono ((h k m₁ T₁ jk).run s₁ O₁ trivial) (fun b s₂ zz => ?_) fun e s₂ z => exc_back hi hfr O (z.back st₁)
  refine Res.elim zz fun d m₂ T₂ r O₂ st₂ q => ?_
  obtain rfl : b = d := r
  cases b with
  | false =>
    simp only [Bool.false_eq_true, if_false]
    exact wpAny_execs_nil ⟨.next, m₂, T₂, .next, O₂, st₁.more st₂, q.2 rfl⟩
  | true =>
    simp only [if_true]
    refine wpAny_mono ((q.1 rfl).run s₂ O₂ trivial) (fun f s₃ zz => ?_) fun e s₃ z => exc_back hi hfr O ((z.back st₂).back st₁)
    refine Res.elim zz fun fa m₃ T₃ rf O₃ st₃ q => ?_
    have st : Stp (FLs c.fl) (c.C :: fps T) (fps T₃) s s₃ := (st₁.more st₂).more st₃
    cases rf with
    | next => obtain ⟨k', hk, hj⟩ := q; exact ⟨k', hk, m₃, T₃, O₃, st, hj⟩
    | cont => obtain ⟨k', hk, hj⟩ := q; exact ⟨k', hk, m₃, T₃, O₃, st, hj⟩
    | brk => exact ⟨.next, m₃, T₃, .next, O₃, st, q⟩
    | ret r => exact ⟨_, m₃, T₃, .ret r, O₃, st, q⟩⟩
end
end
section
section
variable {w : World} {b0 : Heap} {c : Cx} {m m₁ m' : Loc} {T T' T₁ T₂ : Store} {s s₀ s₁ s₂ s' : Shared} {Q : AV → Loc → Store → Prop} {QF : FA → Loc → Store → Prop} {X : Addr → Loc → Store → Prop} {i : Nat}
theorem OkH.push {fl : List Env} {h : Heap} {a : Addr} {o : AO} (O : OkH w b0 fl T h) {h' : Heap} (g : Grow h h') (r : RO w h' a o) (nd : (fp (a, o)).Nodup) (f : ∀ x ∈ fp (a, o), h.get? x = none) : OkH w b0 fl ((a, o) :: T) h' :=
  (O.grow g).add r nd fun x hx => O.newAt (f x hx)
theorem k_make {n n' : Nat} {hn : Bool} {fI C : Addr} {xs : List AV} (G : Gd w b0) (hm : makesIn (hd.heap_39 w.params) C = true) (hi : findIn (hd.heap_39 w.params) (.ref C) "__init__" = some (some (.ref fI))) (hf : typeIn (hd.heap_39 w.params) (.ref fI) = some (.type "function"))
    (h : ∀ x d, WC w b0 n hn (rf fI) (rf x :: xs) ((x, .inst C d []) :: T) (fun r T' => r = .none ∧ Q (rf x) m T') (fun C T' => X C m T')) (hc : c.Ok n') (hle : n + 1 ≤ n') (hh : hn = true → c.A.handled = none) : CallQ w b0 c (rf C) xs m T Q X := fun vf vs => ⟨fun s O ⟨r, rs⟩ => by
  refine r.E ?_; intro _
  have KI := G.K.keeps O.1.stay
  have main : codeAny (model pr w) c.A (.call (.ref C) ⟨vs, []⟩) (EndC w b0 c.fl s T (fun r T' => Q r m T') (fun C T' => X C m T')) s := by
    obtain ⟨hp, gg, dr, tk, os⟩ := s
    refine make_core (makes_of KI hm) (looks_findIn KI hi) (fun self => bind_fn KI self hf) (.inl rfl) ?_
    have g : Grow hp ((hp.push emptyDict).push (instObj C hp.objs.size)) := (Grow.push _ _).trans (Grow.push _ _)
    have hx : ((hp.push emptyDict).push (instObj C hp.objs.size)).get? (hp.objs.size + 1) = some (instObj C hp.objs.size) := by
      have := Heap.get?_push_size (hp.push emptyDict) (o := instObj C hp.objs.size) rfl
      rwa [Heap.size_push] at this
    have hdd : ((hp.push emptyDict).push (instObj C hp.objs.size)).get? hp.objs.size = some emptyDict := Heap.get?_push_of_some _ (Heap.get?_push_size _ rfl)
    have fr : ∀ z ∈ fp (hp.objs.size + 1, .inst C hp.objs.size []), hp.get? z = none := fun z hz => by
      simp only [fp, List.mem_cons, List.not_mem_nil, or_false] at hz
      rcases hz with rfl | rfl
      · exact noneAt _ (Nat.le_succ _)
      · exact noneAt _ (Nat.le_refl _)
    have O1 : OkH w b0 c.fl ((hp.objs.size + 1, .inst C hp.objs.size []) :: T) ((hp.push emptyDict).push (instObj C hp.objs.size)) := O.1.push g ⟨#[], [], 0, hx, hdd, trivial⟩ (by simp [fp]) fr
    have hrun := (h (hp.objs.size + 1) hp.objs.size).run (c.A.under (.builtin "type.__call__" ⟨.ref C :: vs, []⟩)) c.fl ⟨(hp.push emptyDict).push (instObj C hp.objs.size), gg, dr, tk, os⟩ (.ref fI) (.ref (hp.objs.size + 1) :: vs) hc.frames (fun q => hh q)
      ⟨by have := hc.depth; show c.A.depth + 1 + n < _; omega, by have := hc.units; show c.A.units + 1 + 16 * n + 100 < _; omega⟩ O1 (.raw _) (.cons (.raw _) (rs.keepI g.keepI))
    have st0 : Stp (FLs c.fl) (fps T) (fps ((hp.objs.size + 1, .inst C hp.objs.size []) :: T)) ⟨hp, gg, dr, tk, os⟩ ⟨(hp.push emptyDict).push (instObj C hp.objs.size), gg, dr, tk, os⟩ := stp_grow g fun z hz => by
      rw [fps_cons] at hz
      exact (List.mem_append.mp hz).elim (fun q => .inr (fr z q)) .inl
    refine codeAny_mono hrun fun r s' z => ?_
    refine EndC.elim z (fun ea C' T' h2 h3 h4 h5 => ?_) fun v r T' h1 h2 h3 h4 => ?_
    · exact ⟨ea, C', T', rfl, h2.back st0, h3, st0.trans h4 fun a ha => .inr ha, h5⟩
    · obtain ⟨rfl, h4⟩ := h4
      cases h1
      exact ⟨rfl, rf (hp.objs.size + 1), T', .raw _, h2, st0.trans h3 fun a ha => .inr ha, h4⟩
  refine wpAny_call (codeAny_mono main fun r s' z => ?_)
  refine EndC.elim z (fun ea C T' h2 h3 h4 h5 => ?_) fun v r T' h1 h2 h3 h4 => ?_
  · exact ⟨ea, C, m, T', rfl, h2, O.afterCall h3 h4, h4.weak fun a ha => .tail _ ha, h5⟩
  · skip
    exact ⟨r, m, T', h1, O.afterCall h2 h3, h3.weak fun a ha => .tail _ ha, h4⟩⟩
end
end
section
open Builtin Builtin.ObjectAttr
section
variable {w : World} {A : Around} {K : Frag} {E : Value → Shared → Prop} {h : Heap} {g : Array GenState} {d : Drawn} {t : Nat} {os : OsState} {x C : Addr} {name : Str} {v : Value} {mA : Str → Option Value} {cd : ClassData} {ns : List Str}
/-- a field of an exception set -/
theorem set_exc {Q : Unit → Shared → Prop} (KI : K.In h) (hC : clsIn K C = some cd) (hpass : refuseLoop (.ref x) "__setattr__" cd.mro = pure ()) (hobj : mroIn K C (.type "object") = some true) (hdict : cd.hasDict = true)
    (hs : findIn K (.ref C) "__setattr__" = some (some (.builtin "object.__setattr__"))) (ht : findIn K (.ref C) name = some none) (I : h.Inst x C mA) (hw : PySem.Within mA ns) (hz : ns.length ≤ 100)
    (hq : ∀ h' tk', h'.Inst x C (fun y => if y = name then some v else mA y) → (∀ b o, b ≠ x → (∀ o₀ dx, h.get? x = some o₀ → o₀.dict = some dx → b ≠ dx) → h.get? b = some o → h'.get? b = some o) →
      (∀ o₀, h.get? x = some o₀ → ∃ o₁, h'.get? x = some o₁ ∧ o₁.cls = o₀.cls ∧ o₁.data = o₀.data ∧ o₁.slots = o₀.slots ∧ (∀ dx, o₀.dict = some dx → o₁.dict = some dx) ∧ ∀ dx, o₁.dict = some dx → o₀.dict = some dx ∨ h.get? dx = none) → Q () ⟨h', g, d, tk', os⟩) :
    wpAny (model pr w) A (setAttr (.ref x) name v) Q E ⟨h, g, d, t, os⟩ := by
  have SF := PySem.F.store_object
  obtain ⟨o, hx, hc, hnc, hd⟩ := id I
  have LT : Looks (model pr w) h (typeOf (.ref x)) (.ref C) := (Looks.ld hx).andThen (by rw [hc]; exact .now)
  have main : ∀ (R : Result → Shared → Prop) tk₀, (∀ h' tk', h'.Inst x C (fun y => if y = name then some v else mA y) → (∀ b o, b ≠ x → (∀ o₀ dx, h.get? x = some o₀ → o₀.dict = some dx → b ≠ dx) → h.get? b = some o → h'.get? b = some o) →
      (∀ o₀, h.get? x = some o₀ → ∃ o₁, h'.get? x = some o₁ ∧ o₁.cls = o₀.cls ∧ o₁.data = o₀.data ∧ o₁.slots = o₀.slots ∧ (∀ dx, o₀.dict = some dx → o₁.dict = some dx) ∧ ∀ dx, o₁.dict = some dx → o₀.dict = some dx ∨ h.get? dx = none) → R (.ok (.ret .none)) ⟨h', g, d, tk', os⟩) →
      codeAny (model pr w) A (.call (.builtin "object.__setattr__") ⟨[.ref x, .str name t, v], []⟩) R ⟨h, g, d, tk₀, os⟩ := by
    intro R tk₀ hR
    have sub : Looks (model pr w) h (isInstance (.ref x) (.type "object")) true := LT.andThen (looks_mroIn KI hobj)
    refine codeAny_call_builtin SF.slot.plain SF.entry (@check_slot (model pr w) _ _ ⟨h, g, d, tk₀, os⟩ "object.__setattr__" "object" "__setattr__" (.ref x) [.str name t, v] [] _ SF.kind SF.split sub (SF.args (.ref x) (.str name t) v) ?_)
    have hm : Looks (model pr w) h (mroOf (.ref C)) cd.mro := (looks_clsIn KI hC).andThen .now
    rw [osa_eq, refuse_eq]
    refine wpAny_bind (wpAny_bind (LT.here (wpAny_bind (hm.here ?_))))
    rw [hpass]
    refine wpAny_pure (wpAny_bind (LT.here (wpAny_bind ((looks_findIn KI ht).here (wpAny_bind ?_)))))
    refine wpAny_pure (a := (none : Option Value)) ?_
    dsimp only
    refine wpAny_bind (wpAny_pure (wpAny_bind ?_))
    obtain ⟨oc, od, odt, osl⟩ := o
    dsimp only at hc hd hnc
    subst hc
    refine wpAny_bind (wpAny_loadPart hx (wpAny_bind ((looks_clsIn KI hC).here ?_)))
    rw [hdict]
    dsimp only
    rcases hd with ⟨hdn, hmA⟩ | ⟨dx, hdx, hne, hns⟩
    · subst hdn
      have hx₁ : (h.push { cls := .type "dict", data := .dict #[] }).get? x = some ⟨.ref C, none, odt, osl⟩ := Heap.get?_push_of_some _ hx
      have hxs : x ≠ h.objs.size := Nat.ne_of_lt (Heap.lt_size hx)
      rw [if_neg (by simp)]
      dsimp only
      rw [if_neg (by simp [typeHasDict])]
      split
      · rename_i c
        exact absurd rfl (hnc c)
      · refine wpAny_bind (wpAny_alloc' ?_)
        refine wpAny_bind (wpAny_update' hx₁ ?_)
        refine wpAny_pure ?_
        have hgd : ((h.push { cls := .type "dict", data := .dict #[] }).update x fun o => { cls := o.cls, dict := some h.objs.size, data := o.data, slots := o.slots }).get? h.objs.size
            = some { cls := .type "dict", data := .dict #[] } :=
          (Heap.get?_update_ne _ _ _ _ hxs.symm).trans (Heap.get?_push_at rfl rfl)
        have hnd : ((h.push { cls := .type "dict", data := .dict #[] }).update x fun o => { cls := o.cls, dict := some h.objs.size, data := o.data, slots := o.slots }).Ns h.objs.size (fun _ => none) :=
          ⟨_, #[], _, hgd, rfl, fun e he => absurd he (by simp), fun _ => rfl⟩
        show wpAny _ _ (storeInDict h.objs.size (.str name t) name v) _ _ _
        unfold storeInDict newKeyGuard
        refine wpAny_bind (wpAny_pure (wpAny_bind (wpAny_nsSet1 (Heap.Ns1.of_empty hnd) fun h' hn' hs => ?_)))
        obtain ⟨oD, esD, epD, hoD, hdD, hcD⟩ := hn'.count (PySem.Within.cons name v PySem.Within.nil)
        refine wpAny_bind (wpAny_lookBehind hoD (by rw [hdD]; exact pastItsLine_dict (Nat.le_trans hcD (by rw [List.length_cons, List.length_nil, sizeLine_eq]; omega))) ?_)
        have hx' : h'.get? x = some ⟨.ref C, some h.objs.size, odt, osl⟩ := by
          refine (hs.2 x hxs).trans (Heap.get?_update_self _ hx₁ ?_)
          have hfr := (Heap.get?_some_iff.mp hx).2
          cases odt <;> first | rfl | exact hfr
        refine wpAny_pure (hR h' _ ⟨⟨.ref C, some h.objs.size, odt, osl⟩, hx', rfl, hnc, .inr ⟨h.objs.size, rfl, hxs.symm, ?_⟩⟩ (fun b ob hbx _ hb => ?_)
          (fun o₀ h₀ => by cases hx.symm.trans h₀; exact ⟨_, hx', rfl, rfl, rfl, fun dx e => (by cases e), fun dx e => .inr (by cases e; exact Heap.get?_none_of_le (Nat.le_refl _))⟩))
        · obtain ⟨o', es, ep, e1, e2, e3, eu, e4⟩ := hn'
          exact ⟨o', es, ep, e1, e2, e3, eu, fun y => by rw [e4 y]; by_cases hy : y = name <;> simp [hy, hmA]⟩
        · exact (hs.2 b (Nat.ne_of_lt (Heap.lt_size hb))).trans ((Heap.get?_update_ne _ _ _ _ hbx).trans (Heap.get?_push_of_some _ hb))
    · subst hdx
      rw [if_neg (by simp)]
      refine wpAny_pure ?_
      show wpAny _ _ (storeInDict dx (.str name t) name v) _ _ _
      unfold storeInDict newKeyGuard
      refine wpAny_bind (wpAny_pure (wpAny_bind (wpAny_nsSet1 hns fun h' hn' hs => ?_)))
      obtain ⟨oD, esD, epD, hoD, hdD, hcD⟩ := hn'.count (PySem.Within.cons name v hw)
      refine wpAny_bind (wpAny_lookBehind hoD (by rw [hdD]; exact pastItsLine_dict (Nat.le_trans hcD (by rw [List.length_cons, sizeLine_eq]; omega))) ?_)
      refine wpAny_pure (hR h' _ ⟨⟨.ref C, some dx, odt, osl⟩, (hs.2 x hne.symm).trans hx, rfl, hnc, .inr ⟨dx, rfl, hne, hn'⟩⟩ (fun b ob _ hbd hb => ?_)
        (fun o₀ h₀ => ⟨o₀, (hs.2 x hne.symm).trans h₀, rfl, rfl, rfl, fun _ e => e, fun _ e => .inl e⟩))
      exact (hs.2 b (hbd _ dx hx rfl)).trans hb
  refine wpAny_bind (wpAny_mkText (wpAny_bind (wpAny_bind (wpAny_bind (LT _ _ _ _ (fun _ _ e => e) (looks_findIn KI hs _ _ _ _ (fun _ _ e => e) (wpAny_holding ?_)))))))
  rw [SF.slot.bind]
  refine wpAny_bind (wpAny_pure (wpAny_bind (wpAny_call (main _ _ fun h' tk' I' k1 k2 => ?_))))
  exact wpAny_pure (wpAny_pure (hq h' tk' I' k1 k2))
end
end
section
open Builtin Builtin.ObjectAttr
section
variable {w : World} {A : Around} {K : Frag} {E : Value → Shared → Prop} {h : Heap} {g : Array GenState} {d : Drawn} {t : Nat} {os : OsState}
variable {nm q : Str} {C N : Addr} {bs bm : List Value} {hdct : Bool} {sn : List Str} {sub : List Value} {ab : Bool} {col : Option Bool} {dd : Option Addr} {k0 k1 k2 k3 k5 : Option Value}
noncomputable abbrev newE : String := "Exception.__new__"
theorem exc_check {M : Model} {rest : List Value} {Q : Unit → Shared → Prop} (hcB : (Value.ref C :: bm).contains (.type "Exception") = true) (hC : h.get? C = some (excClassObj nm q C N bs bm hdct sn sub ab col dd k0 k1 k2 k3 k5 newE))
    (hq : Q () ⟨h, g, d, t, os⟩) : wpAny M A (checkBuiltinCall newE ⟨.ref C :: rest, []⟩) Q E ⟨h, g, d, t, os⟩ := by
  have F := PySem.F.excBase_Exception
  have hstar := F.noStar
  simp only [checkBuiltinCall, F.newKind, F.newSplit, F.newRow]
  repeat (first | refine wpAny_loadPart_at hC ?_ | (refine wpAny_isSubtype_exc hC ?_; rw [hcB]) | refine wpAny_staticBase_exc hC ?_ | refine wpAny_madeBy_exc hC ?_ | simp only [bne_self_eq_false, Bool.false_eq_true, if_false] | wp_step)
  exact hq
theorem exc_new {R : Result → Shared → Prop} {rest : List Value} (hcB : (Value.ref C :: bm).contains (.type "Exception") = true) (hcA : (Value.ref C :: bm).contains (.type "AttributeError") = false) (hcN : (Value.ref C :: bm).contains (.type "NameError") = false)
    (hC : h.get? C = some (excClassObj nm q C N bs bm hdct sn sub ab col dd k0 k1 k2 k3 k5 newE))
    (hq : R (.ok (.ret (.ref (h.objs.size + 1)))) ⟨(h.push { cls := .type "tuple", data := .seq rest.toArray }).push
      { cls := .ref C, data := .fields #[.ref h.objs.size, .none, .none, .none, .bool false, .none] }, g, d, t, os⟩) (hrest : rest.length ≤ sizeLine) :
    codeAny (model pr w) A (.builtin newE ⟨.ref C :: rest, []⟩) R ⟨h, g, d, t, os⟩ := by
  have F := PySem.F.excBase_Exception
  have hends := F.ends
  refine PySem.codeAny_builtinAt F.entry ?_
  unfold Builtin.«BaseException.__new__»
  refine PySem.wpAt_bind ?_
  show PySem.wpAt _ _ _ (stack >>= _) _ _ _
  refine PySem.wpAt_bind (PySem.wpAt_stack fun p below => PySem.wpAt_of_wpAny ?_)
  wp_walk
  refine PySem.wpAt_of_wpAny ?_
  rw [F.owner]
  repeat (first | with_reducible refine wpAny_madeHere_exc F.canon hC ?_ | with_reducible refine wpAny_loadPart_at hC ?_ | (with_reducible refine wpAny_isSubtype_exc hC ?_; first | rw [hcB] | rw [hcA] | rw [hcN]) | wp_step)
  show R _ _
  rw [Heap.size_push]
  exact hq
theorem exc_type {rest : List Value} {fI : Addr} {Q : Fin → Shared → Prop} (KI : K.In h) (hcB : (Value.ref C :: bm).contains (.type "Exception") = true) (hcA : (Value.ref C :: bm).contains (.type "AttributeError") = false) (hcN : (Value.ref C :: bm).contains (.type "NameError") = false)
    (hC : h.get? C = some (excClassObj nm q C N bs bm hdct sn sub ab col dd k0 k1 k2 k3 k5 newE)) (hi : findIn K (.ref C) "__init__" = some (some (.ref fI))) (hf : typeIn K (.ref fI) = some (.type "function"))
    (hq : ∀ h' e, Heap.MadeExcOf h h' e (.ref C) rest → wpAny (model pr w) A (call (.ref fI) (.ref e :: rest)) (fun r s' => r = .none ∧ Q (.done (.ret (.ref e))) s') E ⟨h', g, d, t, os⟩) (hrest : rest.length ≤ sizeLine) :
    wpAny (model pr w) A (Builtin.«type.__call__» ⟨.ref C :: rest, []⟩) Q E ⟨h, g, d, t, os⟩ := by
  have F := PySem.F.excBase_Exception
  repeat (first | with_reducible refine wpAny_loadPart_at hC ?_ | with_reducible refine wpAny_madeBy_exc hC ?_ | wp_step)
  refine codeAny_call_builtin_code (Code.quiet_builtin _ F.quiet) (exc_check hcB hC ?_)
  refine exc_new hcB hcA hcN hC ?_ hrest
  show wpAny _ _ _ _ _ _
  have kk : ∀ b o, h.get? b = some o → ((h.push { cls := .type "tuple", data := .seq rest.toArray }).push { cls := .ref C, data := .fields #[.ref h.objs.size, .none, .none, .none, .bool false, .none] }).get? b = some o := fun b o e => Heap.get?_push_of_some _ (Heap.get?_push_of_some _ e)
  have hC₁ := kk _ _ hC
  have hget : ((h.push { cls := .type "tuple", data := .seq rest.toArray }).push
      { cls := .ref C, data := .fields #[.ref h.objs.size, .none, .none, .none, .bool false, .none] }).get? (h.objs.size + 1) = some
      { cls := .ref C, data := .fields #[.ref h.objs.size, .none, .none, .none, .bool false, .none] } := by heap_get
  have hcC : (Value.ref C :: bm).contains (.ref C) = true := by simp
  have KI' := KI.keeps kk
  unfold isInstance
  repeat (first | with_reducible refine wpAny_loadPart_at hget ?_ | (with_reducible refine wpAny_isSubtype_exc hC₁ ?_; rw [hcC]) | wp_step)
  show wpAny _ _ (typeLookup (.ref C) _) _ _ _
  refine (looks_findIn KI' hi).at ?_
  refine wpAny_holding (wpAny_bind ((bind_fn KI' _ hf).at ?_))
  refine wpAny_bind (wpAny_mono (hq _ (h.objs.size + 1) ⟨kk, Heap.get?_none_of_le (Nat.le_succ _), h.objs.size, hget, Heap.get?_none_of_le (Nat.le_refl _), ?_⟩) (fun r s' hr => ?_) fun _ _ x => x)
  · exact Heap.get?_push_of_some _ (Heap.get?_push_at rfl rfl)
  · obtain ⟨rfl, hQ⟩ := hr
    wp_walk
    exact hQ
/-- an exception made by its class's own __init__ -/
theorem exc_call {rest : List Value} {fI : Addr} {Q : Value → Shared → Prop} (KI : K.In h) (hcB : (Value.ref C :: bm).contains (.type "Exception") = true) (hcA : (Value.ref C :: bm).contains (.type "AttributeError") = false) (hcN : (Value.ref C :: bm).contains (.type "NameError") = false)
    (hC : h.get? C = some (excClassObj nm q C N bs bm hdct sn sub ab col dd k0 k1 k2 k3 k5 newE)) (hi : findIn K (.ref C) "__init__" = some (some (.ref fI))) (hf : typeIn K (.ref fI) = some (.type "function"))
    (hq : ∀ h' e, Heap.MadeExcOf h h' e (.ref C) rest →
      wpAny (model pr w) (A.under (.builtin "type.__call__" ⟨.ref C :: rest, []⟩)) (call (.ref fI) (.ref e :: rest)) (fun r s' => r = .none ∧ Q (.ref e) s') E ⟨h', g, d, t, os⟩) (hrest : rest.length ≤ sizeLine) :
    wpAny (model pr w) A (call (.ref C) rest) Q E ⟨h, g, d, t, os⟩ := by
  have f1 := tc_lookup
  have f2 := tc_bind (.ref C)
  have hT : (⟨h, g, d, t, os⟩ : Shared).TypeIs (.ref C) "type" := ⟨_, hC, rfl⟩
  refine wpAny_call (codeAny_of_tree ?_)
  show wpAny _ _ (callAny (.ref C) _) _ _ _
  repeat (any_goals (first | assumption | with_reducible refine wpAny_loadPart_at hC ?_ | wp_step))
  refine ⟨rfl, ?_⟩
  refine codeAny_call_builtin_at (Code.quiet_builtin _ (by decide +kernel)) entry_typeCall (wpAny_check_type_call_sub hC (exc_type (rest := rest) KI hcB hcA hcN hC hi hf (fun h' e hm => ?_) hrest))
  exact hq h' e hm
/-- Exception.__init__ run by hand -/
theorem exc_init {x : Addr} {od : Option Addr} {a0 : Addr} {sl : Array (Option Value)} {rest : List Value} {Q : Value → Shared → Prop} (hcB : (Value.ref C :: bm).contains (.type "Exception") = true) (hC : h.get? C = some (excClassObj nm q C N bs bm hdct sn sub ab col dd k0 k1 k2 k3 k5 newE))
    (hx : h.get? x = some ⟨.ref C, od, .fields #[.ref a0, .none, .none, .none, .bool false, .none], sl⟩) (hrest : rest.length ≤ sizeLine)
    (hq : ∀ h', (∀ b o, b ≠ x → h.get? b = some o → h'.get? b = some o) → h'.get? x = some ⟨.ref C, od, .fields #[.ref h.objs.size, .none, .none, .none, .bool false, .none], sl⟩ → Q .none ⟨h', g, d, t, os⟩) :
    wpAny (model pr w) A (call (.builtin "Exception.__init__") (.ref x :: rest)) Q E ⟨h, g, d, t, os⟩ := by
  have F := PySem.F.excBase_Exception
  have hshort := F.noStar
  refine wpAny_call (codeAny_call_builtin F.init.plain F.initEntry ?_)
  have chk : ∀ {A : Around} {E : Value → Shared → Prop} {Q : Unit → Shared → Prop}, Q () ⟨h, g, d, t, os⟩ → wpAny (model pr w) A (checkBuiltinCall "Exception.__init__" ⟨.ref x :: rest, []⟩) Q E ⟨h, g, d, t, os⟩ := by
    intro A E Q hq
    simp only [checkBuiltinCall, F.initKind, F.initSplit, F.initRow]
    repeat (first | (with_reducible refine wpAny_loadPart_at hx ?_) | with_reducible refine wpAny_loadPart_at hC ?_ | (with_reducible refine wpAny_isSubtype_exc hC ?_; rw [hcB]) | wp_step)
    refine wpAny_onRaise ?_
    rw [show ∀ (a b : String) (n : Nat), Bind.check ⟨.positional, "*", "Exception", .self, [⟨"args", .varPos, false⟩]⟩ a b n (List.map (fun x => x.fst) ({ pos := Value.ref x :: rest } : Args).kw) = pure () from
      fun a b n => check_star_args _ _ _ _ _ _]
    exact wpAny_pure hq
  refine chk ?_
  wp_walk
  refine hq _ (fun b o hb e => (Heap.get?_update_other _ _ (Ne.symm hb)).trans (Heap.get?_push_of_some _ e)) ?_
  rw [Heap.get?_update_self _ (Heap.get?_push_of_some _ hx) rfl]
  rfl
end
end
section
open Builtin Builtin.ObjectAttr
set_option maxHeartbeats 2000000
theorem method_exc {w : World} {A : Around} {E : Value → Shared → Prop} {s : Shared} {K : Frag} {pl : Sem Bool} {Q : Value × List Value → Shared → Prop} (X : K.In s.heap)
    (e : findCls K (.type "Exception") (.type "type") "__init__" = some (.val (.builtin "Exception.__init__"))) (h : Q (.builtin "Exception.__init__", []) { s with toks := s.toks + 1 }) : wpAny (model pr w) A (getMethod (.type "Exception") "__init__" pl) Q E s := by
  have hstub : opaqueClassAbove (.type "Exception") = pure none := by unfold opaqueClassAbove; dsimp only; rw [show Manifest.isStub "Exception" = false by decide +kernel]; rfl
  have ht : typeOf (.type "Exception") = pure (.type "type") := by first | rfl | kernel_rfl
  have L0 : Looks (model pr w) s.heap (typeOf (.type "Exception")) (.type "type") := Looks.of_pure ht
  have hg : findIn K (.type "type") "__getattribute__" = some (some (.builtin "type.__getattribute__")) := type_tga
  unfold getMethod specialOf
  refine wpAny_bind (wpAny_bind (L0.here ((looks_findIn X hg).here ?_)))
  dsimp only
  rw [if_pos canon_tga]
  refine wpAny_bind (wpAny_mono (Q := fun v => Q (v, [])) (E := E) ?_ (fun _ _ z => wpAny_pure z) fun _ _ z => z)
  have LO : Looks (model pr w) s.heap (opaqueClassAbove (.type "Exception")) none := Looks.of_pure hstub
  refine cls_open X LO L0 hg (looks_hook X (r := none) (by rfl)) (by show subIn K _ _ = _; rfl) e
    (wpAny_pure (by show wpAny _ _ (handedOut _) _ _ _; rw [handedOut_of rfl]; exact wpAny_pure h))
example (w : World) : findCls (hd.heap_39 w.params) (.type "Exception") (.type "type") "__init__" = some (.val (.builtin "Exception.__init__")) := by k_is
structure OwnE (w : World) (C : Addr) : Prop where
  cls : ∃ (nm q : Str) (N : Addr) (bs : List Value) (sn : List Str) (sub : List Value) (ab : Bool) (col : Option Bool) (dd : Option Addr) (k0 k1 k2 k3 k5 : Option Value), (hd.heap_39 w.params).lookup C = some (excClassObj nm q C N bs [.ref 40, .type "Exception", .type "BaseException", .type "object"] true sn sub ab col dd k0 k1 k2 k3 k5 newE)
  init : findIn (hd.heap_39 w.params) (.ref C) "__init__" = some (some (.ref 30))
  sa : findIn (hd.heap_39 w.params) (.ref C) "__setattr__" = some (some (.builtin "object.__setattr__"))
  what : findIn (hd.heap_39 w.params) (.ref C) "what" = some none
  at_ : findIn (hd.heap_39 w.params) (.ref C) "at" = some none
theorem ownE_of {w : World} {C : Addr} {o : Obj} (h : (hd.heap_39 w.params).lookup C = some o) (hs : ∃ (nm q : Str) (N : Addr) (bs : List Value) (sn : List Str) (sub : List Value) (ab : Bool) (col : Option Bool) (dd : Option Addr) (k0 k1 k2 k3 k5 : Option Value), o = excClassObj nm q C N bs [.ref 40, .type "Exception", .type "BaseException", .type "object"] true sn sub ab col dd k0 k1 k2 k3 k5 newE)
    (h1 : findIn (hd.heap_39 w.params) (.ref C) "__init__" = some (some (.ref 30))) (h2 : findIn (hd.heap_39 w.params) (.ref C) "__setattr__" = some (some (.builtin "object.__setattr__"))) (h3 : findIn (hd.heap_39 w.params) (.ref C) "what" = some none) (h4 : findIn (hd.heap_39 w.params) (.ref C) "at" = some none) : OwnE w C := by
  obtain ⟨nm, q, N, bs, sn, sub, ab, col, dd, k0, k1, k2, k3, k5, rfl⟩ := hs
  exact ⟨⟨nm, q, N, bs, sn, sub, ab, col, dd, k0, k1, k2, k3, k5, h⟩, h1, h2, h3, h4⟩
theorem OwnE.clsE {w : World} {C : Addr} {g : Prop} (W : OwnE w C) (k : ∀ (nm q : Str) (N : Addr) (bs : List Value) (sn : List Str) (sub : List Value) (ab : Bool) (col : Option Bool) (dd : Option Addr) (k0 k1 k2 k3 k5 : Option Value), (hd.heap_39 w.params).lookup C = some (excClassObj nm q C N bs [.ref 40, .type "Exception", .type "BaseException", .type "object"] true sn sub ab col dd k0 k1 k2 k3 k5 newE) → g) : g := by
  obtain ⟨nm, q, N, bs, sn, sub, ab, col, dd, k0, k1, k2, k3, k5, h⟩ := W.cls
  exact k nm q N bs sn sub ab col dd k0 k1 k2 k3 k5 h
theorem ownSize (w : World) : OwnE w 65 := by
  refine' ownE_of ?h ?hs ?h1 ?h2 ?h3 ?h4
  case h => k_is
  case hs => exact ⟨_, _, _, _, _, _, _, _, _, _, _, _, _, _, rfl⟩
  case h1 => k_is
  case h2 => k_is
  case h3 => k_is
  case h4 => k_is
theorem ownRun (w : World) : OwnE w 53 := by
  refine' ownE_of ?h ?hs ?h1 ?h2 ?h3 ?h4
  case h => k_is
  case hs => exact ⟨_, _, _, _, _, _, _, _, _, _, _, _, _, _, rfl⟩
  case h1 => k_is
  case h2 => k_is
  case h3 => k_is
  case h4 => k_is
theorem ownStep (w : World) : OwnE w 77 := by
  refine' ownE_of ?h ?hs ?h1 ?h2 ?h3 ?h4
  case h => k_is
  case hs => exact ⟨_, _, _, _, _, _, _, _, _, _, _, _, _, _, rfl⟩
  case h1 => k_is
  case h2 => k_is
  case h3 => k_is
  case h4 => k_is
noncomputable abbrev excAt (C : Addr) (a0 : Addr) (od : Option Addr) : Obj := ⟨.ref C, od, .fields #[.ref a0, .none, .none, .none, .bool false, .none], #[]⟩
section
variable {w : World} {b0 : Heap} {A : Around} {E : Value → Shared → Prop}
theorem nm_local {env : Env} {M : Model} {s : Shared} {mm : Str → Option Value} {x : Str} {pos : Pos} {v : Value} {Q : Value → Shared → Prop} (hn : s.heap.Ns env.locals mm) (hv : mm x = some v) (h : Q v s) (hk : env.scope.kind = .function) (hx : env.kindOf x = some .local) (hd : (x == ("__debug__" : Str)) = false) :
    wpAny M A (eval (.Name x pos) env) Q E s := wpAny_Name (wpAny_loadName_local hk hx hn hv h) hd
theorem enter_fn {s : Shared} {fa : Addr} {vs : List Value} {binds : List (Str × Value)} {Q : Value → Shared → Prop} {name qual : Str} {params : Arguments} {body : List Stmt} {scope : Scope} {dV kV doc pm cdv ct oc : Value} {an od : Option Addr} {osl : Array (Option Value)} (G : Gd w b0) (st : b0.StaysIn s.heap) (hdp : A.depth < recursionLimit)
    (ho : (hd.heap_39 w.params).lookup fa = some ⟨oc, od, .func (fnOf name qual params body scope dV kV doc pm an cdv ct), osl⟩) (hcd : codeIn (hd.heap_39 w.params) cdv qual = true)
    (hbind : BindsTo s (fnOf name qual params body scope dV kV doc pm an cdv ct) ⟨vs, []⟩ binds) (hcell : (scope.names.all (fun x => !(x.2 == .cell)) && !scope.isCoroutine && !scope.isGenerator && scope.kind == .function) = true) (hloc : ∀ y ∈ binds, scope.names.lookup y.1 = some .local)
    (h : ∀ h₁ tk, h₁.Ns s.heap.objs.size (fun x => binds.reverse.lookup x) → (∀ b o, s.heap.get? b = some o → h₁.get? b = some o) →
      wpAny (model pr w) (A.deeper (envX qual scope s.heap.objs.size fa cdv [])) (execs body (envX qual scope s.heap.objs.size fa cdv [])) (fun f s' => Q (match f with | .ret v => v | _ => .none) s') (fun _ _ => False) ⟨h₁, s.gens, s.drawn, tk, s.os⟩) :
    wpAny (model pr w) A (call (.ref fa) vs) Q E s := by
  simp only [Bool.and_eq_true, beq_iff_eq, Bool.not_eq_true'] at hcell
  have KI := G.K.keeps st
  refine wpAny_call (codeAny_call_def (fd := fnOf name qual params body scope dV kV doc pm an cdv ct) (body := body) (binds := binds) hdp (KI _ _ ho) rfl (G.nolimit.keeps st) (codeRec_of KI hcd) rfl hbind (fun x hx => ?_) hloc (fun h₁ hns kk => ?_) hcell.1.1.2 hcell.1.2 hcell.2)
  · have := List.all_eq_true.mp hcell.1.1.1 x hx
    simpa using this
  · exact wpAny_mono (h h₁ _ hns kk) (fun _ _ z => z) fun _ _ z => z.elim
theorem init30 (G : Gd w b0) {C e a0 : Addr} {v : Value} {Q : Value → Shared → Prop} {h : Heap} {g : Array GenState} {d : Drawn} {t : Nat} {os : OsState} (st : b0.StaysIn h) (W : OwnE w C) (hdp : A.depth < recursionLimit) (hen : b0.get? e = none) (he : h.get? e = some (excAt C a0 none))
    (hq : ∀ h' tk a1 od, (∀ b o, b ≠ e → h.get? b = some o → h'.get? b = some o) → h'.get? e = some (excAt C a1 od) → Q .none ⟨h', g, d, tk, os⟩) :
    wpAny (model pr w) A (call (.ref 30) [.ref e, v]) Q E ⟨h, g, d, t, os⟩ := by
  have KI := G.K.keeps st
  refine W.clsE fun nm q N bs sn sub ab col dd k0 k1 k2 k3 k5 hCK => ?_
  have hC := KI _ _ hCK
  refine' enter_fn (binds := [(Str.ofString "self", .ref e), (Str.ofString "what", v), (Str.ofString "at", .ref 22)]) G st hdp ?ho ?hcd ?hbind ?hcell ?hloc (fun h₁ tk hns kk => ?_)
  case ho => k_is
  case hcd => k_is
  case hbind => exact binds_K (K := hd.heap_39 w.params) KI rfl (by k_is) rfl rfl rfl
  case hcell => kernel_rfl
  case hloc => exact locs (by kernel_rfl)
  have stK : b0.StaysIn h₁ := fun b o x => kk b o (st b o x)
  have KI1 := G.K.keeps stK
  have he1 := kk _ _ he
  have hC1 := kk _ _ hC
  have hLe : e ≠ h.objs.size := Nat.ne_of_lt (Heap.lt_size he)
  obtain ⟨_, _, mean, mg, mb, TT⟩ := G.T
  refine wpAny_execs_cons ?_
  refine' wpAny_Expr (MethodCall_ ?_ ?he) ?hi ?hs
  case he => exact rfl
  case hi => exact rfl
  case hs => exact rfl
  refine' Name_function_global rfl rfl (loadGlobal_builtin (TT.g.keeps stK) (mg_none_of (K := hd.heap_39 w.params) G.K TT.g ?e1) (TT.b.keeps stK) ((TT.builtins _ ?e2).trans ?e3) ?_) ?e4
  case e1 => k_is
  case e2 => decide
  case e3 => boot_by_name
  case e4 => decide
  refine' method_exc (K := hd.heap_39 w.params) KI1 ?k1 ?_
  case k1 => k_is
  refine callWith_of (P := fun _ => True) rfl (fun _ _ => ⟨.machine, .inr (.inl rfl), Looks.of_pure rfl⟩) (evalArgs_plain ?_)
  refine' spliced_more (nm_local hns ?v1 ?_ ?k1 ?x1 ?d1) ?s1
  case v1 => rfl
  case k1 => rfl
  case x1 => rfl
  case d1 => decide
  case s1 => kernel_rfl
  refine' spliced_more (nm_local hns ?v1 ?_ ?k1 ?x1 ?d1) ?s1
  case v1 => rfl
  case k1 => rfl
  case x1 => rfl
  case d1 => decide
  case s1 => kernel_rfl
  refine spliced_none ⟨trivial, ?_⟩
  have hcB : (Value.ref C :: [.ref 40, .type "Exception", .type "BaseException", .type "object"]).contains (.type "Exception") = true := by rw [List.contains_cons]; simp
  refine exc_init (x := e) (rest := [v]) hcB hC1 he1 (by rw [sizeLine_eq, List.length_singleton]; decide) fun h₂ k2 he2 => ?_
  have hns2 := hns.at' (h' := h₂) fun o x => k2 _ o (Ne.symm hLe) x
  have stK2 : b0.StaysIn h₂ := fun b o x => k2 b o (fun q => by rw [q, hen] at x; cases x) (stK b o x)
  have hcd : clsIn (hd.heap_39 w.params) C = some { name := nm, bases := bs, mro := [.ref C, .ref 40, .type "Exception", .type "BaseException", .type "object"], ns := N, qualname := q, hasDict := true, slotNames := sn, subclasses := sub, abstract := ab, collection := col, hasDel := false } := by unfold clsIn; rw [hCK]
  have hpass : refuseLoop (.ref e) "__setattr__" [.ref C, .ref 40, .type "Exception", .type "BaseException", .type "object"] = pure () := by
    rw [refuseLoop_ref, refuseLoop_ref]; exact PySem.F.store_Exception.passes _
  have hobj : mroIn (hd.heap_39 w.params) C (.type "object") = some true := by unfold mroIn; rw [hcd, Option.bind_some, if_neg (by simp)]; simp
  show wpAny (model pr w) _ (execs (Stmt.Assign _ _ _ :: _) _) _ _ ⟨h₂, g, d, _, os⟩
  refine' wpAny_execs_cons (plainObj_wpAny_Assign_Attribute (nm_local hns2 ?v1 (nm_local hns2 ?v2 ?_ ?k2 ?x2 ?d2) ?k1 ?x1 ?d1) ?s1)
  case v1 => rfl
  case v2 => rfl
  case k1 => rfl
  case x1 => rfl
  case d1 => decide
  case k2 => rfl
  case x2 => rfl
  case d2 => decide
  case s1 => rfl
  have I2 : h₂.Inst e C (fun _ => none) := ⟨_, he2, rfl, (fun c q => by cases q), .inl ⟨rfl, fun _ => rfl⟩⟩
  refine set_exc (K := hd.heap_39 w.params) (ns := []) (G.K.keeps stK2) hcd hpass hobj rfl W.sa W.what I2 (fun y q => absurd rfl q) (by decide) fun h₃ tk3 I3 k3 o3 => ?_
  obtain ⟨o₁, he3, c1, c2, c3, c4, c5⟩ := o3 _ he2
  have hns3 := hns2.at' (h' := h₃) fun o x => k3 _ o (Ne.symm hLe) (fun o₀ dx x1 x2 => by rw [he2] at x1; cases x1; cases x2) x
  have k3' : ∀ b o, b ≠ e → h₂.get? b = some o → h₃.get? b = some o := fun b o hb x => k3 b o hb (fun o₀ dx x1 x2 => by rw [he2] at x1; cases x1; cases x2) x
  have stK3 : b0.StaysIn h₃ := fun b o x => k3' b o (fun q => by rw [q, hen] at x; cases x) (stK2 b o x)
  refine' wpAny_execs_cons (plainObj_wpAny_Assign_Attribute (nm_local hns3 ?v1 (nm_local hns3 ?v2 ?_ ?k2 ?x2 ?d2) ?k1 ?x1 ?d1) ?s1)
  case v1 => rfl
  case v2 => rfl
  case k1 => rfl
  case x1 => rfl
  case d1 => decide
  case k2 => rfl
  case x2 => rfl
  case d2 => decide
  case s1 => rfl
  refine set_exc (K := hd.heap_39 w.params) (ns := [Str.ofString "what"]) (G.K.keeps stK3) hcd hpass hobj rfl W.sa W.at_ I3 (fun y q => ?_) (by decide) fun h₄ tk4 I4 k4 o4 => ?_
  · by_cases hy : y = Str.ofString "what"
    · rw [hy]; exact .head _
    · rw [if_neg hy] at q; exact absurd rfl q
  obtain ⟨o₂, he4, d1, d2, d3, d4, d5⟩ := o4 _ he3
  refine wpAny_execs_nil ?_
  obtain ⟨oc, od, odt, osl⟩ := o₂
  dsimp only at d1 d2 d3
  rw [d1, c1, d2, c2, d3, c3] at he4
  refine hq h₄ _ _ od (fun b o hb x => ?_) he4
  have x3 := k3' b o hb (k2 b o hb (kk b o x))
  refine k4 b o hb (fun o₀ dx x1 x2 => ?_) x3
  rw [he3] at x1
  cases x1
  rcases c5 dx x2 with q | q
  · cases q
  · intro z
    rw [← z, k2 b o hb (kk b o x)] at q
    cases q
end
end
section
section
variable {w : World} {b0 : Heap} {c : Cx} {m m₁ m' : Loc} {T T' T₁ T₂ : Store} {s s₀ s₁ s₂ s' : Shared} {Q : AV → Loc → Store → Prop} {QF : FA → Loc → Store → Prop} {X : Addr → Loc → Store → Prop} {i : Nat}
theorem raise_made {M : Model} {A : Around} {E : Value → Shared → Prop} {env : Env} {C : Addr} {nm q : Str} {N : Addr} {bs : List Value} {sn : List Str} {sub : List Value} {ab : Bool} {col : Option Bool} {dd : Option Addr} {k0 k1 k2 k3 k5 : Option Value} {x : Sem Value} {Q : Flow → Shared → Prop} (hh : A.handled = none)
    (h : wpAny M A x (fun v s₁ => ∃ e t od, v = .ref e ∧ s₁.heap.get? C = some (excClassObj nm q C N bs [.ref 40, .type "Exception", .type "BaseException", .type "object"] true sn sub ab col dd k0 k1 k2 k3 k5 newE) ∧
      s₁.heap.get? e = some (excAt C t od) ∧ E (.ref e) s₁) E s) : wpAny M A (raiseStmt env (some x) none) Q E s := by
  have hcB : (Value.ref C :: [.ref 40, .type "Exception", .type "BaseException", .type "object"]).contains (.type "BaseException") = true := by rw [List.contains_cons]; simp
  unfold raiseStmt
  refine wpAny_bind (wpAny_mono h (fun v s₁ h₁ => ?_) fun _ _ x => x)
  obtain ⟨e, t, od, rfl, hC, he, hE⟩ := h₁
  obtain ⟨hp, g, d, tk, os⟩ := s₁
  repeat (first | with_reducible refine wpAny_loadPart_at he ?_ | with_reducible refine wpAny_loadPart_at hC ?_ | (with_reducible refine wpAny_isSubtype_exc hC ?_; rw [hcB]) | wp_step)
  exact wpAny_raiseNew_none hh hE
theorem s_raise {n : Nat} {C : Addr} {x msg : Str} {k : Nat} {np mp cpos pos : Pos} (G : Gd w b0) (Y : OwnE w C) (hkp : keepIn (hd.heap_39 w.params) (.ref C) = true) (hf : typeIn (hd.heap_39 w.params) (.ref 30) = some (.type "function")) (e : nsIn (hd.heap_39 w.params) mainGlobals x = some (some (.ref C)))
    (hc : c.Ok n) (hn : 2 ≤ n) (hh : c.A.handled = none) (hx : c.env.kindOf x = some .globalImplicit) (hdb : (x == ("__debug__" : Str)) = false) (h : X C m T) :
    WS w b0 c (.Raise (some (.Call (.Name x np) [.Constant (.str msg) k mp] [] cpos)) none pos) m T QF X := ⟨fun s O _ => by
  refine Y.clsE fun nm q N bs sn sub ab col dd k0 k1 k2 k3 k5 hCK => ?_
  obtain ⟨mg, hg, hv⟩ := G.mg e
  rw [arm_exec_Raise]
  refine wpAny_bind (wpAny_standAt (raise_made (C := C) (nm := nm) (q := q) (N := N) (bs := bs) (sn := sn) (sub := sub) (ab := ab) (col := col) (dd := dd) (k0 := k0) (k1 := k1) (k2 := k2) (k3 := k3) (k5 := k5) hh (wpAny_bind (Call_ ?_))))
  refine Name_function_global hc.kind hx (loadGlobal_global (env := c.env) (c.globals ▸ hg.keeps O.1.stay) hv ?_) hdb
  refine callWith_of (P := fun h => (KK w).In h) (by rfl) (fun h X => keeps_K hkp h X) (evalArgs_plain (spliced_more (Constant_str (spliced_none ?_)) (by rfl)))
  refine ⟨G.K.keeps O.1.stay, ?_⟩
  obtain ⟨hp, gg, dr, tk, os⟩ := s
  have KI := G.K.keeps O.1.stay
  have hC := KI _ _ hCK
  have hcB : (Value.ref C :: [.ref 40, .type "Exception", .type "BaseException", .type "object"]).contains (.type "Exception") = true := by rw [List.contains_cons]; simp
  refine exc_call (K := hd.heap_39 w.params) KI hcB (by rw [List.contains_cons]; simp) (by rw [List.contains_cons]; simp) hC Y.init hf (fun h₁ ea hm => ?_) (by rw [sizeLine_eq]; simp)
  obtain ⟨t0, ht, hnt, _⟩ := hm.there
  have hen : b0.get? ea = none := by
    cases q : b0.get? ea with
    | none => rfl
    | some o => have := O.1.stay ea o q; rw [hm.new] at this; cases this
  refine init30 G (fun b o x => hm.keeps b o (O.1.stay b o x)) Y (by have := hc.depth; show c.A.depth + 1 < _; omega) hen ht fun h₂ tk₂ a1 od k2 he2 => ⟨rfl, ?_⟩
  refine wpAny_bind (wpAny_standAt (wpAny_pure ⟨ea, a1, od, rfl, ?_, he2, ?_⟩))
  · exact k2 C _ (fun q => by have z := hm.new; rw [← q] at z; exact absurd (hC.symm.trans z) (by simp)) (hm.keeps _ _ hC)
  · have g : Grow hp h₂ := fun b o x => k2 b o (fun q => by rw [q, hm.new] at x; cases x) (hm.keeps b o x)
    exact ⟨ea, C, m, T, rfl, ⟨_, _, he2, rfl, rfl, hm.new, .inl rfl⟩, O.grow g, stp_same (s' := ⟨h₂, gg, dr, tk₂, os⟩) g, h⟩⟩
end
end
section
noncomputable abbrev bmE : List Value := [.ref 40, .type "Exception", .type "BaseException", .type "object"]
section
variable {w : World} {b0 : Heap} {c : Cx} {m m₁ m' : Loc} {T T' T₀ T₁ T₂ : Store} {s s₀ s₁ s₂ s' pre : Shared} {Q : AV → Loc → Store → Prop} {QF : FA → Loc → Store → Prop} {X : Addr → Loc → Store → Prop} {i : Nat}
theorem exc_matches {M : Model} {A : Around} {E : Value → Shared → Prop} {s : Shared} {h : Heap} {e C D : Addr} {oe : Obj} {Q : Bool → Shared → Prop} (Y : OwnE w C) (Z : OwnE w D) (KI : (KK w).In s.heap) (he : s.heap.get? e = some oe) (hcls : oe.cls = .ref C)
    (hq : Q ((Value.ref C :: bmE).contains (.ref D)) s) : wpAny M A (excMatches (.ref e) (.ref D)) Q E s := by
  refine Y.clsE fun nm q N bs sn sub ab col dd k0 k1 k2 k3 k5 hCK => ?_
  refine Z.clsE fun nm' q' N' bs' sn' sub' ab' col' dd' k0' k1' k2' k3' k5' hDK => ?_
  obtain ⟨h, g, d, t, os⟩ := s
  have hC := KI _ _ hCK
  have hD := KI _ _ hDK
  have hcB : (Value.ref D :: bmE).contains (.type "BaseException") = true := by rw [List.contains_cons]; simp
  have f := tc_notTuple
  unfold excMatches
  repeat (first | (with_reducible refine wpAny_loadPart_at he ?_; rw [hcls]) | with_reducible refine wpAny_loadPart_at hD ?_ | (with_reducible refine wpAny_isSubtype_exc hD ?_; rw [hcB]) | with_reducible refine wpAny_isSubtype_exc hC ?_ | wp_step)
  cases hb : (Value.ref C :: bmE).contains (.ref D) <;> (rw [hb] at hq; wp_walk; exact hq)

noncomputable def Cx.mk' (c : Cx) (v : Value) : Cx := { c with A := c.A.mark (some v) }
/-- an exception that a part of one's own lets out, seen under a mark -/
theorem exc_back2 {A2 : Around} {e : Value} (hi : c.inn = none) (hfr : c.A.frames = some (c.fenv :: c.outer)) (hb : b0.StaysIn pre.heap) (h : Exc w b0 c pre T X e s') :
    notedBy (model pr w) c.A c.env (fun e s'' => cameBackBy (model pr w) A2 c.env (Exc w b0 c pre T X) e s'') e s' := by
  refine Exc.elim h fun ea C m' T' x O' st q => ?_
  have he : c.env = c.fenv := by unfold Cx.env; rw [hi]
  rw [he]
  unfold notedBy
  refine wp_note (c := c) (pre := pre.heap) hfr O'.1.frames O'.1.fdict (fun b o e => st.alive b o e) hb x fun h' n t => ?_
  obtain ⟨e1, n1, n2⟩ := n
  have O1 := O'.exc n2
  have st1 : Stp (FLs c.fl) (c.C :: fps T) (fps T') pre { s' with heap := h' } := st.exc n2 n1
  refine t.elim fun oe vs Tb oT ts a1 _ a3 _ a5 _ _ _ _ _ _ => ?_
  unfold cameBackBy
  refine wpAny_bind (wpAny_field a1 a3 a5 ?_)
  rw [if_neg (by simp)]
  have fin := wp_flight (w := w) (c := { c with A := A2 }) (b0 := b0) (fo := c.fenv.frame) (s := { s' with heap := h' }) (E := fun e' s'' => False) (Q := fun _ s'' => Exc w b0 c pre T X (.ref ea) s'') hb t (fun h'' n' t' => by
    obtain ⟨e2, n3, n4⟩ := n'
    exact ⟨ea, C, m', T', rfl, t'.obj, O1.exc n4, Stp.exc (s' := { s' with heap := h'' }) st1 n4 n3, q⟩)
  exact wpAny_mono fin (fun _ _ z => z) fun _ _ z => z.elim
/-- a suite that handles -/
noncomputable def Hd (w : World) (b0 : Heap) (c : Cx) (body : List Stmt) (ea C : Addr) (m : Loc) (T : Store) (QF : FA → Loc → Store → Prop) (X : Addr → Loc → Store → Prop) : Prop :=
  ∀ (pre s : Shared) (T₀ : Store), OkF w b0 c m T s.heap → Stp (FLs c.fl) (c.C :: fps T₀) (fps T) pre s → b0.StaysIn pre.heap → (∃ x, ExcTb pre.heap s.heap ea C x) → wpAny (model pr w) c.A (execs body c.env) (Res w b0 c RFl pre T₀ QF) (Exc w b0 c pre T₀ X) s
theorem hd_plain {body : List Stmt} {ea C : Addr} (h : WB w b0 c body m T QF X) : Hd w b0 c body ea C m T QF X := fun pre s T₀ O st hb t => wp_res st (h.run s O trivial)
theorem ExcTb.stp {h : Heap} {ea C : Addr} {x : Value} (t : ExcTb h s.heap ea C x) (O : OkF w b0 c m T s.heap) (st : Stp (FLs c.fl) (c.C :: fps T) (fps T') s s') : ExcTb h s'.heap ea C x := by
  refine t.elim fun oe vs Tb oT ts a1 a2 a3 a4 a5 a6 a7 a8 a9 a10 a11 => ?_
  have key : ∀ z o zs, s.heap.get? z = some o → o.data = .fields zs → o.cls ≠ .none → s'.heap.get? z = some o := fun z o zs e d n => by
    refine (st.ext z o e fun q => ?_).1 fun q => ?_
    · rcases List.mem_cons.mp q with rfl | q
      · obtain ⟨o', es, ep, h1, h2⟩ := O.Cat
        rw [e] at h1; cases h1; rw [d] at h2; cases h2
      · obtain ⟨p, hp, hz⟩ := List.mem_flatMap.mp q
        obtain ⟨o', h1, h2⟩ := (O.1.rep p hp).noFields z hz
        rw [e] at h1; cases h1; exact n (h2 _ d)
    · obtain ⟨o', es, ep, h1, h2⟩ := O.1.fdict z q
      rw [e] at h1; cases h1; rw [d] at h2; cases h2
  exact ⟨oe, vs, Tb, oT, ts, key _ _ _ a1 a3 (by rw [a2]; exact fun e => nomatch e), a2, a3, a4, a5, a6, a7, key _ _ _ a8 a10 (by rw [a9]; exact fun e => nomatch e), a9, a10, a11⟩
/-- one that raises it again, or goes on -/
theorem hd_again {t : Expr} {rest : List Stmt} {rp ip : Pos} {ea C : Addr} (hi : c.inn = none) (hA : c.A.handled = some (.ref ea)) (h : WT w b0 c t m T (fun b m₁ T₁ => (b = true → X C m₁ T₁) ∧ (b = false → WB w b0 c rest m₁ T₁ QF X)) XF) :
    Hd w b0 c (.If t [.Raise none none rp] [] ip :: rest) ea C m T QF X := fun pre s T₀ O st hb ⟨x, t⟩ => by
  refine wpAny_execs_cons (wpAny_If (wpAny_mono (h.run s O trivial) (fun b s₁ zz => ?_) fun _ _ z => (exc_false z).elim))
  refine Res.elim zz fun d m₁ T₁ r O₁ st₁ q => ?_
  obtain rfl : b = d := r
  have st' := st.more st₁
  have t₁ := t.stp O st₁
  cases b with
  | false =>
    show wpAny _ _ (execs [] _) _ _ _
    exact wpAny_execs_nil (wp_res st' ((q.2 rfl).run s₁ O₁ trivial))
  | true =>
    show wpAny _ _ (execs [Stmt.Raise none none rp] _) _ _ _
    refine wpAny_execs_cons ?_
    rw [arm_exec_Raise]
    refine wpAny_bind (wpAny_standAt ?_)
    show wpAny _ _ (raiseStmt c.env none none) _ _ _
    unfold raiseStmt
    refine wpAny_bind (wpAny_handled ?_)
    rw [hA]
    obtain ⟨oe, vs, Tb, oT, ts, a1, a2, a3, a4, a5, a6⟩ := id t₁
    refine wpAny_bind (wpAny_rule (wpAny_bind (wpAny_field a1 a3 a5 ?_)))
    rw [if_neg (by simp)]
    have he : c.env = c.fenv := by unfold Cx.env; rw [hi]
    refine wpAny_bind (wp_flight (c := c) (b0 := b0) (fo := c.env.frame) hb t₁ fun h' n t' => ?_)
    obtain ⟨e1, n1, n2⟩ := n
    exact wpAny_throw ⟨ea, C, m₁, T₁, rfl, t'.obj, O₁.exc n2, Stp.exc (s' := { s₁ with heap := h' }) st' n2 n1, q.1 rfl⟩
/-- the clauses -/
inductive HsQ (w : World) (b0 : Heap) (c : Cx) (C : Addr) (m : Loc) (T : Store) (QF : FA → Loc → Store → Prop) (X : Addr → Loc → Store → Prop) : List ExceptHandler → Prop
  | hit {x : Str} {np hp : Pos} {b₀ : Stmt} {suite : List Stmt} {rest : List ExceptHandler} {D : Addr} : nsIn (hd.heap_39 w.params) mainGlobals x = some (some (.ref D)) → c.env.kindOf x = some .globalImplicit → (x == ("__debug__" : Str)) = false → OwnE w D →
      (Value.ref C :: bmE).contains (.ref D) = true → (∀ ea, Hd w b0 (c.mk' (.ref ea)) (b₀ :: suite) ea C m T QF X) → HsQ w b0 c C m T QF X (.ExceptHandler (some (.Name x np)) none (b₀ :: suite) hp :: rest)
  | miss {x : Str} {np hp : Pos} {b₀ : Stmt} {suite : List Stmt} {rest : List ExceptHandler} {D : Addr} : nsIn (hd.heap_39 w.params) mainGlobals x = some (some (.ref D)) → c.env.kindOf x = some .globalImplicit → (x == ("__debug__" : Str)) = false → OwnE w D →
      (Value.ref C :: bmE).contains (.ref D) = false → HsQ w b0 c C m T QF X rest → HsQ w b0 c C m T QF X (.ExceptHandler (some (.Name x np)) none (b₀ :: suite) hp :: rest)
theorem wp_clauses (G : Gd w b0) (hi : c.inn = none) (hk : c.env.scope.kind = .function) (hfr : c.A.frames = some (c.fenv :: c.outer)) {C ea : Addr} (Y : OwnE w C) {hs : List ExceptHandler} (H : HsQ w b0 c C m T QF X hs) (O : OkF w b0 c m T s.heap) (st : Stp (FLs c.fl) (c.C :: fps T₀) (fps T) pre s) (hb : b0.StaysIn pre.heap) (t : ExcTb pre.heap s.heap ea C .none) :
    wpAny (model pr w) c.A (handleBy (.ref ea) c.env hs) (Res w b0 c RFl pre T₀ QF) (Exc w b0 c pre T₀ X) s := by
  induction H with
  | @hit x np hp b₀ suite rest D e hx hdb Z hm h1 =>
    obtain ⟨mg, hg, hv⟩ := G.mg e
    have hfr' : (c.mk' (.ref ea)).A.frames = some ((c.mk' (.ref ea)).fenv :: (c.mk' (.ref ea)).outer) := hfr
    refine wpAny_handleBy_cons (codeAny_handlers_test ?_) (by intro q; cases q)
    refine Name_function_global hk hx (loadGlobal_global (env := c.env) (c.globals ▸ hg.keeps O.1.stay) hv ?_) hdb
    refine t.elim fun oe vs Tb oT ts a1 a2 _ _ _ _ _ _ _ _ _ => ?_
    refine exc_matches (h := s.heap) Y Z (G.K.keeps O.1.stay) a1 a2 ?_
    rw [hm]
    refine codeAny_handlers_suite (wp_flight (c := c.mk' (.ref ea)) (b0 := b0) (fo := none) hb t fun h' n t' => ?_)
    obtain ⟨e1, n1, n2⟩ := n
    have O1 : OkF w b0 c m T h' := O.exc n2
    have st1 : Stp (FLs c.fl) (c.C :: fps T₀) (fps T) pre { s with heap := h' } := st.exc n2 n1
    refine wpAny_mono (h1 ea pre { s with heap := h' } T₀ O1 st1 hb ⟨_, t'⟩) (fun _ _ z => z) fun e s'' z => ?_
    exact exc_back2 (c := c.mk' (.ref ea)) (A2 := c.A) hi hfr' hb z
  | @miss x np hp b₀ suite rest D e hx hdb Z hm _ ih =>
    obtain ⟨mg, hg, hv⟩ := G.mg e
    refine wpAny_handleBy_cons (codeAny_handlers_test ?_) (by intro q; cases q)
    refine Name_function_global hk hx (loadGlobal_global (env := c.env) (c.globals ▸ hg.keeps O.1.stay) hv ?_) hdb
    refine t.elim fun oe vs Tb oT ts a1 a2 _ _ _ _ _ _ _ _ _ => ?_
    refine exc_matches (h := s.heap) Y Z (G.K.keeps O.1.stay) a1 a2 ?_
    rw [hm]
    exact ih
theorem s_try {body : List Stmt} {hs : List ExceptHandler} {h₀ : ExceptHandler} {pos : Pos} {n : Nat} (G : Gd w b0) (hi : c.inn = none) (hc : c.Ok n)
    (h : WB w b0 c body m T QF (fun C m₁ T₁ => OwnE w C ∧ HsQ w b0 c C m₁ T₁ QF X (h₀ :: hs))) : WS w b0 c (.Try body (h₀ :: hs) [] [] pos) m T QF X := ⟨fun s O _ => by
  have he : c.env = c.fenv := by unfold Cx.env; rw [hi]
  refine wpAny_Try_except (wpAny_mono (h.run s O trivial) (fun f s₁ z => ?_) fun e s₁ z => ?_)
  · cases f with
    | next => exact wpAny_execs_nil z
    | _ => exact z
  · refine Exc.elim z fun ea C m' T' x O' st q => ?_
    obtain ⟨Y, q⟩ := q
    have goal : wpAny (model pr w) c.A (noteFrame (.ref ea) c.fenv) (fun _ s₂ => wpAny (model pr w) c.A (setFlight (.ref ea) none) (fun _ s₃ => wpAny (model pr w) c.A (handleBy (.ref ea) c.env (h₀ :: hs)) (Res w b0 c RFl s T QF) (Exc w b0 c s T X) s₃) (Exc w b0 c s T X) s₂) (Exc w b0 c s T X) s₁ := by
      refine wp_note (c := c) (pre := s.heap) hc.frames O'.1.frames O'.1.fdict (fun b o e => st.alive b o e) O.1.stay x fun h' n t => ?_
      obtain ⟨e1, n1, n2⟩ := n
      have O1 := O'.exc n2
      have st1 : Stp (FLs c.fl) (c.C :: fps T) (fps T') s { s₁ with heap := h' } := st.exc n2 n1
      refine wp_flight (c := c) (s := { s₁ with heap := h' }) (b0 := b0) (fo := none) O.1.stay t fun h'' n' t' => ?_
      obtain ⟨e2, n3, n4⟩ := n'
      exact wp_clauses (s := { s₁ with heap := h'' }) G hi hc.kind hc.frames Y q (O1.exc n4) (Stp.exc (s' := { s₁ with heap := h'' }) st1 n4 n3) O.1.stay t'
    rw [← he] at goal
    exact goal⟩
end
end
section
theorem mem_h {α : Type} {a : α} {l : List α} : a ∈ a :: l := List.Mem.head _
theorem mem_t {α : Type} {a b : α} {l : List α} (h : a ∈ l) : a ∈ b :: l := List.Mem.tail _ h
theorem sub_nil {α : Type} {l : List α} : ∀ p ∈ ([] : List α), p ∈ l := fun _ h => nomatch h
theorem sub_cons {α : Type} {a : α} {r l : List α} (h : a ∈ l) (h2 : ∀ p ∈ r, p ∈ l) : ∀ p ∈ a :: r, p ∈ l := fun p hp => (List.mem_cons.mp hp).elim (fun e => e ▸ h) (h2 p)
theorem and_tt {P P' : Prop} (h : P) : (true = true → P) ∧ (true = false → P') := ⟨fun _ => h, fun e => nomatch e⟩
theorem and_ff {P P' : Prop} (h : P') : (false = true → P) ∧ (false = false → P') := ⟨fun e => (nomatch e), fun _ => h⟩
theorem and_both {b : Bool} {P P' : Prop} (h : b = true → P) (h' : b = false → P') : (b = true → P) ∧ (b = false → P') := ⟨h, h'⟩
theorem and_flip {b : Bool} {P P' : Prop} (h : (b = true → P') ∧ (b = false → P)) : (b = false → P) ∧ (b = true → P') := ⟨h.2, h.1⟩
theorem and_dec_t {p : Prop} [Decidable p] {P P' : Prop} (hp : p) (h : P) : (decide p = true → P) ∧ (decide p = false → P') := ⟨fun _ => h, fun e => absurd hp (of_decide_eq_false e)⟩
theorem and_dec_f {p : Prop} [Decidable p] {P P' : Prop} (hp : ¬ p) (h : P') : (decide p = true → P) ∧ (decide p = false → P') := ⟨fun e => absurd (of_decide_eq_true e) hp, fun _ => h⟩
theorem and_beq_t {i j : Int} {P P' : Prop} (hp : i = j) (h : P) : ((i == j) = true → P) ∧ ((i == j) = false → P') := ⟨fun _ => h, fun e => by simp [hp] at e⟩
theorem and_beq_f {i j : Int} {P P' : Prop} (hp : i ≠ j) (h : P') : ((i == j) = true → P) ∧ ((i == j) = false → P') := ⟨fun e => absurd (by simpa using e) hp, fun _ => h⟩
theorem and_bne_t {i j : Int} {P P' : Prop} (hp : i ≠ j) (h : P) : ((i != j) = true → P) ∧ ((i != j) = false → P') := ⟨fun _ => h, fun e => absurd (by simpa using e) hp⟩
theorem and_bne_f {i j : Int} {P P' : Prop} (hp : i = j) (h : P') : ((i != j) = true → P) ∧ ((i != j) = false → P') := ⟨fun e => by simp [hp] at e, fun _ => h⟩
theorem and_str_t {x y : Str} {P P' : Prop} (hp : (x == y) = true) (h : P) : ((x == y) = true → P) ∧ ((x == y) = false → P') := ⟨fun _ => h, fun e => by rw [hp] at e; cases e⟩
theorem and_str_f {x y : Str} {P P' : Prop} (hp : (x == y) = false) (h : P') : ((x == y) = true → P) ∧ ((x == y) = false → P') := ⟨fun e => (by rw [hp] at e; cases e), fun _ => h⟩
theorem and_strn_t {x y : Str} {P P' : Prop} (hp : (x != y) = true) (h : P) : ((x != y) = true → P) ∧ ((x != y) = false → P') := ⟨fun _ => h, fun e => by rw [hp] at e; cases e⟩
theorem and_strn_f {x y : Str} {P P' : Prop} (hp : (x != y) = false) (h : P') : ((x != y) = true → P) ∧ ((x != y) = false → P') := ⟨fun e => (by rw [hp] at e; cases e), fun _ => h⟩
theorem and_b_t {b : Bool} {P P' : Prop} (hp : b = true) (h : P) : (b = true → P) ∧ (b = false → P') := ⟨fun _ => h, fun e => by rw [hp] at e; cases e⟩
theorem and_b_f {b : Bool} {P P' : Prop} (hp : b = false) (h : P') : (b = true → P) ∧ (b = false → P') := ⟨fun e => (by rw [hp] at e; cases e), fun _ => h⟩
inductive SL : List AV → List Str → Prop
  | nil : SL [] []
  | cons {x xs ys} : SL xs ys → SL (.str x :: xs) (x :: ys)
theorem SL.eq {xs : List AV} {ys : List Str} (h : SL xs ys) : xs = ys.map .str := by
  induction h with
  | nil => rfl
  | cons _ ih => rw [List.map_cons, ih]
theorem ex_bool {e : Bool} {P : Bool → Prop} (h : P e) : ∃ b, AV.bool e = AV.bool b ∧ P b := ⟨e, rfl, h⟩
theorem and_none {P : Prop} (h : P) : AV.none = AV.none ∧ P := ⟨rfl, h⟩
theorem and_len {n : Nat} {P : Prop} (hz : n ≤ 16777216) (h : P) : n ≤ 16777216 ∧ P := ⟨hz, h⟩
section
variable {w : World} {id : String} {P : Prop} {a : Addr} {k : Nat}
theorem keep_and_b (h : P) : KeepQ w (.raw (.builtin id)) ∧ P := ⟨keep_builtin, h⟩
theorem keep_and_t (h : P) : KeepQ w (.raw (.type id)) ∧ P := ⟨keep_type, h⟩
theorem keep_and_f (hk : keepIn (hd.heap_39 w.params) (.ref a) = true) (h : P) : KeepQ w (rf a) ∧ P := ⟨keep_fn hk, h⟩
theorem keep_and_c (h : P) : KeepQ w (.clo k a) ∧ P := ⟨keep_clo, h⟩
end
theorem Cx.Ok.le {c : Cx} {n k : Nat} (h : c.Ok n) (hk : k ≤ n) : c.Ok k := ⟨h.frames, h.kind, by have := h.depth; omega, by have := h.units; omega⟩
section
variable {w : World} {b0 : Heap} {c : Cx} {m : Loc} {T : Store} {Q : AV → Loc → Store → Prop} {X : Addr → Loc → Store → Prop}
theorem i_tup0 {a : AV} {r : List AV} (h : Q a m T) : ItemQ w b0 c (.tup (a :: r)) (.int 0) m T Q X := i_tup (n := 0) (by unfold seqIndex?; simp <;> omega) rfl h
theorem i_tup1 {x a : AV} {r : List AV} (h : Q a m T) : ItemQ w b0 c (.tup (x :: a :: r)) (.int 1) m T Q X := i_tup (n := 1) (by unfold seqIndex?; simp <;> omega) rfl h
theorem i_tup2 {x y a : AV} {r : List AV} (h : Q a m T) : ItemQ w b0 c (.tup (x :: y :: a :: r)) (.int 2) m T Q X := i_tup (n := 2) (by unfold seqIndex?; simp <;> omega) rfl h
theorem i_tupk {xs : List AV} {k : Int} {a : AV} (h0 : 0 ≤ k) (hk : k < 2 ^ 62) (hn : xs[k.toNat]? = some a) (h : Q a m T) : ItemQ w b0 c (.tup xs) (.int k) m T Q X := i_tup (n := k.toNat) (by
  have := (List.getElem?_eq_some_iff.mp hn).1
  unfold seqIndex?
  simp <;> omega) hn h (by omega) (by omega)
variable {QF : FA → Loc → Store → Prop}
theorem ktb {Qb : Bool → Loc → Store → Prop} {e : Bool} (h : Qb e m T) : KTb Qb (.bool e) m T := ⟨e, rfl, h⟩
theorem kch {Qb : Bool → Loc → Store → Prop} {o : CmpOp} {r : Expr} {b : AV} {e : Bool} (h : (e = false → Qb false m T) ∧ (e = true → WE w b0 c r m T (KC2 w b0 c X o (KTb Qb) b) X)) : KCh3 w b0 c X Qb o r b (.bool e) m T := ⟨e, rfl, h⟩
theorem kex (h : QF .next m T) : KEx QF .none m T := ⟨rfl, h⟩
theorem ktu {xs : List AV} (hz : xs.length ≤ 16777216) (h : Q (.tup xs) m T) : KTu Q xs m T := ⟨hz, h⟩
theorem kli {xs : List AV} (hz : xs.length ≤ 16777216) (h : ∀ z, Q (rf z) m ((z, .list xs) :: T)) : KLi Q xs m T := ⟨hz, h⟩
theorem s_unpack2 {x y : Str} {px py tp p : Pos} {k : Nat} {e : Expr} (hh : c.A.handled = none) (hk : c.env.scope.kind = .function) (h : WE w b0 c e m T (KNs c QF [x, y]) X)
    (hs : swapsWithSole [.Tuple [.Name x px, .Name y py] k tp] e p.line c.env = pure false) (hw : swappedStores [.Tuple [.Name x px, .Name y py] k tp] e c.env = pure none) : WS w b0 c (.Assign [.Tuple [.Name x px, .Name y py] k tp] e p) m T QF X := s_unpack [x, y] rfl hh hk h hs hw
theorem s_unpack3 {x y z : Str} {px py pz tp p : Pos} {k : Nat} {e : Expr} (hh : c.A.handled = none) (hk : c.env.scope.kind = .function) (h : WE w b0 c e m T (KNs c QF [x, y, z]) X)
    (hs : swapsWithSole [.Tuple [.Name x px, .Name y py, .Name z pz] k tp] e p.line c.env = pure false) (hw : swappedStores [.Tuple [.Name x px, .Name y py, .Name z pz] k tp] e c.env = pure none) : WS w b0 c (.Assign [.Tuple [.Name x px, .Name y py, .Name z pz] k tp] e p) m T QF X := s_unpack [x, y, z] rfl hh hk h hs hw
theorem s_unpack4 {x y z u : Str} {px py pz pu tp p : Pos} {k : Nat} {e : Expr} (hh : c.A.handled = none) (hk : c.env.scope.kind = .function) (h : WE w b0 c e m T (KNs c QF [x, y, z, u]) X)
    (hs : swapsWithSole [.Tuple [.Name x px, .Name y py, .Name z pz, .Name u pu] k tp] e p.line c.env = pure false) (hw : swappedStores [.Tuple [.Name x px, .Name y py, .Name z pz, .Name u pu] k tp] e c.env = pure none) : WS w b0 c (.Assign [.Tuple [.Name x px, .Name y py, .Name z pz, .Name u pu] k tp] e p) m T QF X := s_unpack [x, y, z, u] rfl hh hk h hs hw
theorem ku2 {x y : Str} {v a b : AV} {m0 m1 m2 : Loc} {T0 T1 T2 : Store} (hu : UP T0 v [a, b]) (na : NS c x a m0 T0 m1 T1) (nb : NS c y b m1 T1 m2 T2) (h : QF .next m2 T2) : KNs c QF [x, y] v m0 T0 := ⟨_, _, _, hu, rfl, (.cons na (.cons nb .nil)), h⟩
theorem ku3 {x y z : Str} {v a b d : AV} {m0 m1 m2 m3 : Loc} {T0 T1 T2 T3 : Store} (hu : UP T0 v [a, b, d]) (na : NS c x a m0 T0 m1 T1) (nb : NS c y b m1 T1 m2 T2) (nc : NS c z d m2 T2 m3 T3) (h : QF .next m3 T3) : KNs c QF [x, y, z] v m0 T0 := ⟨_, _, _, hu, rfl, (.cons na (.cons nb (.cons nc .nil))), h⟩
theorem ku4 {x y z u : Str} {v a b d f : AV} {m0 m1 m2 m3 m4 : Loc} {T0 T1 T2 T3 T4 : Store} (hu : UP T0 v [a, b, d, f]) (na : NS c x a m0 T0 m1 T1) (nb : NS c y b m1 T1 m2 T2) (nc : NS c z d m2 T2 m3 T3) (nd : NS c u f m3 T3 m4 T4) (h : QF .next m4 T4) : KNs c QF [x, y, z, u] v m0 T0 := ⟨_, _, _, hu, rfl, (.cons na (.cons nb (.cons nc (.cons nd .nil)))), h⟩
theorem s_swap2 {x y : Str} {px py tp p : Pos} {k k' : Nat} {e₁ e₂ : Expr} {p' : Pos} (hh : c.A.handled = none) (hk : c.env.scope.kind = .function) (h : WE w b0 c (.Tuple [e₁, e₂] k' p') m T (KNr c QF [x, y]) X)
    (hs : swapsWithSole [.Tuple [.Name x px, .Name y py] k tp] (.Tuple [e₁, e₂] k' p') p.line c.env = pure false) (hw : swappedStores [.Tuple [.Name x px, .Name y py] k tp] (.Tuple [e₁, e₂] k' p') c.env = pure (some [x, y])) : WS w b0 c (.Assign [.Tuple [.Name x px, .Name y py] k tp] (.Tuple [e₁, e₂] k' p') p) m T QF X := s_swapped [x, y] hh hk h hs hw
theorem ks2 {x y : Str} {v a b : AV} {m0 m1 m2 : Loc} {T0 T1 T2 : Store} (hu : UP T0 v [a, b]) (na : NS c y b m0 T0 m1 T1) (nb : NS c x a m1 T1 m2 T2) (h : QF .next m2 T2) : KNr c QF [x, y] v m0 T0 := ⟨_, _, _, hu, rfl, (.cons na (.cons nb .nil)), h⟩
theorem kind_cf {b : Option NameKind} (h : (b == some .cell || b == some .free) = true) : b = some .cell ∨ b = some .free := by
  simpa using h
theorem e_cf {x : Str} {pos : Pos} {a : AV} {ca : Addr} (hc : CL x ca c.env.cells) (hm : (ca, .cell (some a)) ∈ T) (hk : c.env.scope.kind = .function) (hx : (c.env.kindOf x == some .cell || c.env.kindOf x == some .free) = true)
    (hd : (x == ("__debug__" : Str)) = false) (hn : (x == ("__classdict__" : Str)) = false) (h : Q a m T) : WE w b0 c (.Name x pos) m T Q X := by
  rcases kind_cf hx with q | q
  · exact e_cell hk q hc hm h hd
  · exact e_free hk q hc hm h hd hn
theorem e_cf0 {x : Str} {pos : Pos} {a : AV} {ca : Addr} (hi : c.inn = none) (hc : CL x ca c.cl) (hm : (ca, .cell (some a)) ∈ T) (hk : c.env.scope.kind = .function) (hx : (c.env.kindOf x == some .cell || c.env.kindOf x == some .free) = true)
    (hd : (x == ("__debug__" : Str)) = false) (hn : (x == ("__classdict__" : Str)) = false) (h : Q a m T) : WE w b0 c (.Name x pos) m T Q X :=
  e_cf (by unfold Cx.env; rw [hi]; exact hc) hm hk hx hd hn h
theorem e_cf1 {x : Str} {pos : Pos} {a : AV} {ca C' : Addr} {sc : Scope} {cl : List (Str × Addr)} (hi : c.inn = some (sc, C', cl)) (hc : CL x ca cl) (hm : (ca, .cell (some a)) ∈ T) (hk : c.env.scope.kind = .function) (hx : (c.env.kindOf x == some .cell || c.env.kindOf x == some .free) = true)
    (hd : (x == ("__debug__" : Str)) = false) (hn : (x == ("__classdict__" : Str)) = false) (h : Q a m T) : WE w b0 c (.Name x pos) m T Q X :=
  e_cf (by unfold Cx.env; rw [hi]; exact hc) hm hk hx hd hn h
theorem NS.cell0 {x : Str} {a : AV} {ca : Addr} {o : Option AV} {m : Loc} {T T' : Store} (hi : c.inn = none) (hc : CL x ca c.cl) (U : TU ca (.cell o) (.cell (some a)) T T') (hx : c.env.kindOf x = some .cell) : NS c x a m T m T' :=
  .cell hx (CL.lookup (by unfold Cx.env; rw [hi]; exact hc)) U
theorem c_in {x : Str} {xs : List AV} {ys : List Str} (he : SL xs ys) (h : Q (.bool (ys.any (· == x))) m T) : CmpQ w b0 c .In (.str x) (.tup xs) m T Q X := c_inS he.eq h
theorem callM1 {f a : AV} {xs : List AV} (h : CallQ w b0 c f (a :: xs) m T Q X) : CallQ w b0 c f ([a] ++ xs) m T Q X := h
theorem callM0 {f : AV} {xs : List AV} (h : CallQ w b0 c f xs m T Q X) : CallQ w b0 c f ([] ++ xs) m T Q X := h
theorem TU.mem2 {a : Addr} {o o' : AO} {T T' : Store} (h : TU a o o' T T') : (a, o') ∈ T' := by
  obtain ⟨x, y, rfl, rfl⟩ := h.split
  exact List.mem_append_right _ (.head _)
theorem TU.other {a b : Addr} {o o' p : AO} {T T' : Store} (h : TU a o o' T T') (hb : (b, p) ∈ T) (hne : p ≠ o ∨ b ≠ a) : (b, p) ∈ T' := by
  obtain ⟨x, y, rfl, rfl⟩ := h.split
  rcases List.mem_append.mp hb with q | q
  · exact List.mem_append_left _ q
  · rcases List.mem_cons.mp q with q | q
    · cases q; exact (hne.elim (fun z => z rfl) fun z => z rfl).elim
    · exact List.mem_append_right _ (.tail _ q)
theorem wc_cloK {n k : Nat} {hn : Bool} {cA fa : Addr} {xs : List AV} {Q : AV → Store → Prop} {X : Addr → Store → Prop} {name qual nm var : Str} {params ar : Arguments} {bl bd : List Stmt} {scope sc : Scope} {dV kV doc pm cdv ct oc : Value} {an od : Option Addr} {osl : Array (Option Value)} {dc : List Expr} {rt : Option Expr} {tp : List TypeParam} {ts : Option Scope} {bn : Str} {ps : Pos} {m₀ : Loc} {T : Store} (G : Gd w b0)
    (ho : (hd.heap_39 w.params).lookup 431 = some ⟨oc, od, .func (fnOf name qual params bl scope dV kV doc pm an cdv ct), osl⟩) (hbl : bl[k]? = some (.FunctionDef nm ar bd dc rt tp sc ts bn ps))
    (hcf : CF k = ⟨nm, Str.ofString "_law_deeds.<locals>." ++ nm, ar, bd, sc, Str.ofString "log"⟩)
    (hb : ∀ (s : Shared) vs doc pm cdv ct, RVs s.heap vs xs → ∃ binds, BindsTo s (fnX nm (Str.ofString "_law_deeds.<locals>." ++ nm) ar bd sc [(Str.ofString "log", cA)] .none .none doc pm none cdv ct) ⟨vs, []⟩ binds ∧ (∀ y ∈ binds, sc.names.lookup y.1 = some .local) ∧ ∀ p ∈ m₀, ∃ v, binds.reverse.lookup p.1 = some v ∧ RV s.heap v p.2)
    (hs : (sc.names.all (fun x => !(x.2 == .cell)) && !sc.isCoroutine && !sc.isGenerator && sc.kind == .function) = true)
    (h : ∀ (L f : Addr) (cdv : Value) (fl : List Env) (A : Around), (Cx.mk (Str.ofString "_law_deeds.<locals>." ++ nm) sc L f cdv [(Str.ofString "log", cA)] fl A none).Ok n → (hn = true → A.handled = none) → WB w b0 ⟨Str.ofString "_law_deeds.<locals>." ++ nm, sc, L, f, cdv, [(Str.ofString "log", cA)], fl, A, none⟩ bd m₀ T (RetQ Q) (XQ X)) : WC w b0 (n + 1) hn (.clo k cA) xs T Q X :=
  wc_clo G hcf hb hs h
end
end
section
section
variable {w : World} {b0 : Heap} {c : Cx} {m : Loc} {T T' : Store} {s s₁ : Shared} {Q : AV → Loc → Store → Prop} {X : Addr → Loc → Store → Prop}
theorem notMod (G : Gd w b0) {h : Heap} (hb : b0.StaysIn h) : (h.objs.size == sysModules) = false := by
  have h1 := modules_low (G.nolimit.keeps hb)
  exact beq_eq_false_iff_ne.mpr (Nat.ne_of_gt h1)
theorem e_dict0 {p : Pos} (G : Gd w b0) (h : ∀ z, Q (rf z) m ((z, .idict []) :: T)) : WE w b0 c (.Dict [] [] p) m T Q X := ⟨fun s O _ => by
  refine wpAny_Dict_empty ?_
  have g := Grow.push s.heap { cls := .type "dict", data := .dict #[] }
  exact res_new (a := s.heap.objs.size) (o := .idict []) (tk := s.toks) O g ⟨notMod G O.1.stay, [], Heap.DictOf.new (knd := intKind pr w) s.heap, trivial⟩ (by simp [fp]) (fun x hx => by rw [List.mem_singleton.mp hx]; exact noneAt _ (Nat.le_refl _)) (.raw _) (h _)⟩
/-- pairs of a display with words as keys -/
inductive RPs (h : Heap) : List (Value × Value) → List (Str × AV) → Prop
  | nil : RPs h [] []
  | cons {x t v a r q} : RV h v a → RPs h r q → RPs h ((.str x t, v) :: r) ((x, a) :: q)
theorem RPs.keepI {h h' : Heap} (k : KeepI h h') {vs : List (Value × Value)} {kvs : List (Str × AV)} (r : RPs h vs kvs) : RPs h' vs kvs := by
  induction r with
  | nil => exact .nil
  | cons a _ ih => exact .cons (a.keepI k) ih
theorem RPs.prs {h : Heap} {vs : List (Value × Value)} {kvs : List (Str × AV)} (r : RPs h vs kvs) : ∃ kv, Carries (strKind pr w) vs kv ∧ Prs h kv kvs ∧ kv.map (·.1) = kvs.map (·.1) := by
  induction r with
  | nil => exact ⟨[], trivial, trivial, rfl⟩
  | @cons x t v a r q h1 _ ih =>
    obtain ⟨kv, h2, h3, h4⟩ := ih
    exact ⟨(x, v) :: kv, ⟨strKind_is pr w x t, rfl, h2⟩, ⟨rfl, h1, h3⟩, by rw [List.map_cons, List.map_cons, h4]⟩
noncomputable abbrev WPs (w : World) (b0 : Heap) (c : Cx) (ks : List (Option Expr)) (vs : List Expr) (p : Pos) := W w b0 c Tru RPs (evalPairs (pairTrees ks vs c.env p))
theorem dp_nil {p : Pos} {Qp : List (Str × AV) → Loc → Store → Prop} (h : Qp [] m T) : WPs w b0 c [] [] p m T Qp X := ⟨fun s O _ => pairTrees_nil_walk (res_same O .nil h)⟩
theorem dp_cons {k v : Expr} {ks : List (Option Expr)} {vs : List Expr} {p : Pos} {Qp : List (Str × AV) → Loc → Store → Prop} 
    (h : WE w b0 c k m T (fun ka m₁ T₁ => ∃ x, ka = .str x ∧ WE w b0 c v m₁ T₁ (fun a m₂ T₂ => WPs w b0 c ks vs p m₂ T₂ (fun q m₃ T₃ => Qp ((x, a) :: q) m₃ T₃) X) X) X) : WPs w b0 c (some k :: ks) (v :: vs) p m T Qp X := ⟨fun s O _ =>
  pairTrees_cons_walk (h.then s O trivial fun vk ka m₁ T₁ s₁ rk O₁ _ x₁ ⟨x, e, hq⟩ => by
    subst e
    refine rk.E ?_; intro _
    exact wp_back x₁ (W.then hq s₁ O₁ trivial fun va a m₂ T₂ s₂ ra O₂ k₂ x₂ hq₂ => wp_back (x₁.more x₂) (W.then hq₂ s₂ O₂ trivial fun vr r m₃ T₃ s₃ rr O₃ k₃ x₃ hq₃ =>
      (res_same (R := RPs) O₃ (.cons (ra.keepI k₃) rr) hq₃).back ((x₁.more x₂).more x₃))))⟩
theorem prs_nodup_merged {K : Type} [DecidableEq K] : ∀ {kvs : List (K × Value)}, (kvs.map (·.1)).Nodup → merged [] kvs = kvs := fun h => merged_nil_of_nodup _ h
theorem e_sdict {ks : List (Option Expr)} {vs : List Expr} {p : Pos} (G : Gd w b0) (hall : ks.all (·.isSome) = true) (hl : ks.length = vs.length) (h0 : ks ≠ []) (hlen : ks.length ≤ 15)
    (h : ∀ z, WPs w b0 c ks vs p m ((z, .sdict []) :: T) (fun kvs m₁ T₁ => (kvs.map (·.1)).Nodup ∧ ∃ T₂, TU z (.sdict []) (.sdict kvs) T₁ T₂ ∧ Q (rf z) m₁ T₂) X) : WE w b0 c (.Dict ks vs p) m T Q X := ⟨fun s O _ => by
  refine wpAny_Dict_walk (knd := strKind pr w) hall hl h0 hlen ?_
  have g := Grow.push s.heap { cls := .type "dict", data := .dict #[] }
  obtain ⟨b, m', T', hr, O', st, hq⟩ := res_new (R := RV) (v := .ref s.heap.objs.size) (b := rf s.heap.objs.size) (a := s.heap.objs.size) (o := .sdict []) (tk := s.toks) (Q := fun r m' T' => r = rf s.heap.objs.size ∧ m' = m ∧ T' = (s.heap.objs.size, .sdict []) :: T) O g ⟨notMod G O.1.stay, [], Heap.DictOf.new (knd := strKind pr w) s.heap, trivial⟩ (by simp [fp]) (fun x hx => by rw [List.mem_singleton.mp hx]; exact noneAt _ (Nat.le_refl _)) (.raw _) ⟨rfl, rfl, rfl⟩
  obtain ⟨rfl, rfl, rfl⟩ := hq
  refine wp_back st (W.then (h s.heap.objs.size) _ O' trivial fun vp kvs m₁ T₁ s₁ rp O₁ k₁ x₁ ⟨nd, T₂, U, hq⟩ => ?_)
  obtain ⟨kv, h1, h2, h3⟩ := RPs.prs (w := w) rp
  obtain ⟨lo, kv0, D, P0⟩ := O₁.1.rep _ U.mem
  obtain rfl : kv0 = [] := by cases kv0 with | nil => rfl | cons _ _ => exact P0.elim
  refine ⟨kv, h1, D, fun h' D' hs => ?_⟩
  rw [merged_nil_of_nodup _ (h3 ▸ nd)] at D'
  have k2 := turn1 (o := .sdict []) (o' := .sdict kvs) hs
  have ki := keepI_turn (O₁.1.rep _ U.mem) k2
  exact Res.back (st.more x₁) (res_turn (tk := s₁.toks + vp.length) O₁ U k2 ⟨lo, kv, D', h2.keepI ki⟩ rfl (.raw _) hq)⟩
/-- less is told than stands, of a call -/
noncomputable def DrC (Q : AV → Store → Prop) (r : AV) (T : Store) : Prop := ∃ T', Sb T' T ∧ Q r T'
noncomputable def DrX (X : Addr → Store → Prop) (C : Addr) (T : Store) : Prop := ∃ T', Sb T' T ∧ X C T'
theorem Stp.subl {fl : List Addr} {F' : List Addr} {T T' : Store} {s s' : Shared} (y : Stp fl (fps T') F' s s') (x : Sb T' T) : Stp fl (fps T) F' s s' :=
  ⟨fun b o e n => y.ext b o e fun q => n (x.fps _ q), y.alive, fun a ha => (y.new a ha).imp (x.fps _) id, y.gens, y.drawn, y.os⟩
theorem WC.drop {n : Nat} {hn : Bool} {f : AV} {xs : List AV} {Q : AV → Store → Prop} {X : Addr → Store → Prop} (h : WC w b0 n hn f xs T (DrC Q) (DrX X)) : WC w b0 n hn f xs T Q X := ⟨fun A fl s vf vs h1 h2 h3 h4 h5 h6 =>
  codeAny_mono (h.run A fl s vf vs h1 h2 h3 h4 h5 h6) fun r s' z => by
    refine EndC.elim z (fun ea C T' h2 h3 h4 h5 => ?_) fun v r T' h1 h2 h3 h4 => ?_
    · obtain ⟨T₂, h5, h6⟩ := h5
      exact ⟨ea, C, T₂, rfl, h2, h3.sub h5, h4.sub h5, h6⟩
    · obtain ⟨T₂, h4, h5⟩ := h4
      exact ⟨r, T₂, h1, h2.sub h4, h3.sub h4, h5⟩⟩
theorem WC.less {n : Nat} {hn : Bool} {f : AV} {xs : List AV} {Q : AV → Store → Prop} {X : Addr → Store → Prop} (h : WC w b0 n hn f xs T' Q X) (x : Sb T' T) : WC w b0 n hn f xs T Q X := ⟨fun A fl s vf vs h1 h2 h3 h4 h5 h6 =>
  codeAny_mono (h.run A fl s vf vs h1 h2 h3 (h4.sub x) h5 h6) fun r s' z => by
    refine EndC.elim z (fun ea C T' h2 h3 h4 h5 => ?_) fun v r T' h1 h2 h3 h4 => ?_
    · exact ⟨ea, C, T', rfl, h2, h3, h4.subl x, h5⟩
    · skip
      exact ⟨r, T', h1, h2, h3.subl x, h4⟩⟩
theorem Sb.pull {l r T : Store} {p : Addr × AO} (x : Sb (l ++ r) T) : Sb (l ++ p :: r) (p :: T) :=
  (Sb.ofPerm List.perm_middle).trans x.keep
/-- the store in another order -/
theorem W.perm {α β : Type} {P : Heap → Prop} {R : Heap → α → β → Prop} {t : Sem α} {Q : β → Loc → Store → Prop} {X : Addr → Loc → Store → Prop} (h : W w b0 c P R t m T' Q X) (x : Sb T' T) : W w b0 c P R t m T Q X := h.less (fun _ h => h) x
theorem nodup_of {l : List Str} (h : nodupB l = true) : l.Nodup := nodupB_of h
end
end
section
/-- a code object of that qualified name -/
noncomputable def CodeNow (h : Heap) (c' : Addr) (q : Str) : Prop := ∃ ok ks tq, h.get? c' = some ok ∧ ok.cls = .type "code" ∧ ok.data = .fields ks ∧ ks[1]? = some (.str q tq)
theorem Ents.triples {h : Heap} {l : List Value} {qs : List (Pos × Str)} (x : Ents h l qs) : TriplesOk l := by
  induction qs generalizing l with
  | nil => rw [show l = [] from x]; trivial
  | cons q qs ih =>
    obtain ⟨cc, rest, e, _, r⟩ := x
    have h1 := ih r
    rw [e]
    simpa [rawInt, TriplesOk] using h1
theorem Ents.snoc {h : Heap} {c' : Addr} {p : Pos} {q : Str} (n : CodeNow h c' q) {l : List Value} {qs : List (Pos × Str)} (x : Ents h l qs) : Ents h (l ++ [rawInt p.line, rawInt p.col, .ref c']) (qs ++ [(p, q)]) := by
  induction qs generalizing l with
  | nil => rw [show l = [] from x]; exact ⟨c', [], rfl, n, rfl⟩
  | cons q qs ih =>
    obtain ⟨cc, rest, e, y, r⟩ := x
    rw [e]
    exact ⟨cc, _, rfl, y, ih r⟩
noncomputable def posEq (p q : Pos) : Bool := p.line == q.line && p.col == q.col
theorem codeAmong_cons {pos p : Pos} {cc : Addr} {rest : List Value} : codeAmong pos (rawInt p.line :: rawInt p.col :: .ref cc :: rest) = if posEq p pos then some (.ref cc) else codeAmong pos rest := by
  have e : ((p.line : Int) == pos.line && (p.col : Int) == pos.col) = posEq p pos := by
    unfold posEq
    rw [Bool.eq_iff_iff]
    simp only [Bool.and_eq_true, beq_iff_eq]
    exact and_congr Int.ofNat_inj Int.ofNat_inj
  show (if ((p.line : Int) == pos.line && (p.col : Int) == pos.col) = true then _ else _) = _
  rw [e]
theorem Ents.none {h : Heap} {pos : Pos} {l : List Value} {qs : List (Pos × Str)} (x : Ents h l qs) (hn : (qs.all fun q => !posEq q.1 pos) = true) : codeAmong pos l = .none := by
  induction qs generalizing l with
  | nil => rw [show l = [] from x]; rfl
  | cons q qs ih =>
    obtain ⟨cc, rest, e, _, r⟩ := x
    rw [List.all_cons, Bool.and_eq_true] at hn
    rw [e, codeAmong_cons, if_neg (by have := hn.1; simpa using this)]
    exact ih r hn.2
theorem Ents.hit {h : Heap} {pos : Pos} {p : Pos × Str} {l : List Value} {qs : List (Pos × Str)} (x : Ents h l qs) (e : qs.find? (fun q => posEq q.1 pos) = some p) : ∃ c', codeAmong pos l = some (.ref c') ∧ CodeNow h c' p.2 := by
  induction qs generalizing l with
  | nil => cases e
  | cons q qs ih =>
    obtain ⟨cc, rest, e1, n, r⟩ := x
    rw [List.find?_cons] at e
    rw [e1, codeAmong_cons]
    cases hq : posEq q.1 pos with
    | true =>
      rw [hq] at e
      cases e
      exact ⟨cc, if_pos rfl, n⟩
    | false =>
      rw [hq] at e
      exact ih r e
section
variable {M : Model} {A : Around} {E : Value → Shared → Prop} {s : Shared} {name qual : Str} {params : Arguments} {body : List Stmt} {scope : Scope} {env : Env} {c P : Addr} {ps : Array Value} {pos : Pos} {firstLine : Nat} {mg : Str → Option Value} {q : Str × Addr} {Q : Value → Shared → Prop}
/-- an inner def made for the first time: one cell captured -/
theorem fn_first (hcl : closureFor scope env = pure [q]) (hge : env.globals = mainGlobals) (hg : s.heap.Ns mainGlobals mg) (hcode : env.code = .ref c) (C : CodeHd s.heap c P) (hP : s.heap.get? P = some (tabO ps)) (ht : TriplesOk ps.toList)
    (hnf : codeAmong pos ps.toList = none) (hgP : mainGlobals ≠ P) (hb : s.heap.BuiltinsAt mg P) (hdoc : docOf body = none)
    (h : ∀ c' ctv h' tk, Heap.ExtBut P s.heap h' → CodeNow h' c' qual → h'.get? P = some (tabO (ps ++ #[rawInt pos.line, rawInt pos.col, .ref c'])) →
      Q (.ref h'.objs.size) { s with heap := h'.push (fnMade name qual params body scope [q] .none ((mg "__name__").getD .none) c' ctv), toks := tk }) :
    wpAny M A (makeFunction name qual params (.stmts body) scope env [] [] [] pos firstLine) Q E s := by
  obtain ⟨bm, ob, hbm, hne0, _, hneP, hbo, hcls, hdict, hdata⟩ := hb
  rw [makeFunction_eq]
  simp only [List.zip_nil_right, List.filterMap_nil, List.isEmpty_nil, if_true, pure_bind]
  unfold makeTail
  rw [hcl, hge]
  refine wpAny_bind (wpAny_pure ?_)
  simp only [List.isEmpty_cons, Bool.false_eq_true, if_false]
  refine wpAny_bind (wpAny_newTextTuple ?_)
  have up : ∀ (o : Obj) (b : Addr) (ob : Obj), s.heap.get? b = some ob → (s.heap.push o).get? b = some ob := fun o b ob e => Heap.get?_push_of_some _ e
  refine wpAny_bind (wpAny_functionCodeX hcode ((C.keeps (up _)).code (up _ _ _ hP) ht) ((C.keeps (up _)).tab (up _ _ _ hP)) hnf fun c' h' tk hx hge' hlt _ hrec htb hnew => ?_)
  have hx' : Heap.ExtBut P s.heap h' := fun b o hb' e => hx b o hb' (up _ _ _ e)
  refine wpAny_bind (wpAny_builtinsFor ((hg.push _).extBut hx hgP) hbm hne0 (hx' _ _ hneP hbo) hcls hdict hdata ?_)
  refine wpAny_bind (wpAny_nsGet ((hg.push _).extBut hx hgP) ?_)
  rw [hdoc]
  have hn : CodeNow h' c' qual := by
    obtain ⟨c₂, o₂, vs₂, t₂, e₂, g₂, d₂, n₂⟩ := hrec
    cases e₂
    obtain ⟨P', _, _, ⟨oc, vc, g₃, k₃, _⟩, _⟩ := hnew
    rw [g₂] at g₃
    cases g₃
    exact ⟨o₂, vs₂, t₂, g₂, k₃, d₂, n₂⟩
  exact wpAny_bind (wpAny_pure (wpAny_newObj_type (h c' _ h' tk hx' hn htb.2) (by size_fits)))
end
section
variable {w : World} {b0 : Heap} {c : Cx} {m : Loc} {T T' : Store} {QF : FA → Loc → Store → Prop} {X : Addr → Loc → Store → Prop}
theorem Gd.bmain (G : Gd w b0) {P : Addr} (hP : b0.get? P = none) : ∃ mg, b0.Ns mainGlobals mg ∧ b0.BuiltinsAt mg P ∧ mainGlobals ≠ P := by
  obtain ⟨_, _, mean, mg, mb, T⟩ := G.T
  obtain ⟨bm, ob, b1, b2, b3, b4, b5, b6⟩ := T.bmain
  obtain ⟨o, es, ep, g1, g2, _⟩ := id T.g
  have hg : mainGlobals ≠ P := fun q => by rw [q, hP] at g1; cases g1
  refine ⟨mg, T.g, ⟨bm, ob, b1, b2, fun q => ?_, fun q => ?_, b3, b4, b5, b6⟩, hg⟩
  · rw [q, g1] at b3; cases b3; rw [g2] at b6; cases b6
  · rw [q, hP] at b3; cases b3
theorem builtinsAt_keep {h h' : Heap} {mg : Str → Option Value} {P : Addr} (x : h.BuiltinsAt mg P) (k : ∀ b o, h.get? b = some o → h'.get? b = some o) : h'.BuiltinsAt mg P :=
  by obtain ⟨bm, o, a1, a2, a3, a4, a5, r⟩ := x; exact ⟨bm, o, a1, a2, a3, a4, k _ _ a5, r⟩
/-- a def inside a def, made for the first time -/
theorem s_def {name qual var : Str} {params : Arguments} {body : List Stmt} {scope : Scope} {pos : Pos} {k : Nat} {cc P ca : Addr} {qs : List (Pos × Str)} (G : Gd w b0) (hi : c.inn = none) (hk : c.env.scope.kind = .function) (hcd : c.cd = .ref cc)
    (hC : codeHdIn (hd.heap_39 w.params) cc P = true) (hcf : CF k = ⟨name, qual, params, body, scope, var⟩) (hq : qualnameIn c.env name name = qual) (hcl : closureFor scope c.env = pure [(var, ca)]) (hdoc : docOf body = none)
    (hd0 : params.defaults = []) (hk0 : params.kw_defaults = []) (ha : annTrees params none c.env = []) (U : TU P (.tab qs) (.tab (qs ++ [(pos, qual)])) T T') (hn : (qs.all fun q => !posEq q.1 pos) = true)
    (h : ∃ m₂ T₂, NS c name (.clo k ca) m T' m₂ T₂ ∧ QF .next m₂ T₂) : WS w b0 c (.FunctionDef name params body [] none [] scope none name pos) m T QF X := ⟨fun s O _ => by
  obtain ⟨m₂, T₂, hN, hQ⟩ := h
  have KI := G.K.keeps O.1.stay
  have he : c.env = c.fenv := by unfold Cx.env; rw [hi]
  obtain ⟨ps, hP, hE⟩ := O.1.rep _ U.mem
  have hPn : b0.get? P = none := O.1.fresh P (mem_fps U.mem (.head _))
  obtain ⟨mg, hg, hb, hgP⟩ := G.bmain hPn
  refine nestDef_K hd0 hk0 ha ?_
  rw [hq]
  refine fn_first (c := cc) (P := P) (q := (var, ca)) (mg := mg) hcl c.globals (hg.keeps O.1.stay) (by rw [he]; exact hcd) (codeHd_of_K KI hC) hP hE.triples (hE.none hn) hgP (builtinsAt_keep hb O.1.stay) hdoc fun c' ctv h' tk hx hnw htb => ?_
  generalize hfo : fnMade name qual params body scope [(var, ca)] .none ((mg "__name__").getD .none) c' ctv = fo
  have k1 : ∀ b ob, b ∉ fp (P, .tab qs) → s.heap.get? b = some ob → (h'.push fo).get? b = some ob := fun b ob hb e =>
    Heap.get?_push_of_some _ (hx b ob (fun q => hb (q ▸ .head _)) e)
  have ki : KeepI s.heap (h'.push fo) := keepI_turn (O.1.rep _ U.mem) k1
  have hnw' : CodeNow (h'.push fo) c' qual := let ⟨ok, ks, tq, e, r⟩ := hnw; ⟨ok, ks, tq, Heap.get?_push_of_some _ e, r⟩
  have r : RO w (h'.push fo) P (.tab (qs ++ [(pos, qual)])) := ⟨_, Heap.get?_push_of_some _ htb, by
    have := Ents.snoc (p := pos) hnw' (hE.keepI ki)
    simpa using this⟩
  have O' := O.turn U k1 r rfl
  have st := stp_turn (s' := { s with heap := h'.push fo, toks := tk }) O U k1 r rfl
  have rv : RV (h'.push fo) (.ref h'.objs.size) (.clo k ca) := by
    obtain ⟨ok, ks, tq, e1, e2, e3, e4⟩ := hnw'
    subst hfo
    refine .clo (o := fnMade name qual params body scope [(var, ca)] .none ((mg "__name__").getD .none) c' ctv) (doc := .none) (pm := (mg "__name__").getD .none) (ct := ctv) (cc := c') (ok := ok) (ks := ks) (tq := tq) (Heap.get?_push_size _ rfl) ?_ e1 e2 e3 ?_
    · rw [hcf]
    · rw [hcf]; exact e4
  refine wp_bind (s := { s with heap := h'.push fo, toks := tk }) O' rv hN hk fun s' O₂ st₂ ki₂ => ?_
  exact ⟨.next, m₂, T₂, .next, O₂, st.more st₂, hQ⟩⟩
/-- .. and again -/
theorem s_defAgain {name qual var : Str} {params : Arguments} {body : List Stmt} {scope : Scope} {pos : Pos} {k : Nat} {cc P ca : Addr} {qs : List (Pos × Str)} (G : Gd w b0) (hi : c.inn = none) (hk : c.env.scope.kind = .function) (hcd : c.cd = .ref cc)
    (hC : codeHdIn (hd.heap_39 w.params) cc P = true) (hcf : CF k = ⟨name, qual, params, body, scope, var⟩) (hq : qualnameIn c.env name name = qual) (hcl : closureFor scope c.env = pure [(var, ca)]) (hdoc : docOf body = none)
    (hd0 : params.defaults = []) (hk0 : params.kw_defaults = []) (ha : annTrees params none c.env = []) (hm : (P, .tab qs) ∈ T) (hf : (qs.find? (fun q => posEq q.1 pos)).map (·.2) = some qual)
    (h : ∃ m₂ T₂, NS c name (.clo k ca) m T m₂ T₂ ∧ QF .next m₂ T₂) : WS w b0 c (.FunctionDef name params body [] none [] scope none name pos) m T QF X := ⟨fun s O _ => by
  obtain ⟨m₂, T₂, hN, hQ⟩ := h
  have KI := G.K.keeps O.1.stay
  have he : c.env = c.fenv := by unfold Cx.env; rw [hi]
  obtain ⟨ps, hP, hE⟩ := O.1.rep _ hm
  have hPn : b0.get? P = none := O.1.fresh P (mem_fps hm (.head _))
  obtain ⟨mg, hg, hb, hgP⟩ := G.bmain hPn
  obtain ⟨p₀, hf1, hf2⟩ := Option.map_eq_some_iff.mp hf
  obtain ⟨c', hc1, ok, ks, tq, e1, e2, e3, e4⟩ := hE.hit hf1
  rw [hf2] at e4
  refine nestDef_K hd0 hk0 ha ?_
  rw [hq]
  refine makeFunction_hit (c := cc) (P := P) (mg := mg) hcl c.globals (hg.keeps O.1.stay) (by rw [he]; exact hcd) (codeHd_of_K KI hC) hP hE.triples hc1 (builtinsAt_keep hb O.1.stay) fun ctv doc h' tk hx hsz => ?_
  generalize hfo : ({ cls := .type "function", data := .func (fnX name qual params body scope [(var, ca)] .none .none doc ((mg "__name__").getD .none) none (.ref c') ctv) } : Obj) = fo
  have g : Grow s.heap (h'.push fo) := fun b o e => Heap.get?_push_of_some _ (hx b o e)
  have O' := O.grow g
  have st : Stp (FLs c.fl) (c.C :: fps T) (fps T) s { s with heap := h'.push fo, toks := tk } := stp_same (s' := { s with heap := h'.push fo, toks := tk }) g
  have rv : RV (h'.push fo) (.ref h'.objs.size) (.clo k ca) := by
    subst hfo
    refine .clo (o := ({ cls := .type "function", data := .func (fnX name qual params body scope [(var, ca)] .none .none doc ((mg "__name__").getD .none) none (.ref c') ctv) } : Obj)) (doc := doc) (pm := (mg "__name__").getD .none) (ct := ctv) (cc := c') (ok := ok) (ks := ks) (tq := tq) (Heap.get?_push_size _ rfl) ?_ (g _ _ e1) e2 e3 ?_
    · rw [hcf]
    · rw [hcf]; exact e4
  refine wp_bind (s := { s with heap := h'.push fo, toks := tk }) O' rv hN hk fun s' O₂ st₂ ki₂ => ?_
  exact ⟨.next, m₂, T₂, .next, O₂, st.more st₂, hQ⟩⟩
end
end
section
/-! plain data -/
mutual
noncomputable def aDat : AV → Dat
  | .int i => .int i
  | .str x => .str x
  | .tup xs => .tuple (aDats xs)
  | _ => .bytes #[]
noncomputable def aDats : List AV → List Dat
  | [] => []
  | x :: xs => aDat x :: aDats xs
end
theorem aDats_eq : ∀ xs : List AV, aDats xs = xs.map aDat
  | [] => rfl
  | x :: xs => by rw [aDats, aDats_eq xs, List.map_cons]
noncomputable abbrev okA (n : Nat) (a : AV) : Prop := kqdOk n (aDat a) = true
theorem okNo {n : Nat} (h : kqdOk n (.bytes #[]) = true) : False := by cases n <;> simp [kqdOk] at h
theorem rdAs {h : Heap} {vs : List Value} {xs : List AV} (n : Nat) (r : RVs h vs xs) (hk : ∀ a ∈ xs, okA n a) : ∃ as, ReadsAll h vs (kqdPs (aDats xs)) as :=
  RVs.rec (motive_1 := fun v a _ => ∀ n, okA n a → ∃ as, Reads h v (kqdP (aDat a)) as) (motive_2 := fun vs xs _ => ∀ n, (∀ a ∈ xs, okA n a) → ∃ as, ReadsAll h vs (kqdPs (aDats xs)) as)
    (fun _ z => (okNo z).elim) (fun _ _ z => (okNo z).elim) (fun i t _ _ => ⟨_, Reads.int i t⟩) (fun x t _ _ => ⟨_, Reads.str x t⟩) (fun _ _ z => (okNo z).elim)
    (fun ht _ ih n hk => by
      cases n with
      | zero => simp [okA, aDat, kqdOk] at hk
      | succ n =>
        obtain ⟨as, q⟩ := ih n (by simpa [okA, aDat, kqdOk, aDats_eq] using hk)
        rw [aDat, kqdP]
        exact ⟨as, reads_tuple_at ht rfl rfl (by simpa using q)⟩)
    (fun _ _ _ _ _ _ _ z => (okNo z).elim) (fun _ _ z => (okNo z).elim) (fun _ _ => ⟨_, ReadsAll.nil⟩)
    (fun _ _ i1 i2 n hk => by
      obtain ⟨as, q⟩ := i1 n (hk _ (.head _))
      obtain ⟨bs, p⟩ := i2 n fun d hm => hk d (.tail _ hm)
      rw [aDats, kqdPs]
      exact ⟨_, ReadsAll.cons q p⟩) r n hk
section
variable {w : World} {b0 : Heap} {c : Cx} {m m₁ m' : Loc} {T T' T₁ T₂ : Store} {s s₁ s₂ : Shared} {Q : AV → Loc → Store → Prop} {X : Addr → Loc → Store → Prop}
/-- two lists that hold the same plain data -/
theorem c_eqlog {x y : Addr} {xs : List AV} {n : Nat} (hc : c.Ok n) (hx : (x, .list xs) ∈ T) (hy : (y, .list xs) ∈ T) (ho : ∀ a ∈ xs, okA 8 a) (h : Q (.bool true) m T) : CmpQ w b0 c .Eq (rf x) (rf y) m T Q X := fun va vb => ⟨fun s O ⟨ra, rb⟩ => by
  refine ra.E ?_; intro _; refine rb.E ?_; intro _
  obtain ⟨us, i, h1, r1⟩ := O.1.rep _ hx
  obtain ⟨vs, j, h2, r2⟩ := O.1.rep _ hy
  obtain ⟨as, q1⟩ := rdAs 8 r1 ho
  obtain ⟨bs, q2⟩ := rdAs 8 r2 ho
  have hk : kqdOk 9 (.list (aDats xs)) = true := by
    rw [aDats_eq]
    simpa [kqdOk] using ho
  have la := kqd_lay 9 (.list (aDats xs)) hk
  rw [kqdP] at la
  have e : PyData.eqv (.list (kqdPs (aDats xs))) (.list (kqdPs (aDats xs))) = true := by
    have q := kqd_eqv 9 (.list (aDats xs)) (.list (aDats xs)) 9 hk hk
    rw [kqdP] at q
    exact q.mpr rfl
  have sh : SeqAt.shaped (.list (kqdPs (aDats xs))) = true := by
    unfold SeqAt.shaped; rw [la.1, Bool.true_and]; exact decide_eq_true (Nat.le_trans la.2 (by decide))
  refine eq_dataH (reads_list_at h1 rfl rfl (by simpa using q1)) (reads_list_at h2 rfl rfl (by simpa using q2)) sh sh (by have := hc.units; omega) ?_
  rw [e]
  exact res_same O (.bool _) h⟩
/-- a slice of a list that is the base's own -/
theorem e_sliceB {v e : Expr} {sp pos : Pos} {x : Addr} {ws : List Value} {xs : List AV} (hb : b0.IsList x ws.toArray) (hr : ∀ h, RVs h ws xs) (hz : xs.length ≤ 16777216)
    (h : WE w b0 c v m T (fun a m₁ T₁ => WE w b0 c e m₁ T₁ (fun k m₂ T₂ => ∃ (n : Int), a = rf x ∧ k = .int n ∧ ∀ z, Q (rf z) m₂ ((z, .list (xs.take (kms_hi (some n) xs.length))) :: T₂)) X) X)
    (ht : ∀ o r, letTemporaryGo v o r = pure ()) : WE w b0 c (.Subscript v (.Slice none (some e) none sp) pos) m T Q X := ⟨fun s O _ => by
  refine wpAny_Subscript_Slice (T := "list") (id := "list.__getitem__") list_getitem_lookup (h.then s O trivial fun va a m₁ T₁ s₁ ra O₁ _ x₁ hr' => wp_back x₁ ?_) ht
  refine wpAny_Slice ?_
  refine wpAny_pure (W.then hr' s₁ O₁ trivial fun vb b m₂ T₂ s₂ rb O₂ k₂ x₂ ⟨n, e1, e2, hq⟩ => wpAny_pure ?_)
  subst e1 e2
  refine ra.E ?_; intro _
  cases rb with
  | int _ tn =>
  have h1 : s₂.heap.IsList x ws.toArray := let ⟨o, a, r⟩ := hb; ⟨o, O₂.1.stay _ _ a, r⟩
  have r1 := hr s₂.heap
  have g1 := Grow.push s₂.heap { cls := .type "slice", data := .fields #[.none, .int n tn, .none] }
  refine ⟨Heap.IsList.typeIs (s := { s₂ with heap := _ }) (h1.push _), ?_⟩
  refine wpAny_getItem_list_slice (h1.push _) (Heap.IsSliceOf.new ..) .none (.int _ _) .none (by simp) ?_ (by rw [List.size_toArray, r1.length, sizeLine_eq]; exact hz)
  rw [kms_pick_eq]
  have e : kms_pick ws.toArray.toList none (some n) = ws.take (kms_hi (some n) xs.length) := by
    unfold kms_pick
    simp [kms_lo, r1.length]
  rw [e]
  have g2 := Grow.push (s₂.heap.push { cls := .type "slice", data := .fields #[.none, .int n tn, .none] }) { cls := .type "list", data := .seq (ws.take (kms_hi (some n) xs.length)).toArray }
  have gg := g1.trans g2
  refine (res_new (c := c) (R := RV) (Q := Q) (a := (s₂.heap.push { cls := .type "slice", data := .fields #[.none, .int n tn, .none] }).objs.size) (o := .list (xs.take (kms_hi (some n) xs.length))) (tk := s₂.toks) O₂ gg ⟨_, 0, Heap.get?_push_size _ rfl, (hr _).take _⟩ (by simp [fp]) (fun y hy => ?_) (.raw _) (hq _)).back (x₁.more x₂)
  rw [List.mem_singleton.mp hy]
  exact noneAt _ (by rw [Heap.size_push]; omega)⟩
theorem intsRVs {h : Heap} {vs : List Value} {ns : List Int} (r : IntsAre vs ns) : RVs h vs (ns.map AV.int) := by
  induction r with
  | nil => exact .nil
  | cons _ _ _ ih => exact .cons (.int _ _) ih
end
end
section
/-- zeros struck at the end -/
noncomputable def strip (u : Int) : Nat → Int × Nat
  | 0 => (u, 0)
  | k + 1 => if Int.fmod u 10 = 0 then strip (Int.fdiv u 10) k else (u, k + 1)
noncomputable abbrev one30 : Int := 10 ^ 30
noncomputable def told (x : Int) : Int × Nat := strip x 30
theorem fdiv10 (u : Int) (h : Int.fmod u 10 = 0) : Int.fdiv u 10 * 10 = u := by
  rw [Int.fmod_eq_emod_of_nonneg _ (by decide)] at h
  rw [Int.fdiv_eq_ediv_of_nonneg _ (by decide)]
  omega
theorem strip_le (u : Int) (k : Nat) : (strip u k).2 ≤ k := by
  induction k generalizing u with
  | zero => exact Nat.le_refl 0
  | succ k ih =>
    unfold strip
    split
    · exact Nat.le_succ_of_le (ih _)
    · exact Nat.le_refl _
theorem strip_val (u : Int) (k : Nat) : (strip u k).1 * 10 ^ (k - (strip u k).2) = u := by
  induction k generalizing u with
  | zero => simp [strip]
  | succ k ih =>
    unfold strip
    split
    · rename_i h
      have h1 := ih (Int.fdiv u 10)
      have h2 := strip_le (Int.fdiv u 10) k
      rw [show k + 1 - (strip (Int.fdiv u 10) k).2 = (k - (strip (Int.fdiv u 10) k).2) + 1 by omega, Int.pow_succ, ← Int.mul_assoc, h1]
      exact fdiv10 u h
    · simp
theorem strip_ten (u : Int) (k : Nat) : strip (u * 10) (k + 1) = strip u k := by
  have h1 : Int.fmod (u * 10) 10 = 0 := by simp
  have h2 : Int.fdiv (u * 10) 10 = u := by simp
  rw [strip, if_pos h1, h2]
theorem strip_mul (u : Int) (k j : Nat) : strip (u * 10 ^ j) (k + j) = strip u k := by
  induction j with
  | zero => simp
  | succ j ih => rw [Int.pow_succ, ← Int.mul_assoc, show k + (j + 1) = (k + j) + 1 by omega, strip_ten, ih]
theorem told_of (u : Int) (k : Nat) (h : k ≤ 30) : told (u * 10 ^ (30 - k)) = strip u k := by
  have := strip_mul u k (30 - k)
  rw [show k + (30 - k) = 30 by omega] at this
  exact this
theorem told_le (x : Int) : (told x).2 ≤ 30 := strip_le x 30
theorem told_val (x : Int) : (told x).1 * 10 ^ (30 - (told x).2) = x := strip_val x 30
theorem told_int (k : Int) : told (k * one30) = (k, 0) := by
  have := told_of k 0 (by omega)
  rw [show 30 - 0 = 30 by omega] at this
  rw [show k * one30 = k * 10 ^ 30 by rfl, this]
  rfl
theorem told_zero {x : Int} : (told x).1 = 0 ↔ x = 0 := by
  constructor
  · intro h
    have := told_val x
    rw [h, Int.zero_mul] at this
    exact this.symm
  · rintro rfl
    have := told_int 0
    rw [Int.zero_mul] at this
    rw [this]
theorem told_small {x : Int} : (told x).1.natAbs ≤ x.natAbs := by
  have h := told_val x
  have h2 : ((told x).1 * 10 ^ (30 - (told x).2)).natAbs = x.natAbs := by rw [h]
  rw [Int.natAbs_mul] at h2
  have h3 : 1 ≤ ((10 : Int) ^ (30 - (told x).2)).natAbs := by
    rw [Int.natAbs_pow]
    exact Nat.pow_pos (n := 30 - (told x).2) (show 0 < Int.natAbs 10 by decide)
  calc (told x).1.natAbs = (told x).1.natAbs * 1 := (Nat.mul_one _).symm
    _ ≤ _ := Nat.mul_le_mul_left _ h3
    _ = _ := h2
theorem pow_add10 (a b : Nat) : (10 : Int) ^ (a + b) = 10 ^ a * 10 ^ b := Int.pow_add ..
theorem pow_pos10 (a : Nat) : (0 : Int) < 10 ^ a := Int.pow_pos (by decide)
/-- sums -/
theorem told_beside {a b : Int} {p q s : Nat} (hp : p ≤ s) (hq : q ≤ s) (hs : s ≤ 30) : told (a * 10 ^ (30 - p) + b * 10 ^ (30 - q)) = strip (a * 10 ^ (s - p) + b * 10 ^ (s - q)) s := by
  rw [← told_of _ s hs, Int.add_mul, Int.mul_assoc, Int.mul_assoc, ← pow_add10, ← pow_add10, show s - p + (30 - s) = 30 - p by omega, show s - q + (30 - s) = 30 - q by omega]
theorem told_beside_sub {a b : Int} {p q s : Nat} (hp : p ≤ s) (hq : q ≤ s) (hs : s ≤ 30) : told (a * 10 ^ (30 - p) - b * 10 ^ (30 - q)) = strip (a * 10 ^ (s - p) - b * 10 ^ (s - q)) s := by
  rw [← told_of _ s hs, Int.sub_mul, Int.mul_assoc, Int.mul_assoc, ← pow_add10, ← pow_add10, show s - p + (30 - s) = 30 - p by omega, show s - q + (30 - s) = 30 - q by omega]
/-- a cut by 10 ** 30 -/
noncomputable def cutA (x y : Int) : Int := Int.tdiv (x * y) one30
theorem cut_less {u : Int} {s : Nat} (hs : s ≤ 30) : Int.tdiv (u * 10 ^ (60 - s)) (10 ^ 30) = u * 10 ^ (30 - s) := by
  rw [show 60 - s = (30 - s) + 30 by omega, pow_add10, ← Int.mul_assoc]
  exact Int.mul_tdiv_cancel _ (Int.ne_of_gt (pow_pos10 30))
theorem cut_more {u : Int} {s : Nat} (hs : 30 < s) (hs' : s ≤ 60) : Int.tdiv (u * 10 ^ (60 - s)) (10 ^ 30) = Int.tdiv u (10 ^ (s - 30)) := by
  rw [show (10 : Int) ^ 30 = 10 ^ (s - 30) * 10 ^ (60 - s) by rw [← pow_add10]; congr 1; omega]
  exact Int.mul_tdiv_mul_of_pos_left _ _ (pow_pos10 _)
theorem prod_val (x y : Int) : x * y = ((told x).1 * (told y).1) * 10 ^ (60 - ((told x).2 + (told y).2)) := by
  have hx := told_val x
  have hy := told_val y
  have lx := told_le x
  have ly := told_le y
  rw [show 60 - ((told x).2 + (told y).2) = (30 - (told x).2) + (30 - (told y).2) by omega, pow_add10]
  have : (told x).1 * (told y).1 * (10 ^ (30 - (told x).2) * 10 ^ (30 - (told y).2)) = ((told x).1 * 10 ^ (30 - (told x).2)) * ((told y).1 * 10 ^ (30 - (told y).2)) := by
    rw [Int.mul_assoc, Int.mul_assoc, Int.mul_left_comm ((told y).1)]
  rw [this, hx, hy]
theorem quot_aux {a b : Int} {p q : Nat} (hp : p ≤ 30) (hq : q ≤ 30) : Int.tdiv (a * 10 ^ (30 + q)) (b * 10 ^ p) = Int.tdiv (a * 10 ^ (30 - p) * one30) (b * 10 ^ (30 - q)) := by
  have h1 : (a * 10 ^ (30 + q)) * 10 ^ 30 = (a * 10 ^ (30 - p) * one30) * 10 ^ (p + q) := by
    rw [show one30 = (10 : Int) ^ 30 from rfl]
    simp only [Int.mul_assoc, ← pow_add10]
    congr 2
    omega
  have h2 : (b * 10 ^ p) * 10 ^ 30 = (b * 10 ^ (30 - q)) * 10 ^ (p + q) := by
    simp only [Int.mul_assoc, ← pow_add10]
    congr 2
    omega
  rw [← Int.mul_tdiv_mul_of_pos_left (a * 10 ^ (30 + q)) (b * 10 ^ p) (pow_pos10 30), h1, h2]
  exact Int.mul_tdiv_mul_of_pos_left _ _ (pow_pos10 _)
theorem quot_val (x y : Int) : Int.tdiv ((told x).1 * 10 ^ (30 + (told y).2)) ((told y).1 * 10 ^ (told x).2) = Int.tdiv (x * one30) y := by
  rw [quot_aux (told_le x) (told_le y), told_val, told_val]
end
section
variable {w : World} {b0 : Heap} {c : Cx} {m : Loc} {T : Store} {Q : AV → Loc → Store → Prop} {X : Addr → Loc → Store → Prop}
theorem gE {x : Expr} (h : WE w b0 c x m T Q X) : WE w b0 c x m T Q X := h
theorem gS {x : Stmt} {Q : FA → Loc → Store → Prop} (h : WS w b0 c x m T Q X) : WS w b0 c x m T Q X := h
theorem gT {x : Expr} {Q : Bool → Loc → Store → Prop} (h : WT w b0 c x m T Q X) : WT w b0 c x m T Q X := h
theorem gC {f : AV} {xs : List AV} (h : CallQ w b0 c f xs m T Q X) : CallQ w b0 c f xs m T Q X := h
theorem gO1 {op : CmpOp} {a b : AV} (h : CmpQ w b0 c op a b m T Q X) : CmpQ w b0 c op a b m T Q X := h
theorem gO2 {op : Operator} {a b : AV} (h : BinQ w b0 c op a b m T Q X) : BinQ w b0 c op a b m T Q X := h
theorem gO3 {a : AV} {Q : Bool → Loc → Store → Prop} (h : TruQ w b0 c a m T Q X) : TruQ w b0 c a m T Q X := h
theorem gI {a k : AV} (h : ItemQ w b0 c a k m T Q X) : ItemQ w b0 c a k m T Q X := h
end
open Lean in
def wTac (c : Char) : MacroM (TSyntax `tactic) :=
  match c with
  | 'r' => `(tactic| exact rfl)
  | 'd' => `(tactic| decide)
  | 'o' => `(tactic| omega)
  | 'h' => `(tactic| first | assumption | exact ‹true = true → _› rfl)
  | 's' => `(tactic| first | omega | (simp only [List.length_append, List.length_cons, List.length_nil]; omega))
  | 'c' => `(tactic| exact fun _ _ => by constructor)
  | 'x' => `(tactic| with_unfolding_all rfl)
  | 'y' => `(tactic| exact fun _ _ => ⟨_, by with_unfolding_all rfl⟩)
  | 'j' => `(tactic| (intro _ _; with_unfolding_all rfl))
  | 'z' => `(tactic| exact of_decide_eq_true (by kernel_rfl))
  | 'n' => `(tactic| exact Nat.le_of_ble_eq_true (by kernel_rfl))
  | 'q' => `(tactic| repeat' (first | with_reducible exact SL.nil | with_reducible refine' SL.cons ?_))
  | _ =>
    let p := (("k tacticKernel_rfl kernel_rfl|m PyProof.Rows.tacticMem_news mem_news|t PyProof.Rows.tacticMem_news mem_news|u PySem.W.tacticK_made k_made|w PySem.W.tacticK_sweep k_sweep|v PySem.W.tacticK_inst k_inst|p PyProof.Rows.tacticOne_place one_place|f PySem.W.tacticK_fold k_fold|l PySem.W.tacticKst_mem kst_mem|i PySem.W.tacticK_is k_is|a Lean.Parser.Tactic.assumption assumption|b PyProof.Rows.tacticBoot_by_name boot_by_name|E PySem.W.tacticKe_read ke_read|S PySem.W.tacticKct_strs kct_strs|T PySem.W.tacticKeq_rows keq_rows|C PySem.W.tacticKat_tups kat_tups|O PySem.W.tacticKqd_in kqd_in|I PySem.W.tacticKqd_all kqd_all|M PySem.W.tacticKqd_sub kqd_sub|R PySem.W.tacticKas_types kas_types".splitOn "|").filter (·.startsWith (String.singleton c))).headD ""
    match p.splitOn " " with
    | [_, k, a] => pure ⟨Syntax.node .none k.toName #[Syntax.atom .none a]⟩
    | _ => Macro.throwUnsupported
open Lean in
def wTag (s : String) : Bool := s.length = 2 && s.back.isDigit && s.front.isLower && s.front != 'g'
open Lean in
def wOne (s : String) : MacroM (TSyntax `tactic) := do
  let n := mkIdent (Name.mkSimple s)
  let t ← wTac s.front
  `(tactic| first | (fail_if_success case' $n:ident => skip) | (case $n:ident => $t:tactic))
open Lean in
def wAll (r : List String) : MacroM (Array (TSyntax `tactic)) := do
  let r := r.filter wTag
  let l := "rwmvutpflihadsobcxyzjnqk".toList.flatMap fun c => r.filter (·.front == c)
  l.toArray.mapM wOne
open Lean in
def wArg (s : String) : MacroM (TSyntax `term) :=
  if s == "_" then `(?_)
  else if s == "-" then `(_)
  else if s == "G" then `(‹Gd _ _›)
  else if s == "C" then `(‹Cx.Ok _ _›)
  else if s == "L" then `(‹$(mkIdent `Mine.CellsOk) _›)
  else if s.startsWith "F" then do
    let r ← `(?_)
    (List.range (s.drop 1).toString.toNat!).foldlM (fun t _ => `(fun _ => $t)) r
  else if s.startsWith "#" then `($(mkIdent (s.drop 1).toString.toName) _)
  else if s.length ≤ 3 then do
    let n ← Macro.addMacroScope (Name.mkSimple s)
    `(?$(mkIdent n))
  else return mkIdent s.toName
open Lean in
def wAlt (s : String) : MacroM (TSyntax ``Lean.Parser.Tactic.tacticSeq) := do
  let p := s.splitOn "@"
  match p.headD "" |>.splitOn " " with
  | [] => Macro.throwUnsupported
  | n :: r =>
    let r := r.filter (· != "")
    let fn := n.startsWith "$"
    let f := mkIdent ((`Mine).append (if fn then (n.drop 1).toString else n).toName)
    let as ← r.toArray.mapM wArg
    let t ← if as.size = 0 then `($f) else `($f $as*)
    let t ← if fn then `(k_fn $t ‹Cx.Ok _ _› ?d1 ?a1) else pure t
    let cl ← wAll (if fn then "d1" :: "a1" :: r else r)
    let rot ← match p with
      | [_, k] => (do
        let k := Syntax.mkNumLit k
        return #[← `(tactic| rotate_left $k)])
      | _ => pure #[]
    let ts := #[← `(tactic| refine' $t:term)] ++ cl ++ rot
    `(tacticSeq| $[$ts:tactic]*)
open Lean in
def wFirst (s : String) : MacroM (TSyntax `tactic) := do
  let ts ← ((s.splitOn "|").toArray).mapM wAlt
  let ts := ts.push (← `(tacticSeq| fail))
  `(tactic| with_reducible first $[| $ts:tacticSeq]*)
open Lean in
def wDisp (s : String) : MacroM (TSyntax `tactic) := do
  let ts ← ((s.splitOn "|").toArray).mapM fun x =>
    match x.splitOn ":" with
    | [g, k] => do
      let g := mkIdent ((`Mine).append g.toName)
      let k ← wTac k.front
      `(tacticSeq| ((fail_if_success fail_if_success with_reducible apply $g:ident); $k:tactic))
    | _ => do
      if x.length = 1 then
        let k ← wTac x.front
        `(tacticSeq| $k:tactic)
      else
        let k ← wFirst (x.replace ";" "|")
        `(tacticSeq| $k:tactic)
  `(tactic| first $[| $ts:tacticSeq]*)
open Lean in
local macro_rules | `(tactic| keq_hits) => do let ts ← wAll ("r1 w1 m1 m2 m3 m4 v1 u1 t1 t2 t3 p1 f1 f2 f3 f4 l1 i1 i2 i3 i4 h1 a1 a2 d1 d2 s1 o1 o2 o3 o4 b1 c1 x1 y1 z1 n1 q1 k1 k2 k3 k4".splitOn " "); `(tactic| ($[$ts:tactic]*))
local macro_rules | `(tactic| mem_news) => `(tactic| first | with_reducible exact mem_h | (with_reducible refine mem_t ?_; mem_news) | assumption)
local macro_rules | `(tactic| one_place) => wFirst "LU.nil|LU.hit k1|LU.miss k1 p1"
local macro_rules | `(tactic| k_made) => `(tactic| first
  | with_reducible exact TU.head
  | (with_reducible refine' TU.tail ?ut; (case ut => k_made))
  | assumption)
local macro_rules | `(tactic| k_sweep) => wFirst "CL.head|CL.tail k1 w1"
local macro_rules | `(tactic| kst_mem) => wFirst "LG.head|LG.tail k1 l1"
local macro_rules | `(tactic| k_fold) => wFirst "NS.cell0 r1 w1 u1 k1|NS.loc k1 p1"
local macro_rules | `(tactic| k_whole) => `(tactic| first
  | with_reducible exact sub_nil
  | (with_reducible refine sub_cons ?_ ?_; mem_news; k_whole))
local macro_rules | `(tactic| k_inst) => wFirst "UP.tup|UP.list m1"
local macro_rules | `(tactic| kas_types) => wFirst "keep_and_b _|keep_and_t _|keep_and_f i1 _|keep_and_c _|lq _|lr _|nr _|rq _|rq0 _|ku4 v1 f1 f2 f3 f4 _|ku3 v1 f1 f2 f3 _|ku2 v1 f1 f2 _|ks2 v1 f1 f2 _|kas f1 _|ktb _|kch _|kex _|ktu n1 _|and_tt _|and_ff _|and_flip _|and_dec_t o1 _|and_dec_f o1 _|and_beq_t o1 _|and_beq_f o1 _|and_bne_t o1 _|and_bne_f o1 _|and_b_t d1 _|and_b_f d1 _|and_both F1 F1"
local macro_rules | `(tactic| kqd_sub) => wFirst "me_list m1 slot_list_append k1 _|me_list m1 PySem.F.slot_list_pop k1 _|me_list m1 PySem.F.slot_list_extend k1 _|me_dict m1 PySem.F.slot_dict_get k1 _"
local macro_rules | `(tactic| kqd_all) => wFirst "i_tup0 _|i_tup1 _|i_tup2 _"
local macro_rules | `(tactic| kqd_in) => `(tactic| with_reducible first
  | (refine' b_div ?hz ?hj ?_; (first | ((case hz => first | omega | assumption); (rotate_left)) | (rotate_left 2)))
  | (refine' b_mod ?hz ?_; (first | (case hz => first | omega | assumption) | (rotate_left)))
  | fail)
local macro_rules | `(tactic| kqd_in) => wFirst "b_add _|b_sub _|b_mul g1 _@1|b_pow g1 g2 _@2|u_neg _|u_not _|c_eq _|c_ne _|c_lt _|c_le _|c_gt _|c_ge _|c_eqs _|c_nes _|c_neb _|c_in q1 _|c_isnone _|c_isnone_int _|c_isnone_ref _|tr_bool _"
local macro_rules | `(tactic| kat_tups) => wFirst "k_abs _|k_max h1 _|callM1 _|callM0 _|k_append u1 s1 _|k_pop u1 s1 _|k_lenl m1 s1 _|k_lent s1 _"
local macro_rules | `(tactic| keq_rows) => wFirst "t_cmp _ k1|t_chain2 _ k1|t_not _|t_and _|t_or _|t_and0 _|t_or0 _|t_plain _ k1"
local macro_rules | `(tactic| kct_strs) => wFirst "s_assign _ k1 k2|s_swap2 h1 k3 _ k1 k2|s_unpack2 h1 k3 _ k1 k2|s_unpack3 h1 k3 _ k1 k2|s_unpack4 h1 k3 _ k1 k2|s_ret _|s_if _|s_raise G #ownSize i2 i3 i1 C d1 h1 k1 k2 _|s_raise G #ownRun i2 i3 i1 C d1 h1 k1 k2 _|s_raise G #ownStep i2 i3 i1 C d1 h1 k1 k2 _|s_expr _ k1 k2|s_assignA _ k1|s_assignI _ k1"
local macro_rules | `(tactic| ke_read) => wFirst "e_local m1 k1 k2 _ k3|e_cf0 r1 w1 m1 k1 k2 k3 k4 _|e_cf1 r1 w1 m1 k1 k2 k3 k4 _|e_global G i1 c1 _ k1 k2 k3|e_builtin G i1 b1 d1 _ k1 k2 k3|e_int _|e_str _|e_none _|e_bool _|e_bin _|e_un _|e_cmp _ k1|e_if _|e_callN G _ k1|e_callM G _ x1 k1|e_callS G _ k1|e_item _ y1|e_attrN _|e_attrA _|e_attrS _|e_attrC _|e_tup _|e_list _|e_and _|e_or _|e_one _"
local macro_rules | `(tactic| cell_call) => wDisp "gE:E|nx _;es_cons _ k1;es_nil _;b_cons _;b_nil _|gI:I|gC:C|gS:S|gO1:O|gO2:O|gT:T|gO3:O|R|M|O"
section
theorem fdiv_nat (a b : Nat) : Int.fdiv (a : Int) (b : Int) = ((a / b : Nat) : Int) := by
  rw [Int.fdiv_eq_ediv_of_nonneg _ (Int.natCast_nonneg b)]; rfl
theorem cut_neg {x y : Int} (h : (decide (x < 0) != decide (y < 0)) = true) : -(Int.fdiv (x.natAbs : Int) (y.natAbs : Int)) = Int.tdiv x y := by
  rw [fdiv_nat]
  rcases Int.lt_or_le x 0 with hx | hx <;> rcases Int.lt_or_le y 0 with hy | hy
  · simp [hx, hy] at h
  · obtain ⟨a, rfl⟩ := Int.eq_ofNat_of_zero_le hy
    obtain ⟨b, hb⟩ := Int.eq_ofNat_of_zero_le (show 0 ≤ -x by omega)
    obtain rfl : x = -(b : Int) := by omega
    simp [Int.neg_tdiv, Int.tdiv_eq_ediv_of_nonneg]
  · obtain ⟨a, rfl⟩ := Int.eq_ofNat_of_zero_le hx
    obtain ⟨b, hb⟩ := Int.eq_ofNat_of_zero_le (show 0 ≤ -y by omega)
    obtain rfl : y = -(b : Int) := by omega
    simp [Int.tdiv_neg, Int.tdiv_eq_ediv_of_nonneg]
  · simp [Int.not_lt.mpr hx, Int.not_lt.mpr hy] at h
theorem cut_pos {x y : Int} (h : (decide (x < 0) != decide (y < 0)) = false) : Int.fdiv (x.natAbs : Int) (y.natAbs : Int) = Int.tdiv x y := by
  rw [fdiv_nat]
  rcases Int.lt_or_le x 0 with hx | hx <;> rcases Int.lt_or_le y 0 with hy | hy
  · obtain ⟨a, ha⟩ := Int.eq_ofNat_of_zero_le (show 0 ≤ -x by omega)
    obtain rfl : x = -(a : Int) := by omega
    obtain ⟨b, hb⟩ := Int.eq_ofNat_of_zero_le (show 0 ≤ -y by omega)
    obtain rfl : y = -(b : Int) := by omega
    simp [Int.neg_tdiv, Int.tdiv_neg, Int.tdiv_eq_ediv_of_nonneg]
  · simp [hx, Int.not_lt.mpr hy] at h
  · simp [hy, Int.not_lt.mpr hx] at h
  · obtain ⟨a, rfl⟩ := Int.eq_ofNat_of_zero_le hx
    obtain ⟨b, rfl⟩ := Int.eq_ofNat_of_zero_le hy
    simp [Int.tdiv_eq_ediv_of_nonneg]
theorem Small.natAbs {y : Int} (h : Small y) : Small (y.natAbs : Int) := by unfold Small at *; simpa using h
variable {w : World} {b0 : Heap} {T : Store} {Q : AV → Store → Prop} {X : Addr → Store → Prop}
set_option maxHeartbeats 1000000
theorem law_cut (G : Gd w b0) {x y : Int} (hy : y ≠ 0) (hs : Small y) (h : Q (.int (Int.tdiv x y)) T) : WC w b0 1 true (rf 445) [.int x, .int y] T Q X := by
  refine' wc_def2 (n₁ := Str.ofString "top") (n₂ := Str.ofString "bottom") G ?ho ?hcd ?hb ?hs ?hl ?_
  case ho => k_is
  case hcd => k_is
  case hb => exact fun _ _ _ _ => BindsTo.of_eq rfl
  case hs => kernel_rfl
  case hl => kernel_rfl
  intro L fl A hc hh
  repeat' cell_call
  · rw [cut_neg ‹_›]; exact h
  · rw [cut_pos ‹_›]; exact h
  · exact hs.natAbs
theorem prog_cut (G : Gd w b0) {x y : Int} (hy : y ≠ 0) (hs : Small y) (h : Q (.int (Int.tdiv x y)) T) : WC w b0 1 true (rf 86) [.int x, .int y] T Q X := by
  refine' wc_def2 (n₁ := Str.ofString "top") (n₂ := Str.ofString "bottom") G ?ho ?hcd ?hb ?hs ?hl ?_
  case ho => k_is
  case hcd => k_is
  case hb => exact fun _ _ _ _ => BindsTo.of_eq rfl
  case hs => kernel_rfl
  case hl => kernel_rfl
  intro L fl A hc hh
  repeat' cell_call
  · rw [cut_neg ‹_›]; exact h
  · exact hs.natAbs
  · rw [cut_pos ‹_›]; exact h
  · exact hs.natAbs
noncomputable abbrev dec (p : Int × Nat) : AV := .tup [.int p.1, .int p.2]
theorem small10 : Small 10 := by unfold Small; decide
theorem decimal_k (G : Gd w b0) {u : Int} {k : Nat} (h : Q (dec (strip u k)) T) : WC w b0 1 true (rf 94) [.int u, .int k] T Q X := by
  refine' wc_def2 (n₁ := Str.ofString "units") (n₂ := Str.ofString "scale") G ?ho ?hcd ?hb ?hs ?hl ?_
  case ho => k_is
  case hcd => k_is
  case hb => exact fun _ _ _ KI => binds_K (K := hd.heap_39 w.params) KI rfl (by k_is) rfl rfl rfl
  case hs => kernel_rfl
  case hl => kernel_rfl
  intro L fl A hc hh
  repeat' cell_call
  · refine s_while rfl hc.frames (fun n m T' => ∃ (u' : Int) (k' : Nat), m = [(Str.ofString "units", .int u'), (Str.ofString "scale", .int k')] ∧ T' = T ∧ strip u' k' = strip u k ∧ n = k') k ⟨u, k, rfl, rfl, rfl, rfl⟩ ?_
    rintro n m T' ⟨u', k', rfl, rfl, e, rfl⟩
    repeat' cell_call
    · rename_i h1 h2
      simp only [decide_eq_true_eq, beq_iff_eq] at h1 h2
      obtain ⟨n, rfl⟩ : ∃ k, n = k + 1 := ⟨n - 1, by omega⟩
      refine ⟨n, Nat.lt_succ_self _, _, n, by rw [show ((n + 1 : Nat) : Int) - 1 = (n : Int) by omega], rfl, ?_, rfl⟩
      rw [← e, strip, if_pos h2]
    · exact small10
    · rename_i h1 h2
      simp only [decide_eq_true_eq, beq_eq_false_iff_ne] at h1 h2
      obtain ⟨n, rfl⟩ : ∃ k, n = k + 1 := ⟨n - 1, by omega⟩
      rw [strip, if_neg h2] at e
      rw [← e] at h
      exact h
    · rename_i h1
      simp only [decide_eq_false_iff_not] at h1
      obtain rfl : n = 0 := by omega
      rw [strip] at e
      rw [← e] at h
      exact h
theorem decimal_c (G : Gd w b0) {u k : Int} (h0 : 0 ≤ k) (h : Q (dec (strip u k.toNat)) T) : WC w b0 1 true (rf 94) [.int u, .int k] T Q X := by
  have := decimal_k (X := X) G h
  rwa [Int.toNat_of_nonneg h0] at this
end
section
theorem lt120 {n : Nat} (h : n < 10 ^ 120) : (n : Int) < 10 ^ 120 := by exact_mod_cast h
theorem pow_room {d : Int} (h0 : 0 ≤ d) (h : d ≤ 1000) : (Builtin.Int.intBits 10 : Int) * d ≤ 2 ^ 27 := by
  have e : Builtin.Int.intBits 10 = 4 := by decide +kernel
  rw [e]; omega
theorem Small.of_le {a b : Int} (h : Small a) (hb : b.natAbs ≤ a.natAbs) : Small b := Nat.lt_of_le_of_lt hb h
theorem Small.of_lt {b : Int} {n : Nat} (hb : b.natAbs < 10 ^ n) (hn : n ≤ 600 := by omega) : Small b := by
  unfold Small
  calc b.natAbs < 10 ^ n := hb
    _ ≤ 10 ^ 600 := Nat.pow_le_pow_right (by decide) hn
    _ < 2 ^ 2000 := by decide +kernel
theorem small_pow {n : Nat} (hn : n ≤ 500) : Small (10 ^ n) := by
  refine Small.of_lt (n := n + 1) ?_ (by omega)
  rw [Int.natAbs_pow]
  exact Nat.pow_lt_pow_right (by decide) (Nat.lt_succ_self _)
theorem Small.mulPow {a : Int} {k n : Nat} (h : a.natAbs < 10 ^ k) (hn : k + n ≤ 600) : Small (a * 10 ^ n) := by
  refine Small.of_lt (n := k + n) ?_ hn
  rw [Int.natAbs_mul, Int.natAbs_pow, Nat.pow_add]
  exact (Nat.mul_lt_mul_right (Nat.pow_pos (by decide))).mpr h
variable {w : World} {b0 : Heap} {T : Store} {Q : AV → Store → Prop} {X : Addr → Store → Prop}
set_option maxHeartbeats 1000000
theorem law_one (G : Gd w b0) (h : Q (.int one30) T) : WC w b0 1 true (rf 438) [] T Q X := by
  refine' wc_def0 G ?ho ?hcd ?hb ?hs ?_
  case ho => k_is
  case hcd => k_is
  case hb => exact fun _ _ => BindsTo.of_eq rfl
  case hs => kernel_rfl
  intro L fl A hc hh
  repeat' cell_call
  all_goals first | exact h | exact pow_room (by decide) (by decide) | decide
theorem fits_c (G : Gd w b0) {u : Int} (h : Q (.bool (decide ((u.natAbs : Int) < 10 ^ (120 : Nat)))) T) : WC w b0 1 true (rf 179) [.int u, .int 120] T Q X := by
  refine' wc_def2 (n₁ := Str.ofString "units") (n₂ := Str.ofString "digits") G ?ho ?hcd ?hb ?hs ?hl ?_
  case ho => k_is
  case hcd => k_is
  case hb => exact fun _ _ _ _ => BindsTo.of_eq rfl
  case hs => kernel_rfl
  case hl => kernel_rfl
  intro L fl A hc hh
  repeat' cell_call
  all_goals first | exact h | exact pow_room (by decide) (by decide) | decide
/-- what is kept -/
noncomputable def keptA (u s : Int) : Int := if 30 < s then Int.tdiv u (10 ^ (s - 30).toNat) else u
local macro_rules | `(tactic| kat_tups) => wFirst "$law_cut G g1 g2 _@2|$prog_cut G g1 g2 _@2|$decimal_c G g1 _@1|$fits_c G _|$law_one G _"
theorem kept_c (G : Gd w b0) {u s : Int} (h0 : 0 ≤ s) (h1 : s ≤ 100) (hu : True) (hf : (keptA u s).natAbs < 10 ^ 120) (h : Q (dec (strip (keptA u s) (min s 30).toNat)) T) : WC w b0 3 true (rf 101) [.int u, .int s] T Q X := by
  refine' wc_def2 (n₁ := Str.ofString "units") (n₂ := Str.ofString "scale") G ?ho ?hcd ?hb ?hs ?hl ?_
  case ho => k_is
  case hcd => k_is
  case hb => exact fun _ _ _ _ => BindsTo.of_eq rfl
  case hs => kernel_rfl
  case hl => kernel_rfl
  intro L fl A hc hh
  repeat' cell_call
  all_goals (try simp only [decide_eq_true_eq, decide_eq_false_iff_not, Bool.not_eq_true', Bool.not_eq_false'] at *)
  all_goals first
    | omega
    | decide
    | exact pow_room (by omega) (by omega)
    | exact Int.ne_of_gt (Int.pow_pos (by decide))
    | exact small_pow (by omega)
    | (rename_i q1 q2; rw [keptA, if_pos q1] at hf; exact absurd (lt120 hf) q2)
    | (rename_i q1 q2; rw [keptA, if_neg q1] at hf; exact absurd (lt120 hf) q2)
    | (rename_i q1 q2; rw [keptA, if_pos q1, show min s 30 = 30 by omega] at h; exact h)
    | (rename_i q1 q2; rw [keptA, if_neg q1, show min s 30 = s by omega] at h; exact h)
theorem beside_c (G : Gd w b0) {a b : Int} {p q : Int} (h0 : 0 ≤ p) (h1 : 0 ≤ q) (h2 : p ≤ 30) (h3 : q ≤ 30) (ha : Small a) (hb' : Small b) (h : Q (.tup [.int (a * 10 ^ (max p q - p).toNat), .int (b * 10 ^ (max p q - q).toNat), .int (max p q)]) T) : WC w b0 1 true (rf 108) [.tup [.int a, .int p], .tup [.int b, .int q]] T Q X := by
  refine' wc_def2 (n₁ := Str.ofString "a") (n₂ := Str.ofString "b") G ?ho ?hcd ?hb ?hs ?hl ?_
  case ho => k_is
  case hcd => k_is
  case hb => exact fun _ _ _ _ => BindsTo.of_eq rfl
  case hs => kernel_rfl
  case hl => kernel_rfl
  intro L fl A hc hh
  repeat' cell_call
  all_goals first
    | exact h
    | omega
    | exact pow_room (by omega) (by omega)
    | exact mulOk ha (small_pow (by omega))
    | exact mulOk hb' (small_pow (by omega))
end
local macro_rules | `(tactic| kat_tups) => wFirst "$law_cut G g1 g2 _@2|$prog_cut G g1 g2 _@2|$decimal_c G g1 _@1|$fits_c G _|$law_one G _"
section
theorem told_small2 {x : Int} {n : Nat} (h : x.natAbs < 10 ^ n) : (told x).1.natAbs < 10 ^ n := Nat.lt_of_le_of_lt told_small h
theorem toldSmall {x : Int} {n : Nat} (h : x.natAbs < 10 ^ n) (hn : n ≤ 600 := by omega) : Small (told x).1 := Small.of_lt (told_small2 h) hn
theorem maxN (p q : Nat) : (max (p : Int) (q : Int) - p).toNat = max p q - p ∧ (max (p : Int) (q : Int) - q).toNat = max p q - q ∧ (max (p : Int) (q : Int)).toNat = max p q := by
  have e : max (p : Int) (q : Int) = ((max p q : Nat) : Int) := by
    rcases Nat.le_total p q with h | h
    · rw [Int.max_eq_right (Int.ofNat_le.mpr h), Nat.max_eq_right h]
    · rw [Int.max_eq_left (Int.ofNat_le.mpr h), Nat.max_eq_left h]
  rw [e]
  exact ⟨Int.toNat_sub _ _, Int.toNat_sub _ _, rfl⟩
theorem plus_fin (x y : Int) : strip ((told x).1 * 10 ^ (max ((told x).2 : Int) (told y).2 - (told x).2).toNat + (told y).1 * 10 ^ (max ((told x).2 : Int) (told y).2 - (told y).2).toNat) (max ((told x).2 : Int) (told y).2).toNat = told (x + y) := by
  have lx := told_le x
  have ly := told_le y
  obtain ⟨e1, e2, e3⟩ := maxN (told x).2 (told y).2
  rw [e1, e2, e3, ← told_beside (Nat.le_max_left _ _) (Nat.le_max_right _ _) (by omega), told_val, told_val]
theorem minus_fin (x y : Int) : strip ((told x).1 * 10 ^ (max ((told x).2 : Int) (told y).2 - (told x).2).toNat - (told y).1 * 10 ^ (max ((told x).2 : Int) (told y).2 - (told y).2).toNat) (max ((told x).2 : Int) (told y).2).toNat = told (x - y) := by
  have lx := told_le x
  have ly := told_le y
  obtain ⟨e1, e2, e3⟩ := maxN (told x).2 (told y).2
  rw [e1, e2, e3, ← told_beside_sub (Nat.le_max_left _ _) (Nat.le_max_right _ _) (by omega), told_val, told_val]
theorem times_fin {x y : Int} : strip (keptA ((told x).1 * (told y).1) (((told x).2 : Int) + (told y).2)) (min (((told x).2 : Int) + (told y).2) 30).toNat = told (cutA x y) := by
  have lx := told_le x
  have ly := told_le y
  unfold keptA cutA
  rw [prod_val x y]
  split
  · rename_i q
    rw [show one30 = (10 : Int) ^ 30 from rfl, cut_more (by omega) (by omega), show (min (((told x).2 : Int) + (told y).2) 30).toNat = 30 by omega, show (((told x).2 : Int) + (told y).2 - 30).toNat = (told x).2 + (told y).2 - 30 by omega]
    rfl
  · rename_i q
    rw [show one30 = (10 : Int) ^ 30 from rfl, cut_less (by omega), told_of _ _ (by omega), show (min (((told x).2 : Int) + (told y).2) 30).toNat = (told x).2 + (told y).2 by omega]
theorem times_fit {x y : Int} {n : Nat} (h : (cutA x y).natAbs < 10 ^ n) : (keptA ((told x).1 * (told y).1) (((told x).2 : Int) + (told y).2)).natAbs < 10 ^ n := by
  have lx := told_le x
  have ly := told_le y
  unfold keptA
  unfold cutA at h
  rw [prod_val x y] at h
  split
  · rename_i q
    rw [show one30 = (10 : Int) ^ 30 from rfl, cut_more (by omega) (by omega)] at h
    rw [show (((told x).2 : Int) + (told y).2 - 30).toNat = (told x).2 + (told y).2 - 30 by omega]
    exact h
  · rename_i q
    rw [show one30 = (10 : Int) ^ 30 from rfl, cut_less (by omega), Int.natAbs_mul, Int.natAbs_pow] at h
    refine Nat.lt_of_le_of_lt ?_ h
    exact Nat.le_mul_of_pos_right _ (Nat.pow_pos (by decide))
local macro_rules | `(tactic| kat_tups) => wFirst "$kept_c G g1 g2 trivial g3 _@3|$beside_c G g1 g2 g3 g4 g5 g6 _@6"
variable {w : World} {b0 : Heap} {T : Store} {Q : AV → Store → Prop} {X : Addr → Store → Prop}
set_option maxHeartbeats 1000000
theorem plus_c (G : Gd w b0) {x y : Int} (hx : x.natAbs < 10 ^ 120) (hy : y.natAbs < 10 ^ 120) (h : Q (dec (told (x + y))) T) : WC w b0 3 true (rf 115) [dec (told x), dec (told y)] T Q X := by
  refine' wc_def2 (n₁ := Str.ofString "a") (n₂ := Str.ofString "b") G ?ho ?hcd ?hb ?hs ?hl ?_
  case ho => k_is
  case hcd => k_is
  case hb => exact fun _ _ _ _ => BindsTo.of_eq rfl
  case hs => kernel_rfl
  case hl => kernel_rfl
  intro L fl A hc hh
  have lx := told_le x
  have ly := told_le y
  repeat' cell_call
  all_goals first
    | omega
    | exact toldSmall ‹_›
    | (rw [plus_fin]; exact h)
    | (rw [minus_fin]; exact h)
theorem minus_c (G : Gd w b0) {x y : Int} (hx : x.natAbs < 10 ^ 120) (hy : y.natAbs < 10 ^ 120) (h : Q (dec (told (x - y))) T) : WC w b0 3 true (rf 122) [dec (told x), dec (told y)] T Q X := by
  refine' wc_def2 (n₁ := Str.ofString "a") (n₂ := Str.ofString "b") G ?ho ?hcd ?hb ?hs ?hl ?_
  case ho => k_is
  case hcd => k_is
  case hb => exact fun _ _ _ _ => BindsTo.of_eq rfl
  case hs => kernel_rfl
  case hl => kernel_rfl
  intro L fl A hc hh
  have lx := told_le x
  have ly := told_le y
  repeat' cell_call
  all_goals first
    | omega
    | exact toldSmall ‹_›
    | (rw [plus_fin]; exact h)
    | (rw [minus_fin]; exact h)
theorem times_c (G : Gd w b0) {x y : Int} (hx : x.natAbs < 10 ^ 120) (hy : y.natAbs < 10 ^ 120) (hf : (cutA x y).natAbs < 10 ^ 120) (h : Q (dec (told (cutA x y))) T) : WC w b0 4 true (rf 129) [dec (told x), dec (told y)] T Q X := by
  refine' wc_def2 (n₁ := Str.ofString "a") (n₂ := Str.ofString "b") G ?ho ?hcd ?hb ?hs ?hl ?_
  case ho => k_is
  case hcd => k_is
  case hb => exact fun _ _ _ _ => BindsTo.of_eq rfl
  case hs => kernel_rfl
  case hl => kernel_rfl
  intro L fl A hc hh
  have lx := told_le x
  have ly := told_le y
  repeat' cell_call
  all_goals first
    | omega
    | (rw [times_fin]; exact h)
    | exact times_fit hf
    | exact mulOk (toldSmall hx) (toldSmall hy)
theorem negated_c (G : Gd w b0) {u s : Int} (h : Q (.tup [.int (-u), .int s]) T) : WC w b0 1 true (rf 136) [.tup [.int u, .int s]] T Q X := by
  refine' wc_def1 (n₁ := Str.ofString "a") G ?ho ?hcd ?hb ?hs ?hl ?_
  case ho => k_is
  case hcd => k_is
  case hb => exact fun _ _ _ => BindsTo.of_eq rfl
  case hs => kernel_rfl
  case hl => kernel_rfl
  intro L fl A hc hh
  repeat' cell_call
  all_goals exact h
theorem is_whole_c (G : Gd w b0) {u s : Int} (h : Q (.bool (s == 0)) T) : WC w b0 1 true (rf 165) [.tup [.int u, .int s]] T Q X := by
  refine' wc_def1 (n₁ := Str.ofString "a") G ?ho ?hcd ?hb ?hs ?hl ?_
  case ho => k_is
  case hcd => k_is
  case hb => exact fun _ _ _ => BindsTo.of_eq rfl
  case hs => kernel_rfl
  case hl => kernel_rfl
  intro L fl A hc hh
  repeat' cell_call
  all_goals exact h
theorem units_at_c (G : Gd w b0) {u : Int} (hu : Small u) (h : Q (.int u) T) : WC w b0 1 true (rf 158) [.tup [.int u, .int 0], .int 0, .bool false] T Q X := by
  refine' wc_def3 (n₁ := Str.ofString "a") (n₂ := Str.ofString "scale") (n₃ := Str.ofString "is_rounded") G ?ho ?hcd ?hb ?hs ?hl ?_
  case ho => k_is
  case hcd => k_is
  case hb => exact fun _ _ _ _ _ => BindsTo.of_eq rfl
  case hs => kernel_rfl
  case hl => kernel_rfl
  intro L fl A hc hh
  repeat' cell_call
  all_goals first
    | (simpa using h)
    | exact mulOk hu (small_pow (by decide))
    | decide
    | exact pow_room (by omega) (by omega)
local macro_rules | `(tactic| kat_tups) => wFirst "$units_at_c G g1 _@1"
theorem whole_of_c (G : Gd w b0) {u : Int} (hu : Small u) (h : Q (.int u) T) : WC w b0 2 true (rf 172) [.tup [.int u, .int 0]] T Q X := by
  refine' wc_def1 (n₁ := Str.ofString "a") G ?ho ?hcd ?hb ?hs ?hl ?_
  case ho => k_is
  case hcd => k_is
  case hb => exact fun _ _ _ => BindsTo.of_eq rfl
  case hs => kernel_rfl
  case hl => kernel_rfl
  intro L fl A hc hh
  repeat' cell_call
  all_goals first | exact h | exact hu
end
local macro_rules | `(tactic| kat_tups) => wFirst "$kept_c G g1 g2 trivial g3 _@3|$beside_c G g1 g2 g3 g4 g5 g6 _@6"
local macro_rules | `(tactic| kat_tups) => wFirst "$units_at_c G g1 _@1"
section
noncomputable def quoA (x y : Int) : Int := Int.tdiv (x * one30) y
noncomputable def powA (x : Int) : Nat → Int
  | 0 => one30
  | n + 1 => cutA (powA x n) x
theorem quot_fin (x y : Int) : strip (Int.tdiv ((told x).1 * 10 ^ ((30 : Int) + (told y).2).toNat) ((told y).1 * 10 ^ ((told x).2 : Int).toNat)) (30 : Int).toNat = told (quoA x y) := by
  rw [show ((30 : Int) + (told y).2).toNat = 30 + (told y).2 by omega, show ((told x).2 : Int).toNat = (told x).2 by omega, quot_val]
  rfl
local macro_rules | `(tactic| kat_tups) => wFirst "k_range _|$plus_c G g1 g2 _@2|$minus_c G g1 g2 _@2|$times_c G g1 g2 g3 _@3|$negated_c G _|$is_whole_c G _|$whole_of_c G g1 _@1"
variable {w : World} {b0 : Heap} {T : Store} {Q : AV → Store → Prop} {X : Addr → Store → Prop}
set_option maxHeartbeats 1000000
theorem quotient_c (G : Gd w b0) {x y : Int} (hx : x.natAbs < 10 ^ 120) (hy : y.natAbs < 10 ^ 120) (h0 : y = 0 → X 65 T) (h1 : y ≠ 0 → Q (dec (told (quoA x y))) T) : WC w b0 4 true (rf 144) [dec (told x), dec (told y)] T Q X := by
  refine' wc_def2d (n₁ := Str.ofString "a") (n₂ := Str.ofString "b") (n₃ := Str.ofString "many") (a₃ := .int 30) G ?ho ?hcd ?hb ?hdv ?hs ?hl ?_
  case ho => k_is
  case hcd => k_is
  case hb => exact fun _ _ _ KI => binds_K (K := hd.heap_39 w.params) KI rfl (by k_is) rfl rfl rfl
  case hdv => exact fun _ => .int _ _
  case hs => kernel_rfl
  case hl => kernel_rfl
  intro L fl A hc hh
  have lx := told_le x
  have ly := told_le y
  repeat' cell_call
  all_goals (try simp only [beq_iff_eq, beq_eq_false_iff_ne] at *)
  all_goals first
    | omega
    | exact ⟨T, .refl T, h0 (told_zero.mp ‹_›)⟩
    | (rw [quot_fin]; exact h1 fun e => ‹¬ (told y).1 = 0› (told_zero.mpr e))
    | exact pow_room (by omega) (by omega)
    | exact mulOk (toldSmall hx) (small_pow (by omega))
    | exact mulOk (toldSmall hy) (small_pow (by omega))
    | exact Int.mul_ne_zero ‹_› (Int.ne_of_gt (pow_pos10 _))
    | exact Small.mulPow (told_small2 hy) (by omega)
theorem told_one : told one30 = (1, 0) := by
  have := told_int 1
  rwa [Int.one_mul] at this
theorem told_kint (k : Int) : dec (told (k * one30)) = .tup [.int k, .int 0] := by rw [told_int]; rfl
theorem quotient_1 (G : Gd w b0) {y : Int} (hy : y.natAbs < 10 ^ 120) (h0 : y = 0 → X 65 T) (h1 : y ≠ 0 → Q (dec (told (quoA one30 y))) T) : WC w b0 4 true (rf 144) [.tup [.int 1, .int 0], dec (told y)] T Q X := by
  have := quotient_c G (x := one30) (by decide) hy h0 h1
  rwa [told_one] at this
local macro_rules | `(tactic| kat_tups) => wFirst "$quotient_1 G g1 g2 g3"
theorem power_c (G : Gd w b0) {x k : Int} (hx : x.natAbs < 10 ^ 120) (hk : k.natAbs ≤ 99) (hf : ∀ i, i ≤ k.natAbs → (powA x i).natAbs < 10 ^ 120) (h0 : x = 0 → k < 1 → X 65 T) (h1 : ¬ (x = 0 ∧ k < 1) → 0 ≤ k → Q (dec (told (powA x k.natAbs))) T)
    (h2 : x ≠ 0 → k < 0 → powA x k.natAbs = 0 → X 65 T) (h3 : x ≠ 0 → k < 0 → powA x k.natAbs ≠ 0 → Q (dec (told (quoA one30 (powA x k.natAbs)))) T) : WC w b0 6 true (rf 151) [dec (told x), .tup [.int k, .int 0]] T Q X := by
  refine' wc_def2 (n₁ := Str.ofString "a") (n₂ := Str.ofString "b") G ?ho ?hcd ?hb ?hs ?hl ?_
  case ho => k_is
  case hcd => k_is
  case hb => exact fun _ _ _ _ => BindsTo.of_eq rfl
  case hs => kernel_rfl
  case hl => kernel_rfl
  intro L fl A hc hh
  have lx := told_le x
  repeat' cell_call
  · rename_i q1 q2
    simp only [beq_iff_eq, decide_eq_true_eq] at q1 q2
    exact ⟨T, .refl T, h0 (told_zero.mp q1) q2⟩
  all_goals
    have hcond : ¬ (x = 0 ∧ k < 1) := by
      rintro ⟨e1, e2⟩
      have e3 := told_zero.mpr e1
      simp_all
    clear h0
    refine' s_for ?hk ?hh ?_ ?hs
    case hk => kernel_rfl
    case hh => exact hh rfl
    case hs => exact fun _ => rfl
    repeat' cell_call
    refine ⟨.rng k.natAbs, fun i m T' => m = [(Str.ofString "a", dec (told x)), (Str.ofString "b", .tup [.int k, .int 0]), (Str.ofString "found", dec (told (powA x i)))] ∧ T' = T, .rng (by omega), ⟨by rw [powA, told_one]; rfl, rfl⟩, fun _ _ _ _ => trivial, ?_, ?_⟩
    · rintro i e m T' he ⟨rfl, rfl⟩
      have hi : i < k.natAbs := by
        have := (List.getElem?_eq_some_iff.mp he).1
        simpa [Src.els] using this
      refine' ⟨_, _, ?hn, W.drop ?_⟩
      case hn => k_fold
      repeat' cell_call
      · refine' ⟨_, _, ?ha, .refl _, rfl, rfl⟩
        case ha => rw [powA]; k_whole
      · exact hf i (by omega)
      · exact hf (i + 1) (by omega)
    · rintro m T' ⟨rfl, rfl⟩
      rw [show (Src.rng k.natAbs).els.length = k.natAbs by simp [Src.els]]
      repeat' cell_call
      all_goals (try simp only [decide_eq_true_eq, decide_eq_false_iff_not] at *)
      all_goals first
        | exact hf _ (Nat.le_refl _)
        | exact fun e => ⟨T', .refl _, h2 (fun q => hcond ⟨q, by omega⟩) (by omega) e⟩
        | exact fun e => ⟨T', .refl _, h3 (fun q => hcond ⟨q, by omega⟩) (by omega) e⟩
        | exact h1 hcond (by omega)
end
local macro_rules | `(tactic| kat_tups) => wFirst "k_range _|$plus_c G g1 g2 _@2|$minus_c G g1 g2 _@2|$times_c G g1 g2 g3 _@3|$negated_c G _|$is_whole_c G _|$whole_of_c G g1 _@1"
section
inductive Sgn where
  | add | sub | mul | div | pow
noncomputable def Sgn.str : Sgn → Str
  | .add => Str.ofString "+"
  | .sub => Str.ofString "-"
  | .mul => Str.ofString "*"
  | .div => Str.ofString "/"
  | .pow => Str.ofString "**"
/-- a reckoning of two: the second is whole and small -/
noncomputable def calcA (sg : Sgn) (x k : Int) : Option Int := match sg with
  | .add => some (x + k * one30)
  | .sub => some (x - k * one30)
  | .mul => some (cutA x (k * one30))
  | .div => if k = 0 then none else some (quoA x (k * one30))
  | .pow => if x = 0 ∧ k < 1 then none else if 0 ≤ k then some (powA x k.natAbs) else if powA x k.natAbs = 0 then none else some (quoA one30 (powA x k.natAbs))
theorem cutA_le (x y : Int) {M : Nat} (h : y.natAbs ≤ M * 10 ^ 30) : (cutA x y).natAbs ≤ x.natAbs * M := by
  unfold cutA
  rw [Int.natAbs_tdiv, Int.natAbs_mul, show one30.natAbs = 10 ^ 30 from by decide]
  refine Nat.div_le_of_le_mul ?_
  calc x.natAbs * y.natAbs ≤ x.natAbs * (M * 10 ^ 30) := Nat.mul_le_mul_left _ h
    _ = 10 ^ 30 * (x.natAbs * M) := by rw [← Nat.mul_assoc, Nat.mul_comm]
theorem powA_le {x : Int} {M : Nat} (h : x.natAbs ≤ M * 10 ^ 30) (n : Nat) : (powA x n).natAbs ≤ 10 ^ 30 * M ^ n := by
  induction n with
  | zero => rw [powA, Nat.pow_zero]; decide
  | succ n ih =>
    rw [powA, show 10 ^ 30 * M ^ (n + 1) = (10 ^ 30 * M ^ n) * M by rw [Nat.pow_succ (n := M), Nat.mul_assoc]]
    exact Nat.le_trans (cutA_le _ _ h) (Nat.mul_le_mul_right _ ih)
theorem powA_fit {x : Int} (h : x.natAbs ≤ 16777216 * 10 ^ 30) {n : Nat} (hn : n ≤ 8) : (powA x n).natAbs < 10 ^ 120 := by
  refine Nat.lt_of_le_of_lt (powA_le h n) ?_
  refine Nat.lt_of_le_of_lt (Nat.mul_le_mul_left _ (Nat.pow_le_pow_right (by decide) hn)) (by decide)
theorem kone_fit {k : Int} (h : k.natAbs ≤ 8) : (k * one30).natAbs < 10 ^ 120 := by
  rw [Int.natAbs_mul]
  exact Nat.lt_of_le_of_lt (Nat.mul_le_mul_right _ h) (by decide)
theorem fit_of {x : Int} (h : x.natAbs ≤ 16777216 * 10 ^ 30) : x.natAbs < 10 ^ 120 := Nat.lt_of_le_of_lt h (by decide)
theorem cutA_fit {x k : Int} (h : x.natAbs ≤ 16777216 * 10 ^ 30) (hk : k.natAbs ≤ 8) : (cutA x (k * one30)).natAbs < 10 ^ 120 := by
  refine Nat.lt_of_le_of_lt (cutA_le x (k * one30) (M := 8) ?_) ?_
  · rw [Int.natAbs_mul]; exact Nat.mul_le_mul_right _ hk
  · exact Nat.lt_of_le_of_lt (Nat.mul_le_mul_right _ h) (by decide)
variable {w : World} {b0 : Heap} {T : Store} {Q : AV → Store → Prop} {X : Addr → Store → Prop} {x k : Int}
set_option maxHeartbeats 1000000
theorem plus_k (G : Gd w b0) (hx : x.natAbs < 10 ^ 120) (hy : (k * one30).natAbs < 10 ^ 120) (h : Q (dec (told (x + k * one30))) T) : WC w b0 3 true (rf 115) [dec (told x), .tup [.int k, .int 0]] T Q X := by
  rw [← told_kint]; exact plus_c G hx hy h
theorem minus_k (G : Gd w b0) (hx : x.natAbs < 10 ^ 120) (hy : (k * one30).natAbs < 10 ^ 120) (h : Q (dec (told (x - k * one30))) T) : WC w b0 3 true (rf 122) [dec (told x), .tup [.int k, .int 0]] T Q X := by
  rw [← told_kint]; exact minus_c G hx hy h
theorem times_k (G : Gd w b0) (hx : x.natAbs < 10 ^ 120) (hy : (k * one30).natAbs < 10 ^ 120) (hf : (cutA x (k * one30)).natAbs < 10 ^ 120) (h : Q (dec (told (cutA x (k * one30)))) T) : WC w b0 4 true (rf 129) [dec (told x), .tup [.int k, .int 0]] T Q X := by
  rw [← told_kint]; exact times_c G hx hy hf h
theorem quotient_k (G : Gd w b0) (hx : x.natAbs < 10 ^ 120) (hy : (k * one30).natAbs < 10 ^ 120) (h0 : k = 0 → X 65 T) (h1 : k ≠ 0 → Q (dec (told (quoA x (k * one30)))) T) : WC w b0 4 true (rf 144) [dec (told x), .tup [.int k, .int 0]] T Q X := by
  have e : k * one30 = 0 ↔ k = 0 := by
    constructor
    · intro h; exact (Int.mul_eq_zero.mp h).resolve_right (by decide)
    · rintro rfl; rfl
  rw [← told_kint]; exact quotient_c G hx hy (fun q => h0 (e.mp q)) (fun q => h1 fun z => q (e.mpr z))
local macro_rules | `(tactic| kat_tups) => wFirst "$plus_k G g1 g2 _|$minus_k G g1 g2 _|$times_k G g1 g2 g3 _|$quotient_k G g1 g2 g3 g4|$power_c G g1 g2 g3 g4 g5 g6 g7"
theorem calculated_c (G : Gd w b0) (sg : Sgn) (hx : x.natAbs ≤ 16777216 * 10 ^ 30) (hk : k.natAbs ≤ 8) (h : ∀ v, calcA sg x k = some v → Q (dec (told v)) T) (h0 : calcA sg x k = none → X 65 T) : WC w b0 7 true (rf 235) [.str sg.str, dec (told x), .tup [.int k, .int 0]] T Q X := by
  refine' wc_def3 (n₁ := Str.ofString "sign") (n₂ := Str.ofString "a") (n₃ := Str.ofString "b") G ?ho ?hcd ?hb ?hs ?hl ?_
  case ho => k_is
  case hcd => k_is
  case hb => exact fun _ _ _ _ _ => BindsTo.of_eq rfl
  case hs => kernel_rfl
  case hl => kernel_rfl
  intro L fl A hc hh
  have f1 := fit_of hx
  have f2 := kone_fit hk
  have f3 := cutA_fit hx hk
  have f4 : ∀ i, i ≤ k.natAbs → (powA x i).natAbs < 10 ^ 120 := fun i hi => powA_fit hx (by omega)
  cases sg with
  | add =>
    repeat' cell_call
    all_goals first | exact h _ rfl | assumption
  | sub =>
    repeat' cell_call
    all_goals first | exact h _ rfl | assumption
  | mul =>
    repeat' cell_call
    all_goals first | exact h _ rfl | assumption
  | div =>
    repeat' cell_call
    all_goals first
      | assumption
      | exact fun e => ⟨T, .refl T, h0 (by rw [calcA, if_pos e])⟩
      | exact fun e => ⟨T, .refl T, h _ (by rw [calcA, if_neg e])⟩
  | pow =>
    repeat' cell_call
    all_goals first
      | assumption
      | omega
      | exact fun e1 e2 => ⟨T, .refl T, h0 (by rw [calcA, if_pos ⟨e1, e2⟩])⟩
      | exact fun e1 e2 => ⟨T, .refl T, h _ (by rw [calcA, if_neg e1, if_pos e2])⟩
      | exact fun e1 e2 e3 => ⟨T, .refl T, h0 (by rw [calcA, if_neg fun q => e1 q.1, if_neg (by omega), if_pos e3])⟩
      | exact fun e1 e2 e3 => ⟨T, .refl T, h _ (by rw [calcA, if_neg fun q => e1 q.1, if_neg (by omega), if_neg e3])⟩
end
section
noncomputable def optA : Option Int → AV
  | some v => .int v
  | none => .none
variable {w : World} {b0 : Heap} {T : Store} {Q : AV → Store → Prop} {X : Addr → Store → Prop} {x k : Int}
set_option maxHeartbeats 1000000
local macro_rules | `(tactic| kat_tups) => wFirst "k_range _"
theorem law_told (G : Gd w b0) (h : Q (dec (told x)) T) : WC w b0 1 true (rf 459) [.int x] T Q X := by
  refine' wc_def1 (n₁ := Str.ofString "worth") G ?ho ?hcd ?hb ?hs ?hl ?_
  case ho => k_is
  case hcd => k_is
  case hb => exact fun _ _ _ => BindsTo.of_eq rfl
  case hs => kernel_rfl
  case hl => kernel_rfl
  intro L fl A hc hh
  repeat' cell_call
  refine s_while rfl hc.frames (fun n m T' => ∃ (u' : Int) (k' : Nat), m = [(Str.ofString "worth", .int u'), (Str.ofString "scale", .int k')] ∧ T' = T ∧ strip u' k' = strip x 30 ∧ n = k') 30 ⟨x, 30, rfl, rfl, rfl, rfl⟩ ?_
  rintro n m T' ⟨u', k', rfl, rfl, e, rfl⟩
  repeat' cell_call
  · rename_i h1 h2
    simp only [decide_eq_true_eq, beq_iff_eq] at h1 h2
    obtain ⟨n, rfl⟩ : ∃ k, n = k + 1 := ⟨n - 1, by omega⟩
    refine ⟨n, Nat.lt_succ_self _, _, n, by rw [show ((n + 1 : Nat) : Int) - 1 = (n : Int) by omega], rfl, ?_, rfl⟩
    rw [← e, strip, if_pos h2]
  · exact small10
  · rename_i h1 h2
    simp only [decide_eq_true_eq, beq_eq_false_iff_ne] at h1 h2
    obtain ⟨n, rfl⟩ : ∃ k, n = k + 1 := ⟨n - 1, by omega⟩
    rw [strip, if_neg h2] at e
    rw [told, ← e] at h
    exact h
  · rename_i h1
    simp only [decide_eq_false_iff_not] at h1
    obtain rfl : n = 0 := by omega
    rw [strip] at e
    rw [told, ← e] at h
    exact h
theorem reck_div (G : Gd w b0) {y : Int} (hx : Small x) (hy : Small y) (h : Q (optA (if y = 0 then none else some (quoA x y))) T) : WC w b0 3 true (rf 452) [.str (Str.ofString "/"), .int x, .int y] T Q X := by
  refine' wc_def3 (n₁ := Str.ofString "sign") (n₂ := Str.ofString "a") (n₃ := Str.ofString "b") G ?ho ?hcd ?hb ?hs ?hl ?_
  case ho => k_is
  case hcd => k_is
  case hb => exact fun _ _ _ _ _ => BindsTo.of_eq rfl
  case hs => kernel_rfl
  case hl => kernel_rfl
  intro L fl A hc hh
  repeat' cell_call
  all_goals first
    | exact mulOk hx (small_pow (n := 30) (by decide))
    | (rename_i q; rw [if_neg (bne_iff_ne.mp q)] at h; exact h)
    | (rename_i q; rw [if_pos (bne_eq_false_iff_eq.mp q)] at h; exact h)
    | assumption
    | exact bne_iff_ne.mp (by assumption)
theorem small_one30 : Small one30 := small_pow (n := 30) (by decide)
theorem small120 {x : Int} (h : x.natAbs < 10 ^ 120) : Small x := Small.of_lt h
theorem fmod_one (k : Int) : Int.fmod (k * one30) one30 = 0 := by
  rw [Int.fmod_eq_emod_of_nonneg _ (by decide)]; exact Int.mul_emod_left _ _
theorem fdiv_one (k : Int) : Int.fdiv ((k * one30).natAbs : Int) one30 = (k.natAbs : Int) := by
  rw [Int.natAbs_mul, show one30.natAbs = 10 ^ 30 from by decide, Int.fdiv_eq_ediv_of_nonneg _ (by decide)]
  rw [show ((k.natAbs * 10 ^ 30 : Nat) : Int) = (k.natAbs : Int) * one30 by rw [Int.natCast_mul]; rfl]
  exact Int.mul_ediv_cancel _ (by decide)
theorem kone_zero {k : Int} : k * one30 = 0 ↔ k = 0 := by
  constructor
  · intro h; exact (Int.mul_eq_zero.mp h).resolve_right (by decide)
  · rintro rfl; rfl
theorem kone_lt {k : Int} : k * one30 < one30 ↔ k < 1 := by
  show k * (10 ^ 30 : Int) < 10 ^ 30 ↔ k < 1
  omega
theorem kone_nonneg {k : Int} : 0 ≤ k * one30 ↔ 0 ≤ k := by
  show 0 ≤ k * (10 ^ 30 : Int) ↔ 0 ≤ k
  omega
theorem kone_abs {k : Int} (h : k.natAbs ≤ 99) : ¬ (99 * one30 < ((k * one30).natAbs : Int)) := by
  show ¬ (99 * (10 ^ 30 : Int) < ((k * (10 ^ 30 : Int)).natAbs : Int))
  omega
local macro_rules | `(tactic| kat_tups) => wFirst "$reck_div G g1 g2 _"
theorem reckoned_c (G : Gd w b0) (sg : Sgn) (hx : x.natAbs ≤ 16777216 * 10 ^ 30) (hk : k.natAbs ≤ 8) (h : Q (optA (calcA sg x k)) T) : WC w b0 5 true (rf 452) [.str sg.str, .int x, .int (k * one30)] T Q X := by
  have f1 := small120 (fit_of hx)
  have f2 := small120 (kone_fit hk)
  have f4 : ∀ i, i ≤ k.natAbs → (powA x i).natAbs < 10 ^ 120 := fun i hi => powA_fit hx (by omega)
  by_cases hd : sg = .div
  · subst hd
    refine (reck_div (X := X) (Q := Q) G f1 f2 ?_).mono (fun _ _ h => h) (fun _ _ h => h)
    simp only [kone_zero]
    exact h
  refine' wc_def3 (n₁ := Str.ofString "sign") (n₂ := Str.ofString "a") (n₃ := Str.ofString "b") G ?ho ?hcd ?hb ?hs ?hl ?_
  case ho => k_is
  case hcd => k_is
  case hb => exact fun _ _ _ _ _ => BindsTo.of_eq rfl
  case hs => kernel_rfl
  case hl => kernel_rfl
  intro L fl A hc hh
  cases sg with
  | add =>
    simp only [Sgn.str]
    repeat' cell_call
    all_goals first | exact h | assumption
  | sub =>
    simp only [Sgn.str]
    repeat' cell_call
    all_goals first | exact h | assumption
  | mul =>
    simp only [Sgn.str]
    repeat' cell_call
    all_goals first | exact h | exact mulOk f1 f2 | exact small_one30 | decide | assumption
  | div => exact absurd rfl hd
  | pow =>
    simp only [Sgn.str]
    repeat' cell_call
    · rename_i q; exact absurd (fmod_one k) (bne_iff_ne.mp q)
    · rename_i q; exact absurd (of_decide_eq_true q) (kone_abs (by omega))
    · rename_i q1 q2
      simp only [beq_iff_eq, decide_eq_true_eq] at q1 q2
      rw [calcA, if_pos ⟨q1, kone_lt.mp q2⟩] at h
      exact h
    all_goals first
      | exact mulOk (by unfold Small; decide) small_one30
      | exact (by decide : one30 ≠ 0)
      | skip
    all_goals
      have hcond : ¬ (x = 0 ∧ k < 1) := by
        rintro ⟨e1, e2⟩
        first
          | exact absurd e1 (beq_eq_false_iff_ne.mp ‹(x == 0) = false›)
          | exact absurd (kone_lt.mpr e2) (of_decide_eq_false ‹decide (k * one30 < one30) = false›)
      rw [calcA, if_neg hcond] at h
      refine' s_for ?hk ?hh ?_ ?hs
      case hk => kernel_rfl
      case hh => exact hh rfl
      case hs => exact fun _ => rfl
      repeat' cell_call
      · rw [fdiv_one]
        cell_call
        refine ⟨.rng k.natAbs, fun i m T' => m = [(Str.ofString "sign", .str (Str.ofString "**")), (Str.ofString "a", .int x), (Str.ofString "b", .int (k * one30)), (Str.ofString "found", .int (powA x i))] ∧ T' = T, .rng (by omega), ⟨rfl, rfl⟩, fun _ _ _ _ => trivial, ?_, ?_⟩
        · rintro i e m T' he ⟨rfl, rfl⟩
          have hi : i < k.natAbs := by
            have := (List.getElem?_eq_some_iff.mp he).1
            simpa [Src.els] using this
          refine' ⟨_, _, ?hn, W.drop ?_⟩
          case hn => k_fold
          repeat' cell_call
          all_goals first
            | exact mulOk (small120 (f4 i (by omega))) f1
            | exact small_one30
            | exact (by decide : one30 ≠ 0)
            | (refine' ⟨_, _, ?ha, .refl _, rfl, rfl⟩
               case ha => rw [powA, cutA]; k_whole)
        · rintro m T' ⟨rfl, rfl⟩
          rw [show (Src.rng k.natAbs).els.length = k.natAbs by simp [Src.els]]
          repeat' cell_call
          all_goals first
            | exact small_one30
            | exact small120 (f4 _ (Nat.le_refl _))
            | (rename_i q; rw [if_pos (kone_nonneg.mp (of_decide_eq_true q))] at h; exact h)
            | (rename_i q; rw [if_neg fun z => of_decide_eq_false q (kone_nonneg.mpr z)] at h; exact h)
      all_goals first
        | exact small_one30
        | exact (by decide : one30 ≠ 0)
end
section
/-! the machine, in plain Lean -/
inductive Opd where
  | num (k : Int)
  | txt
noncomputable abbrev sv (x : String) : AV := .str (Str.ofString x)
noncomputable def Opd.av : Opd → AV
  | .num k => .tup [sv "number", .int k]
  | .txt => .tup [sv "text", sv "none"]
inductive Op where
  | push (o : Opd) (way : Int)
  | neg (way : Int)
  | calc (sg : Sgn) (way : Int)
  | put (l : Nat)
  | deed (n : Int)
  | key (x : Str) (l : Nat)
  | test (n : Int) (l : Nat)
  | jump (l : Nat)
  | choose (ls : List Nat)
  | perform (b : Nat) (e : Int)
  | leave (e : Int)
  | count (n : Int)
  | less (n : Int) (l : Nat)
  | stop (x : Str)
noncomputable def Op.av : Op → AV
  | .push o way => .tup [sv "push", o.av, .int way]
  | .neg way => .tup [sv "calc", sv "neg", .int way]
  | .calc sg way => .tup [sv "calc", .str sg.str, .int way]
  | .put l => .tup [sv "put", sv "rows", .int l]
  | .deed n => .tup [sv "do", .tup [sv "deed", .int n]]
  | .key x l => .tup [sv "key", .str x, .int l]
  | .test n l => .tup [sv "test", .int n, .int l]
  | .jump l => .tup [sv "jump", .int l]
  | .choose ls => .tup [sv "choose", .tup (ls.map fun (l : Nat) => .int (l : Int))]
  | .perform b e => .tup [sv "perform", .int b, .int e]
  | .leave e => .tup [sv "leave", .int e]
  | .count n => .tup [sv "count", .int n]
  | .less n l => .tup [sv "less", .int n, .int l]
  | .stop x => .tup [sv "stop", .str x]
structure Fr where
  last : Int
  behind : Int
  slots : Int → Int
structure St where
  place : Nat
  stack : List Int
  key : Str
  frames : List Fr
  log : List AV
inductive Out where
  | go (s : St)
  | word (x : Str) (log : List AV)
  | size (log : List AV)
  | run (log : List AV)
noncomputable def words4 (n : Int) : Str := match (Int.fmod n 4).toNat with
  | 0 => Str.ofString ""
  | 1 => Str.ofString "end"
  | 2 => Str.ofString "size"
  | _ => Str.ofString ""
noncomputable def setTop (fs : List Fr) (f : Fr) : List Fr := fs.dropLast ++ [f]
/-- one step, from a place -/
noncomputable def stepOp (begins : List Nat) (s : St) : Op → Out
  | .push o way =>
    let log := s.log ++ [.tup [sv "number", o.av]]
    match o with
    | .num k => .go { s with place := s.place + 1, stack := s.stack ++ [k * one30], log := log }
    | .txt => if way < 0 then .size log else .go { s with place := way.toNat, stack := [], log := log }
  | .neg way => .go { s with place := s.place + 1, stack := s.stack.dropLast ++ [-(s.stack.getLast?.getD 0)] }
  | .calc sg way =>
    let b := s.stack.getLast?.getD 0
    let a := s.stack.dropLast.getLast?.getD 0
    match calcA sg a (b / one30) with
    | some v => .go { s with place := s.place + 1, stack := s.stack.dropLast.dropLast ++ [v] }
    | none => if way < 0 then .size s.log else .go { s with place := way.toNat, stack := [] }
  | .put l =>
    let v := s.stack.getLast?.getD 0
    .go { s with place := if Int.fmod (told v).1 7 = 0 then l else s.place + 1, stack := s.stack.dropLast, log := s.log ++ [.tup [sv "put", sv "rows", dec (told v)]] }
  | .deed n =>
    let log := s.log ++ [.tup [sv "do", .tup [sv "deed", .int n]]]
    .go { s with place := s.place + 1, key := words4 (n + log.length), log := log }
  | .key x l => .go { s with place := if s.key = x then s.place + 1 else l }
  | .test n l =>
    let log := s.log ++ [.tup [sv "test", .int n]]
    .go { s with place := if Int.fmod (n + log.length) 3 ≠ 0 then s.place + 1 else l, log := log }
  | .jump l => .go { s with place := l }
  | .choose ls =>
    let k := (s.stack.getLast?.getD 0) / one30
    .go { s with stack := s.stack.dropLast, place := if 1 ≤ k ∧ k ≤ ls.length then ls.getD (k - 1).toNat 0 else s.place + 1 }
  | .perform b e => if s.frames.length = 21 then .run s.log else .go { s with frames := s.frames ++ [⟨e, s.place + 1, fun _ => 0⟩], place := begins.getD b 0 }
  | .leave e => match s.frames.getLast? with
    | some f => if f.last = e then .go { s with frames := s.frames.dropLast, place := f.behind.toNat } else .go { s with place := s.place + 1 }
    | none => .go s
  | .count n => match s.frames.getLast? with
    | some f => .go { s with place := s.place + 1, stack := s.stack.dropLast, frames := setTop s.frames { f with slots := fun i => if i = n then (s.stack.getLast?.getD 0) / one30 else f.slots i } }
    | none => .go s
  | .less n l => match s.frames.getLast? with
    | some f => if 0 < f.slots n then .go { s with place := s.place + 1, frames := setTop s.frames { f with slots := fun i => if i = n then f.slots n - 1 else f.slots i } } else .go { s with place := l }
    | none => .go s
  | .stop x => .word x s.log
noncomputable def runA (ops : List Op) (begins : List Nat) : Nat → St → Str × List AV
  | 0, s => (Str.ofString "step fault", s.log)
  | n + 1, s => match ops[s.place]? with
    | none => (Str.ofString "run fault", s.log)
    | some op => match stepOp begins s op with
      | .go s' => runA ops begins n s'
      | .word x log => (x, log)
      | .size log => (Str.ofString "size fault", log)
      | .run log => (Str.ofString "run fault", log)
/-! well-formed code -/
inductive Lv where
  | e
  | s1 (k : Nat)
  | s2 (k : Nat)
noncomputable def WayOk (P : Nat → Prop) (way : Int) : Prop := way = -1 ∨ ∃ l : Nat, way = l ∧ P l
noncomputable def OpdOk : Opd → Prop
  | .num k => k.natAbs ≤ 8
  | .txt => True
noncomputable def Okat (nb : Nat) (P : Nat → Prop) : Lv → List Op → Prop
  | _, [] => False
  | lv, op :: rest => match op, lv with
    | .push o way, .e => WayOk P way ∧ OpdOk o ∧ Okat nb P (.s1 0) rest
    | .push o way, .s1 k => WayOk P way ∧ OpdOk o ∧ k ≤ 1 ∧ Okat nb P (.s2 k) rest
    | .neg way, .s1 k => WayOk P way ∧ Okat nb P (.s1 k) rest
    | .calc _ way, .s2 k => WayOk P way ∧ k ≤ 1 ∧ Okat nb P (.s1 (k + 1)) rest
    | .put l, .s1 _ => P l ∧ Okat nb P .e rest
    | .deed _, .e => Okat nb P .e rest
    | .key _ l, .e => P l ∧ Okat nb P .e rest
    | .test _ l, .e => P l ∧ Okat nb P .e rest
    | .jump l, .e => P l
    | .choose ls, .s1 0 => (∀ l ∈ ls, P l) ∧ ls.length ≤ 100 ∧ Okat nb P .e rest
    | .perform b e, .e => b < nb ∧ 0 ≤ e ∧ Okat nb P .e rest
    | .leave e, .e => 0 ≤ e ∧ Okat nb P .e rest
    | .count _, .s1 0 => Okat nb P .e rest
    | .less _ l, .e => P l ∧ Okat nb P .e rest
    | .stop x, .e => x ≠ Str.ofString "" ∧ (x == Str.ofString "") = false
    | _, _ => False
structure CodeOk (ops : List Op) (begins : List Nat) (P : Nat → Prop) : Prop where
  at_ : ∀ l, P l → Okat begins.length P .e (ops.drop l)
  zero : P 0
  begs : ∀ b ∈ begins, P b
  small : ops.length ≤ 100000
noncomputable def VOk : Nat → Int → Prop
  | 0, v => ∃ n : Int, v = n * one30 ∧ n.natAbs ≤ 8
  | 1, v => v.natAbs ≤ 16777216 * 10 ^ 30
  | _, _ => True
noncomputable def StkOk : Lv → List Int → Prop
  | .e, st => st = []
  | .s1 k, st => ∃ v, st = [v] ∧ VOk k v
  | .s2 k, st => ∃ v n, st = [v, n * one30] ∧ VOk k v ∧ n.natAbs ≤ 8 
structure StOk (ops : List Op) (begins : List Nat) (P : Nat → Prop) (s : St) : Prop where
  at_ : ∃ lv, Okat begins.length P lv (ops.drop s.place) ∧ StkOk lv s.stack
  frs : ∃ f r, s.frames = f :: r ∧ f.last = -1 ∧ ∀ g ∈ r, ∃ l : Nat, g.behind = l ∧ Okat begins.length P .e (ops.drop l)
  few : s.frames.length ≤ 21
theorem okat_op {nb : Nat} {P : Nat → Prop} {lv : Lv} {ops : List Op} {pl : Nat} (h : Okat nb P lv (ops.drop pl)) : ∃ op, ops[pl]? = some op ∧ ops.drop pl = op :: ops.drop (pl + 1) ∧ pl < ops.length := by
  have hlt : pl < ops.length := by
    rcases Nat.lt_or_ge pl ops.length with q | q
    · exact q
    · rw [List.drop_of_length_le q] at h
      cases lv <;> exact h.elim
  exact ⟨ops[pl], List.getElem?_eq_getElem hlt, List.drop_eq_getElem_cons hlt, hlt⟩
end
section
theorem VOk.neg : ∀ {k : Nat} {v : Int}, VOk k v → VOk k (-v)
  | 0, v, ⟨n, e, h⟩ => ⟨-n, by rw [e]; exact (Int.neg_mul ..).symm, by omega⟩
  | 1, v, h => by show (-v).natAbs ≤ _; rw [Int.natAbs_neg]; exact h
  | _ + 2, _, _ => trivial
theorem VOk.one : ∀ {k : Nat} {v : Int}, k ≤ 1 → VOk k v → v.natAbs ≤ 16777216 * 10 ^ 30
  | 0, v, _, ⟨n, e, h⟩ => by rw [e, Int.natAbs_mul]; exact Nat.mul_le_mul (by omega) (by decide)
  | 1, v, _, h => h
  | _ + 2, _, h, _ => by omega
theorem natAbs_tdiv_le {a b : Int} {c : Nat} (hb : b ≠ 0) (h : a.natAbs ≤ c * b.natAbs) : (Int.tdiv a b).natAbs ≤ c := by
  rw [Int.natAbs_tdiv]
  exact Nat.div_le_of_le_mul (by rw [Nat.mul_comm]; exact h)
theorem calc_ok {sg : Sgn} {a n v : Int} (ha : VOk 0 a) (hn : n.natAbs ≤ 8) (h : calcA sg a n = some v) : v.natAbs ≤ 16777216 * 10 ^ 30 := by
  obtain ⟨m, rfl, hm⟩ := ha
  have h1 : (10 ^ 30 : Int).natAbs = 10 ^ 30 := by decide
  cases sg with
  | add =>
    simp only [calcA, Option.some.injEq] at h
    subst h
    rw [← Int.add_mul, Int.natAbs_mul, h1]
    exact Nat.mul_le_mul_right _ (by omega)
  | sub =>
    simp only [calcA, Option.some.injEq] at h
    subst h
    rw [← Int.sub_mul, Int.natAbs_mul, h1]
    exact Nat.mul_le_mul_right _ (by omega)
  | mul =>
    simp only [calcA, Option.some.injEq] at h
    subst h
    have := cutA_le (m * one30) (n * one30) (M := 8) (by rw [Int.natAbs_mul, h1]; exact Nat.mul_le_mul_right _ hn)
    refine Nat.le_trans this ?_
    rw [Int.natAbs_mul, h1]
    have : m.natAbs * 10 ^ 30 * 8 ≤ 8 * 10 ^ 30 * 8 := Nat.mul_le_mul_right _ (Nat.mul_le_mul_right _ hm)
    exact Nat.le_trans this (by decide)
  | div =>
    simp only [calcA] at h
    split at h
    · cases h
    · rename_i hz
      simp only [Option.some.injEq] at h
      subst h
      unfold quoA
      refine natAbs_tdiv_le ?_ ?_
      · exact fun q => hz (by rcases Int.mul_eq_zero.mp q with q | q; exact q; exact absurd q (by decide))
      · rw [Int.natAbs_mul, Int.natAbs_mul, Int.natAbs_mul, h1]
        have : 1 ≤ n.natAbs := by omega
        have e1 : m.natAbs * 10 ^ 30 * 10 ^ 30 ≤ 8 * 10 ^ 30 * 10 ^ 30 := Nat.mul_le_mul_right _ (Nat.mul_le_mul_right _ hm)
        have e2 : 16777216 * 10 ^ 30 * (1 * 10 ^ 30) ≤ 16777216 * 10 ^ 30 * (n.natAbs * 10 ^ 30) := Nat.mul_le_mul_left _ (Nat.mul_le_mul_right _ this)
        exact Nat.le_trans (Nat.le_trans e1 (by decide)) e2
  | pow =>
    have hp := powA_le (x := m * one30) (M := 8) (by rw [Int.natAbs_mul, h1]; exact Nat.mul_le_mul_right _ hm) n.natAbs
    have h8 : (8 : Nat) ^ n.natAbs ≤ 8 ^ 8 := Nat.pow_le_pow_right (by decide) hn
    simp only [calcA] at h
    split at h
    · cases h
    · split at h
      · simp only [Option.some.injEq] at h
        subst h
        have := Nat.mul_le_mul_left (10 ^ 30) h8
        exact Nat.le_trans (Nat.le_trans hp this) (by decide)
      · split at h
        · cases h
        · rename_i hz
          simp only [Option.some.injEq] at h
          subst h
          unfold quoA
          refine Nat.le_trans (natAbs_tdiv_le (c := 10 ^ 30) hz ?_) (by decide)
          have key : ∃ M : Int, powA (m * one30) n.natAbs = M * one30 := by
            generalize n.natAbs = i
            clear hp h8 hz
            induction i with
            | zero => exact ⟨1, by unfold powA; simp⟩
            | succ i ih =>
              obtain ⟨M, e⟩ := ih
              refine ⟨M * m, ?_⟩
              unfold powA
              rw [e]
              unfold cutA
              rw [show M * one30 * (m * one30) = (M * m * one30) * one30 by simp only [Int.mul_assoc, Int.mul_comm, Int.mul_left_comm]]
              exact Int.mul_tdiv_cancel _ (by decide)
          obtain ⟨M, e⟩ := key
          rw [e] at hz ⊢
          have hM : 1 ≤ M.natAbs := by
            have : M ≠ 0 := fun q => hz (by rw [q]; simp)
            omega
          rw [Int.natAbs_mul, Int.natAbs_mul, h1]
          exact Nat.mul_le_mul_left _ (by have := Nat.mul_le_mul_right (10 ^ 30) hM; omega)
theorem calc_vok {sg : Sgn} {a n v : Int} : ∀ {k : Nat}, k ≤ 1 → VOk k a → n.natAbs ≤ 8 → calcA sg a n = some v → VOk (k + 1) v
  | 0, _, h, hn, e => calc_ok h hn e
  | 1, _, _, _, _ => trivial
  | _ + 2, h, _, _, _ => by omega
theorem kdiv (n : Int) : n * one30 / one30 = n := Int.mul_ediv_cancel _ (by decide)
section
variable {ops : List Op} {begins : List Nat} {P : Nat → Prop} {s s' : St} {op : Op}
theorem frs_top (h : ∃ f r, s.frames = f :: r ∧ f.last = -1 ∧ ∀ g ∈ r, ∃ l : Nat, g.behind = l ∧ Okat begins.length P .e (ops.drop l)) {f' : Fr} (hf : ∀ f, s.frames.getLast? = some f → f'.last = f.last ∧ f'.behind = f.behind) :
    ∃ f r, setTop s.frames f' = f :: r ∧ f.last = -1 ∧ ∀ g ∈ r, ∃ l : Nat, g.behind = l ∧ Okat begins.length P .e (ops.drop l) := by
  obtain ⟨f, r, e, h1, h2⟩ := h
  rw [e] at hf ⊢
  unfold setTop
  rcases List.eq_nil_or_concat r with rfl | ⟨r', g, rfl⟩
  · obtain ⟨q1, q2⟩ := hf f rfl
    exact ⟨f', [], rfl, q1.trans h1, fun _ h => (nomatch h)⟩
  · rw [List.concat_eq_append] at *
    obtain ⟨q1, q2⟩ := hf g (by rw [← List.cons_append, List.getLast?_append]; simp)
    refine ⟨f, r' ++ [f'], by rw [← List.cons_append, List.dropLast_concat]; rfl, h1, fun x hx => ?_⟩
    rcases List.mem_append.mp hx with q | q
    · exact h2 x (List.mem_append_left _ q)
    · rw [List.mem_singleton.mp q, q2]; exact h2 g (List.mem_append_right _ (.head _))
theorem setTop_len {fs : List Fr} {f f' : Fr} (h : fs.getLast? = some f) : (setTop fs f').length = fs.length := by
  unfold setTop
  have : fs ≠ [] := fun e => by rw [e] at h; cases h
  have := List.length_pos_iff.mpr this
  simp; omega
theorem step_ok (C : CodeOk ops begins P) (S : StOk ops begins P s) (ho : ops[s.place]? = some op) (h : stepOp begins s op = .go s') : StOk ops begins P s' := by
  obtain ⟨⟨lv, hO, hS⟩, hF, hL⟩ := S
  obtain ⟨op', e1, e2, e3⟩ := okat_op hO
  rw [ho] at e1
  cases e1
  rw [e2] at hO
  have jmp : ∀ {l : Nat}, P l → ∃ lv, Okat begins.length P lv (ops.drop l) ∧ StkOk lv [] := fun hl => ⟨.e, C.at_ _ hl, rfl⟩
  have way_ok : ∀ {way : Int}, WayOk P way → ¬ way < 0 → P way.toNat := fun hw hn => by
    rcases hw with q | ⟨l, q, hl⟩
    · omega
    · rw [q]; exact hl
  cases op with
  | push o way =>
    cases lv with
    | s2 k => exact hO.elim
    | e =>
      obtain ⟨hw, ho, hr⟩ := hO
      have hS : s.stack = [] := hS
      cases o with
      | num k =>
        simp only [stepOp, Out.go.injEq] at h
        subst h
        exact ⟨⟨.s1 0, hr, k * one30, by rw [hS]; rfl, k, rfl, ho⟩, hF, hL⟩
      | txt =>
        simp only [stepOp] at h
        split at h
        · cases h
        · rename_i q
          simp only [Out.go.injEq] at h
          subst h
          exact ⟨jmp (way_ok hw q), hF, hL⟩
    | s1 k =>
      obtain ⟨hw, ho, hk, hr⟩ := hO
      obtain ⟨v, hS, hv⟩ := hS
      cases o with
      | num n =>
        simp only [stepOp, Out.go.injEq] at h
        subst h
        exact ⟨⟨.s2 k, hr, v, n, by rw [hS]; rfl, hv, ho⟩, hF, hL⟩
      | txt =>
        simp only [stepOp] at h
        split at h
        · cases h
        · rename_i q
          simp only [Out.go.injEq] at h
          subst h
          exact ⟨jmp (way_ok hw q), hF, hL⟩
  | neg way =>
    cases lv with
    | e => exact hO.elim
    | s2 k => exact hO.elim
    | s1 k =>
      obtain ⟨hw, hr⟩ := hO
      obtain ⟨v, hS, hv⟩ := hS
      simp only [stepOp, Out.go.injEq] at h
      subst h
      exact ⟨⟨.s1 k, hr, -v, by rw [hS]; rfl, hv.neg⟩, hF, hL⟩
  | «calc» sg way =>
    cases lv with
    | e => exact hO.elim
    | s1 k => exact hO.elim
    | s2 k =>
      obtain ⟨hw, hk, hr⟩ := hO
      obtain ⟨v, n, hS, hv, hn⟩ := hS
      have hb : s.stack.getLast?.getD 0 / one30 = n := by rw [hS]; exact kdiv n
      have ha : s.stack.dropLast.getLast?.getD 0 = v := by rw [hS]; rfl
      simp only [stepOp, hb, ha] at h
      split at h
      · rename_i u hu
        simp only [Out.go.injEq] at h
        subst h
        exact ⟨⟨.s1 (k + 1), hr, u, by rw [hS]; rfl, calc_vok hk hv hn hu⟩, hF, hL⟩
      · split at h
        · cases h
        · rename_i q
          simp only [Out.go.injEq] at h
          subst h
          exact ⟨jmp (way_ok hw q), hF, hL⟩
  | put l =>
    cases lv with
    | e => exact hO.elim
    | s2 k => exact hO.elim
    | s1 k =>
      obtain ⟨hl, hr⟩ := hO
      obtain ⟨v, hS, hv⟩ := hS
      simp only [stepOp, Out.go.injEq] at h
      subst h
      have e0 : s.stack.dropLast = [] := by rw [hS]; rfl
      refine ⟨?_, hF, hL⟩
      rw [e0]
      dsimp only
      split
      · exact jmp hl
      · exact ⟨.e, hr, rfl⟩
  | deed n =>
    cases lv with
    | s1 k => exact hO.elim
    | s2 k => exact hO.elim
    | e =>
      have hO : Okat begins.length P .e (ops.drop (s.place + 1)) := hO
      have hS : s.stack = [] := hS
      simp only [stepOp, Out.go.injEq] at h
      subst h
      exact ⟨⟨.e, hO, hS⟩, hF, hL⟩
  | key x l =>
    cases lv with
    | s1 k => exact hO.elim
    | s2 k => exact hO.elim
    | e =>
      obtain ⟨hl, hr⟩ := hO
      have hS : s.stack = [] := hS
      simp only [stepOp, Out.go.injEq] at h
      subst h
      refine ⟨?_, hF, hL⟩
      dsimp only
      rw [hS]
      split
      · exact ⟨.e, hr, rfl⟩
      · exact jmp hl
  | test n l =>
    cases lv with
    | s1 k => exact hO.elim
    | s2 k => exact hO.elim
    | e =>
      obtain ⟨hl, hr⟩ := hO
      have hS : s.stack = [] := hS
      simp only [stepOp, Out.go.injEq] at h
      subst h
      refine ⟨?_, hF, hL⟩
      dsimp only
      rw [hS]
      split
      · exact ⟨.e, hr, rfl⟩
      · exact jmp hl
  | jump l =>
    cases lv with
    | s1 k => exact hO.elim
    | s2 k => exact hO.elim
    | e =>
      have hO : P l := hO
      have hS : s.stack = [] := hS
      simp only [stepOp, Out.go.injEq] at h
      subst h
      exact ⟨by dsimp only; rw [hS]; exact jmp hO, hF, hL⟩
  | choose ls =>
    cases lv with
    | e => exact hO.elim
    | s2 k => exact hO.elim
    | s1 k =>
      cases k with
      | succ k => exact hO.elim
      | zero =>
        obtain ⟨hl, hn, hr⟩ := hO
        obtain ⟨v, hS, hv⟩ := hS
        simp only [stepOp, Out.go.injEq] at h
        subst h
        have e0 : s.stack.dropLast = [] := by rw [hS]; rfl
        refine ⟨?_, hF, hL⟩
        dsimp only
        rw [e0]
        split
        · rename_i q
          refine jmp (hl _ ?_)
          have : (s.stack.getLast?.getD 0 / one30 - 1).toNat < ls.length := by omega
          rw [List.getD_eq_getElem?_getD, List.getElem?_eq_getElem this]
          exact List.getElem_mem this
        · exact ⟨.e, hr, rfl⟩
  | perform b e =>
    cases lv with
    | s1 k => exact hO.elim
    | s2 k => exact hO.elim
    | e =>
      obtain ⟨hb, he, hr⟩ := hO
      have hS : s.stack = [] := hS
      simp only [stepOp] at h
      split at h
      · cases h
      · rename_i q
        simp only [Out.go.injEq] at h
        subst h
        refine ⟨?_, ?_, ?_⟩
        · dsimp only
          rw [hS]
          refine jmp (C.begs _ ?_)
          rw [List.getD_eq_getElem?_getD, List.getElem?_eq_getElem hb]
          exact List.getElem_mem hb
        · obtain ⟨f, r, e1, e2, e3⟩ := hF
          refine ⟨f, r ++ [⟨e, s.place + 1, fun _ => 0⟩], by dsimp only; rw [e1]; rfl, e2, fun g hg => ?_⟩
          rcases List.mem_append.mp hg with q | q
          · exact e3 g q
          · rw [List.mem_singleton.mp q]; exact ⟨s.place + 1, rfl, hr⟩
        · dsimp only
          rw [List.length_append, List.length_singleton]
          omega
  | leave e =>
    cases lv with
    | s1 k => exact hO.elim
    | s2 k => exact hO.elim
    | e =>
      obtain ⟨he, hr⟩ := hO
      have hS : s.stack = [] := hS
      simp only [stepOp] at h
      obtain ⟨f, r, e1, e2, e3⟩ := hF
      split at h
      · rename_i g hg
        split at h
        · rename_i hq
          simp only [Out.go.injEq] at h
          subst h
          rw [e1] at hg
          rcases List.eq_nil_or_concat r with rfl | ⟨r', g', rfl⟩
          · simp only [List.getLast?_singleton, Option.some.injEq] at hg
            subst hg
            omega
          · rw [List.concat_eq_append] at *
            rw [← List.cons_append, List.getLast?_append] at hg
            simp only [List.getLast?_singleton, Option.some_or, Option.some.injEq] at hg
            subst hg
            obtain ⟨l, h1, h2⟩ := e3 g' (List.mem_append_right _ (.head _))
            refine ⟨⟨.e, by dsimp only; rw [h1]; exact h2, hS⟩, ⟨f, r', by dsimp only; rw [e1, ← List.cons_append, List.dropLast_concat], e2, fun x hx => e3 x (List.mem_append_left _ hx)⟩, ?_⟩
            dsimp only
            rw [List.length_dropLast]; omega
        · simp only [Out.go.injEq] at h
          subst h
          exact ⟨⟨.e, hr, hS⟩, ⟨f, r, e1, e2, e3⟩, hL⟩
      · rename_i hg
        rw [e1] at hg
        simp at hg
  | count n =>
    cases lv with
    | e => exact hO.elim
    | s2 k => exact hO.elim
    | s1 k =>
      cases k with
      | succ k => exact hO.elim
      | zero =>
        have hr : Okat begins.length P .e (ops.drop (s.place + 1)) := hO
        obtain ⟨v, hS, hv⟩ := hS
        have e0 : s.stack.dropLast = [] := by rw [hS]; rfl
        simp only [stepOp] at h
        split at h
        · rename_i g hg
          simp only [Out.go.injEq] at h
          subst h
          exact ⟨⟨.e, hr, e0⟩, frs_top hF fun f hf => by rw [hg] at hf; cases hf; exact ⟨rfl, rfl⟩, by dsimp only; rw [setTop_len hg]; exact hL⟩
        · rename_i hg
          obtain ⟨f, r, e1, e2, e3⟩ := hF
          rw [e1] at hg
          simp at hg
  | less n l =>
    cases lv with
    | s1 k => exact hO.elim
    | s2 k => exact hO.elim
    | e =>
      obtain ⟨hl, hr⟩ := hO
      have hS : s.stack = [] := hS
      simp only [stepOp] at h
      split at h
      · rename_i g hg
        split at h
        · simp only [Out.go.injEq] at h
          subst h
          exact ⟨⟨.e, hr, hS⟩, frs_top hF fun f hf => by rw [hg] at hf; cases hf; exact ⟨rfl, rfl⟩, by dsimp only; rw [setTop_len hg]; exact hL⟩
        · simp only [Out.go.injEq] at h
          subst h
          exact ⟨by dsimp only; rw [hS]; exact jmp hl, hF, hL⟩
      · rename_i hg
        obtain ⟨f, r, e1, e2, e3⟩ := hF
        rw [e1] at hg
        simp at hg
  | stop x => simp only [stepOp] at h; cases h
end
end
section
theorem bind1 {h : Heap} {n₁ : Str} {a₁ : AV} {vs : List Value} {names : List (Str × NameKind)} (rs : RVs h vs [a₁]) (hl : (names.lookup n₁ == some .local) = true) {P : List Value → List (Str × Value) → Prop} (hp : ∀ v, P [v] [(n₁, v)]) :
    ∃ binds, P vs binds ∧ (∀ y ∈ binds, names.lookup y.1 = some .local) ∧ ∀ p ∈ [(n₁, a₁)], ∃ v, (binds.reverse : List (Str × Value)).lookup p.1 = some v ∧ RV h v p.2 := by
  obtain ⟨v, rfl, r⟩ := rs.one
  refine ⟨[(n₁, v)], hp v, fun y hy => ?_, fun p hp => ?_⟩
  · rw [List.mem_singleton.mp hy]; simpa using hl
  · rw [List.mem_singleton.mp hp]; exact ⟨v, by simp, r⟩
theorem bind2 {h : Heap} {n₁ n₂ : Str} {a₁ a₂ : AV} {vs : List Value} {names : List (Str × NameKind)} (rs : RVs h vs [a₁, a₂]) (hl : (names.lookup n₁ == some .local && names.lookup n₂ == some .local && !(n₁ == n₂)) = true) {P : List Value → List (Str × Value) → Prop} (hp : ∀ v u, P [v, u] [(n₁, v), (n₂, u)]) :
    ∃ binds, P vs binds ∧ (∀ y ∈ binds, names.lookup y.1 = some .local) ∧ ∀ p ∈ [(n₁, a₁), (n₂, a₂)], ∃ v, (binds.reverse : List (Str × Value)).lookup p.1 = some v ∧ RV h v p.2 := by
  simp only [Bool.and_eq_true, beq_iff_eq, Bool.not_eq_true'] at hl
  obtain ⟨v, u, rfl, r, q⟩ := rs.two
  refine ⟨[(n₁, v), (n₂, u)], hp v u, fun y hy => ?_, fun p hp => ?_⟩
  · simp only [List.mem_cons, List.not_mem_nil, or_false] at hy
    rcases hy with rfl | rfl
    · exact hl.1.1
    · exact hl.1.2
  · simp only [List.mem_cons, List.not_mem_nil, or_false] at hp
    rcases hp with rfl | rfl
    · exact ⟨v, by simp [List.lookup_cons, hl.2], r⟩
    · exact ⟨u, by simp [List.lookup_cons], q⟩
theorem fmod_range (n : Int) {k : Int} (hk : 0 < k) : 0 ≤ Int.fmod n k ∧ Int.fmod n k < k := by
  rw [Int.fmod_eq_emod_of_nonneg _ (by omega)]
  exact ⟨Int.emod_nonneg _ (by omega), Int.emod_lt_of_pos _ hk⟩
theorem words4_get (n : Int) : [AV.str (Str.ofString ""), AV.str (Str.ofString "end"), AV.str (Str.ofString "size"), AV.str (Str.ofString "")][(Int.fmod n 4).toNat]? = some (AV.str (words4 n)) := by
  obtain ⟨h1, h2⟩ := fmod_range n (k := 4) (by decide)
  unfold words4
  generalize Int.fmod n 4 = r at h1 h2 ⊢
  have : r = 0 ∨ r = 1 ∨ r = 2 ∨ r = 3 := by omega
  rcases this with rfl | rfl | rfl | rfl <;> rfl
variable {w : World} {b0 : Heap} {T T' : Store} {Q : AV → Store → Prop} {X : Addr → Store → Prop} {lg cA : Addr} {log : List AV}
set_option maxHeartbeats 1000000
theorem deed_do (G : Gd w b0) {n : Int} (U : TU lg (.list log) (.list (log ++ [.tup [sv "do", .tup [sv "deed", .int n]]])) T T') (hcl : (cA, .cell (some (rf lg))) ∈ T) (hz : log.length ≤ 10000) (h : Q (.str (words4 (n + (log ++ [AV.tup [sv "do", .tup [sv "deed", .int n]]]).length))) T') :
    WC w b0 1 true (.clo 0 cA) [.tup [sv "deed", .int n]] T Q X := by
  have hm := U.mem
  have hm2 := U.mem2
  have hc2 := U.other hcl (.inl (fun e => nomatch e))
  refine' wc_cloK (fa := 0) (var := Str.empty) (m₀ := [(Str.ofString "statement", .tup [sv "deed", .int n])]) G ?ho ?hbl ?hcf ?hb ?hs ?_
  case ho => k_is
  case hbl => exact rfl
  case hcf => kernel_rfl
  case hb => exact fun s vs doc pm cdv ct rs => bind1 (P := fun vs binds => BindsTo s _ ⟨vs, []⟩ binds) rs (by kernel_rfl) fun v => BindsTo.of_eq rfl
  case hs => kernel_rfl
  intro L f cdv fl A hc hh
  repeat' cell_call
  exact i_tupk (fmod_range _ (by decide)).1 (Int.lt_trans (fmod_range _ (by decide)).2 (by decide)) (words4_get _) ⟨T', .refl T', h⟩
theorem deed_test (G : Gd w b0) {n : Int} (U : TU lg (.list log) (.list (log ++ [.tup [sv "test", .int n]])) T T') (hcl : (cA, .cell (some (rf lg))) ∈ T) (hz : log.length ≤ 10000) (h : Q (.bool (Int.fmod (n + (log ++ [AV.tup [sv "test", .int n]]).length) 3 != 0)) T') :
    WC w b0 1 true (.clo 1 cA) [.int n] T Q X := by
  have hm := U.mem
  have hm2 := U.mem2
  have hc2 := U.other hcl (.inl (fun e => nomatch e))
  refine' wc_cloK (fa := 0) (var := Str.empty) (m₀ := [(Str.ofString "cond", .int n)]) G ?ho ?hbl ?hcf ?hb ?hs ?_
  case ho => k_is
  case hbl => exact rfl
  case hcf => kernel_rfl
  case hb => exact fun s vs doc pm cdv ct rs => bind1 (P := fun vs binds => BindsTo s _ ⟨vs, []⟩ binds) rs (by kernel_rfl) fun v => BindsTo.of_eq rfl
  case hs => kernel_rfl
  intro L f cdv fl A hc hh
  repeat' cell_call
  all_goals exact h
theorem deed_num (G : Gd w b0) {k : Int} (U : TU lg (.list log) (.list (log ++ [.tup [sv "number", AV.tup [sv "number", .int k]]])) T T') (hcl : (cA, .cell (some (rf lg))) ∈ T) (hz : log.length ≤ 10000) (h : Q (.tup [.int k, .int 0]) T') :
    WC w b0 3 true (.clo 2 cA) [AV.tup [sv "number", .int k]] T Q X := by
  have hm := U.mem
  have hm2 := U.mem2
  have hc2 := U.other hcl (.inl (fun e => nomatch e))
  refine' wc_cloK (fa := 0) (var := Str.empty) (m₀ := [(Str.ofString "operand", AV.tup [sv "number", .int k])]) G ?ho ?hbl ?hcf ?hb ?hs ?_
  case ho => k_is
  case hbl => exact rfl
  case hcf => kernel_rfl
  case hb => exact fun s vs doc pm cdv ct rs => bind1 (P := fun vs binds => BindsTo s _ ⟨vs, []⟩ binds) rs (by kernel_rfl) fun v => BindsTo.of_eq rfl
  case hs => kernel_rfl
  intro L f cdv fl A hc hh
  repeat' cell_call
  all_goals exact h
theorem deed_txt (G : Gd w b0)  (U : TU lg (.list log) (.list (log ++ [.tup [sv "number", AV.tup [sv "text", sv "none"]]])) T T') (hcl : (cA, .cell (some (rf lg))) ∈ T) (hz : log.length ≤ 10000) (h : X 65 T') :
    WC w b0 3 true (.clo 2 cA) [AV.tup [sv "text", sv "none"]] T Q X := by
  have hm := U.mem
  have hm2 := U.mem2
  have hc2 := U.other hcl (.inl (fun e => nomatch e))
  refine' wc_cloK (fa := 0) (var := Str.empty) (m₀ := [(Str.ofString "operand", AV.tup [sv "text", sv "none"])]) G ?ho ?hbl ?hcf ?hb ?hs ?_
  case ho => k_is
  case hbl => exact rfl
  case hcf => kernel_rfl
  case hb => exact fun s vs doc pm cdv ct rs => bind1 (P := fun vs binds => BindsTo s _ ⟨vs, []⟩ binds) rs (by kernel_rfl) fun v => BindsTo.of_eq rfl
  case hs => kernel_rfl
  intro L f cdv fl A hc hh
  repeat' cell_call
  all_goals exact ⟨T', .refl T', h⟩
theorem deed_put (G : Gd w b0) {r : AV} {u v : Int} (U : TU lg (.list log) (.list (log ++ [.tup [sv "put", r, .tup [.int u, .int v]]])) T T') (hcl : (cA, .cell (some (rf lg))) ∈ T) (hz : log.length ≤ 10000) (h : Q (.bool (Int.fmod u 7 == 0)) T') :
    WC w b0 1 true (.clo 3 cA) [r, .tup [.int u, .int v]] T Q X := by
  have hm := U.mem
  have hm2 := U.mem2
  have hc2 := U.other hcl (.inl (fun e => nomatch e))
  refine' wc_cloK (fa := 0) (var := Str.empty) (m₀ := [(Str.ofString "rows", r), (Str.ofString "worth", .tup [.int u, .int v])]) G ?ho ?hbl ?hcf ?hb ?hs ?_
  case ho => k_is
  case hbl => exact rfl
  case hcf => kernel_rfl
  case hb => exact fun s vs doc pm cdv ct rs => bind2 (P := fun vs binds => BindsTo s _ ⟨vs, []⟩ binds) rs (by kernel_rfl) fun v u => BindsTo.of_eq rfl
  case hs => kernel_rfl
  intro L f cdv fl A hc hh
  repeat' cell_call
  all_goals exact h
end
section
theorem flds_miss {n : Str} : ∀ {h : Heap} {es : List DictEntry} {fs : Loc}, (fs.all fun p => !(p.1 == n)) = true → Flds h es fs → getL n es = some none := by
  intro h es
  induction es with
  | nil => intro fs _ _; rfl
  | cons e es ih =>
    intro fs hm hF
    cases fs with
    | nil => exact hF.elim
    | cons f fs =>
      obtain ⟨⟨t, hk⟩, hv, hr⟩ := hF
      rw [List.all_cons, Bool.and_eq_true] at hm
      have h1 := ih hm.2 hr
      have hn' : e.key.isStr n = false := by
        have q : (f.1 == n) = false := by simpa using hm.1
        rw [hk]; exact q
      unfold getL at h1 ⊢
      rw [List.find?_cons, hn']
      have hrk : e.refKey = false := by unfold DictEntry.refKey; rw [hk]
      rw [List.any_cons, hrk]
      simpa using h1
structure MP where
  mc : Addr
  md : Addr
  co : Addr
  cx : Addr
  de : Addr
  dx : Addr
  sk : Addr
  frs : Addr
  lg : Addr
  cA : Addr
structure FrR where
  a : Addr
  d : Addr
  sl : Addr
  kvs : List (Int × AV)
  f : Fr
noncomputable abbrev nm (x : String) : Str := Str.ofString x
noncomputable abbrev frO (r : FrR) : AO := .inst 196 r.d [(Str.ofString "last", .int r.f.last), (Str.ofString "behind", .int r.f.behind), (Str.ofString "slots", rf r.sl)]
noncomputable def FTs : List FrR → Store
  | [] => []
  | r :: rs => (r.a, frO r) :: (r.sl, .idict r.kvs) :: FTs rs
noncomputable abbrev mcO (p : MP) (place : Int) (key word : Str) : AO := .inst 224 p.md [(Str.ofString "code", rf p.co), (Str.ofString "deeds", rf p.de), (Str.ofString "place", .int place), (Str.ofString "stack", rf p.sk), (Str.ofString "frames", rf p.frs), (Str.ofString "key", .str key), (Str.ofString "word", .str word)]
noncomputable abbrev coO (p : MP) (opsA begA : List AV) : AO := .inst 364 p.cx [(Str.ofString "ops", .tup opsA), (Str.ofString "begins", .tup begA)]
noncomputable abbrev deO (p : MP) : AO := .inst 385 p.dx [(Str.ofString "do", .clo 0 p.cA), (Str.ofString "test", .clo 1 p.cA), (Str.ofString "number", .clo 2 p.cA), (Str.ofString "put", .clo 3 p.cA)]
noncomputable abbrev stkA (st : List Int) : List AV := st.map fun v => dec (told v)
/-- the machine's part of the store -/
noncomputable abbrev MTx (p : MP) (opsA begA : List AV) (place : Int) (st : List AV) (key word : Str) (frl : List AV) (log : List AV) (R : Store) : Store :=
  (p.mc, mcO p place key word) :: (p.sk, .list st) :: (p.frs, .list frl) :: (p.lg, .list log) :: (p.co, coO p opsA begA) :: (p.de, deO p) :: (p.cA, .cell (some (rf p.lg))) :: R
end
local macro_rules | `(tactic| kqd_sub) => wFirst "a_own G m1 l1 k1 i1 i2 i3 i4 _|me_field G m1 l1 k1 i1 i2 i3 _|sa_own G u1 p1 z1 i1 i2 i3 i4 _"
section
variable {w : World} {b0 : Heap} {Q : AV → Store → Prop} {X : Addr → Store → Prop} {p : MP} {opsA begA frl log : List AV} {place : Int} {st : List AV} {key word : Str} {R : Store} {l : Int}
set_option maxHeartbeats 1000000
theorem do_jump_c (G : Gd w b0) (h : Q .none (MTx p opsA begA l st key word frl log R)) : WC w b0 1 true (rf 284) [rf p.mc, .tup [sv "jump", .int l]] (MTx p opsA begA place st key word frl log R) Q X := by
  refine' wc_def2 (n₁ := Str.ofString "machine") (n₂ := Str.ofString "op") G ?ho ?hcd ?hb ?hs ?hl ?_
  case ho => k_is
  case hcd => k_is
  case hb => exact fun _ _ _ _ => BindsTo.of_eq rfl
  case hs => kernel_rfl
  case hl => kernel_rfl
  intro L fl A hc hh
  repeat' cell_call
  all_goals exact h
local macro_rules | `(tactic| kat_tups) => wFirst "$deed_do G u1 m1 o1 _|$deed_test G u1 m1 o1 _|$deed_num G u1 m1 o1 _|$deed_txt G u1 m1 o1 _|$deed_put G u1 m1 o1 _"
theorem do_stop_c (G : Gd w b0) {x : Str} (h : Q .none (MTx p opsA begA place st key x frl log R)) : WC w b0 1 true (rf 326) [rf p.mc, .tup [sv "stop", .str x]] (MTx p opsA begA place st key word frl log R) Q X := by
  refine' wc_def2 (n₁ := Str.ofString "machine") (n₂ := Str.ofString "op") G ?ho ?hcd ?hb ?hs ?hl ?_
  case ho => k_is
  case hcd => k_is
  case hb => exact fun _ _ _ _ => BindsTo.of_eq rfl
  case hs => kernel_rfl
  case hl => kernel_rfl
  intro L fl A hc hh
  repeat' cell_call
  all_goals exact h
theorem do_key_c (G : Gd w b0) {x : Str} (h : Q .none (MTx p opsA begA (if key = x then place else l) st key word frl log R)) : WC w b0 1 true (rf 270) [rf p.mc, .tup [sv "key", .str x, .int l]] (MTx p opsA begA place st key word frl log R) Q X := by
  refine' wc_def2 (n₁ := Str.ofString "machine") (n₂ := Str.ofString "op") G ?ho ?hcd ?hb ?hs ?hl ?_
  case ho => k_is
  case hcd => k_is
  case hb => exact fun _ _ _ _ => BindsTo.of_eq rfl
  case hs => kernel_rfl
  case hl => kernel_rfl
  intro L fl A hc hh
  repeat' cell_call
  all_goals (rename_i q)
  all_goals first
    | (rw [if_neg (by simpa using q)] at h; exact h)
    | (rw [if_pos (by simpa using q)] at h; exact h)
theorem do_deed_c (G : Gd w b0) {n : Int} (hz : log.length ≤ 10000) (h : Q .none (MTx p opsA begA place st (words4 (n + (log ++ [AV.tup [sv "do", .tup [sv "deed", .int n]]]).length)) word frl (log ++ [.tup [sv "do", .tup [sv "deed", .int n]]]) R)) : WC w b0 3 true (rf 263) [rf p.mc, .tup [sv "do", .tup [sv "deed", .int n]]] (MTx p opsA begA place st key word frl log R) Q X := by
  refine' wc_def2 (n₁ := Str.ofString "machine") (n₂ := Str.ofString "op") G ?ho ?hcd ?hb ?hs ?hl ?_
  case ho => k_is
  case hcd => k_is
  case hb => exact fun _ _ _ _ => BindsTo.of_eq rfl
  case hs => kernel_rfl
  case hl => kernel_rfl
  intro L fl A hc hh
  repeat' cell_call
  all_goals exact h
theorem do_test_c (G : Gd w b0) {n : Int} (hz : log.length ≤ 10000) (h : Q .none (MTx p opsA begA (if Int.fmod (n + (log ++ [AV.tup [sv "test", .int n]]).length) 3 ≠ 0 then place else l) st key word frl (log ++ [.tup [sv "test", .int n]]) R)) : WC w b0 3 true (rf 277) [rf p.mc, .tup [sv "test", .int n, .int l]] (MTx p opsA begA place st key word frl log R) Q X := by
  refine' wc_def2 (n₁ := Str.ofString "machine") (n₂ := Str.ofString "op") G ?ho ?hcd ?hb ?hs ?hl ?_
  case ho => k_is
  case hcd => k_is
  case hb => exact fun _ _ _ _ => BindsTo.of_eq rfl
  case hs => kernel_rfl
  case hl => kernel_rfl
  intro L fl A hc hh
  repeat' cell_call
  all_goals (rename_i q)
  all_goals first
    | (rw [if_neg (by simpa using q)] at h; exact h)
    | (rw [if_pos (by simpa using q)] at h; exact h)
theorem do_put_c (G : Gd w b0) {v : Int × Nat} (hz : log.length ≤ 10000) (hs : st.length ≤ 1000) (h : Q .none (MTx p opsA begA (if Int.fmod v.1 7 = 0 then l else place) st key word frl (log ++ [.tup [sv "put", sv "rows", dec v]]) R)) : WC w b0 3 true (rf 256) [rf p.mc, .tup [sv "put", sv "rows", .int l]] (MTx p opsA begA place (st ++ [dec v]) key word frl log R) Q X := by
  refine' wc_def2 (n₁ := Str.ofString "machine") (n₂ := Str.ofString "op") G ?ho ?hcd ?hb ?hs ?hl ?_
  case ho => k_is
  case hcd => k_is
  case hb => exact fun _ _ _ _ => BindsTo.of_eq rfl
  case hs => kernel_rfl
  case hl => kernel_rfl
  intro L fl A hc hh
  repeat' cell_call
  all_goals (rename_i q)
  all_goals first
    | (rw [if_neg (by simpa using q)] at h; exact h)
    | (rw [if_pos (by simpa using q)] at h; exact h)
end
local macro_rules | `(tactic| kat_tups) => wFirst "$deed_do G u1 m1 o1 _|$deed_test G u1 m1 o1 _|$deed_num G u1 m1 o1 _|$deed_txt G u1 m1 o1 _|$deed_put G u1 m1 o1 _"
local macro_rules | `(tactic| kqd_sub) => wFirst "si_idict u1 o1 _"
local macro_rules | `(tactic| kqd_all) => wFirst "i_last m1 o1 _"
local macro_rules | `(tactic| kat_tups) => wFirst "k_get m1 _"
local macro_rules | `(tactic| ke_read) => wFirst "e_dict0 G F1"
section
variable {w : World} {b0 : Heap} {Q : AV → Store → Prop} {X : Addr → Store → Prop} {p : MP} {opsA begA frl log : List AV} {place : Int} {st : List AV} {key word : Str} {R T : Store} {l : Int}
set_option maxHeartbeats 1000000
theorem frame_init (G : Gd w b0) {x d : Addr} {u v : Int} (h : ∀ z, Q .none ((z, .idict []) :: (x, .inst 196 d [(Str.ofString "last", .int u), (Str.ofString "behind", .int v), (Str.ofString "slots", rf z)]) :: T)) : WC w b0 1 true (rf 193) [rf x, .int u, .int v] ((x, .inst 196 d []) :: T) Q X := by
  refine' wc_def3 (n₁ := Str.ofString "self") (n₂ := Str.ofString "last") (n₃ := Str.ofString "behind") G ?ho ?hcd ?hb ?hs ?hl ?_
  case ho => k_is
  case hcd => k_is
  case hb => exact fun _ _ _ _ _ => BindsTo.of_eq rfl
  case hs => kernel_rfl
  case hl => kernel_rfl
  intro L fl A hc hh
  repeat' cell_call
  all_goals exact h _
theorem k_frame {c : Cx} {n : Nat} {m : Loc} {Q : AV → Loc → Store → Prop} {X : Addr → Loc → Store → Prop} (G : Gd w b0) {u v : Int} (hc : c.Ok n) (hle : 2 ≤ n) (hh : c.A.handled = none) (h : ∀ x d z, Q (rf x) m ((z, .idict []) :: (x, .inst 196 d [(Str.ofString "last", .int u), (Str.ofString "behind", .int v), (Str.ofString "slots", rf z)]) :: T)) : CallQ w b0 c (rf 196) [.int u, .int v] m T Q X := by
  refine' k_make (n := 1) (hn := true) G ?hm ?hi ?hf (fun x d => ?_) hc hle (fun _ => hh)
  case hm => k_is
  case hi => k_is
  case hf => k_is
  exact frame_init G fun z => ⟨rfl, h x d z⟩
local macro_rules | `(tactic| kat_tups) => wFirst "k_frame G C d1 h1 F3"
theorem do_choose_c (G : Gd w b0) {ls : List Nat} {n : Int} (hn : n.natAbs ≤ 8) (hl : ls.length ≤ 100) (hst : st.length ≤ 1000) (h : Q .none (MTx p opsA begA (if 1 ≤ n ∧ n ≤ ls.length then ((ls.getD (n - 1).toNat 0 : Nat) : Int) else place) st key word frl log R)) : WC w b0 4 true (rf 291) [rf p.mc, .tup [sv "choose", .tup (ls.map fun (l : Nat) => .int (l : Int))]] (MTx p opsA begA place (st ++ [.tup [.int n, .int 0]]) key word frl log R) Q X := by
  have sn : Small n := Small.of_lt (n := 2) (by omega)
  have hx1 : (ls.map fun (l : Nat) => AV.int (l : Int)).length = ls.length := by simp
  have hx2 : ∀ k : Nat, k < ls.length → (ls.map fun (l : Nat) => AV.int (l : Int))[k]? = some (.int ((ls.getD k 0 : Nat) : Int)) := fun k hk => by simp [List.getElem?_eq_getElem hk]
  generalize (ls.map fun (l : Nat) => AV.int (l : Int)) = xs at hx1 hx2 ⊢
  refine' wc_def2 (n₁ := Str.ofString "machine") (n₂ := Str.ofString "op") G ?ho ?hcd ?hb ?hs ?hl ?_
  case ho => k_is
  case hcd => k_is
  case hb => exact fun _ _ _ _ => BindsTo.of_eq rfl
  case hs => kernel_rfl
  case hl => kernel_rfl
  intro L fl A hc hh
  repeat' cell_call
  · rename_i q1 q2
    have q1 := of_decide_eq_true q1
    have q2 := of_decide_eq_true q2
    have q3 : n ≤ ls.length := by omega
    refine i_tupk (a := .int ((ls.getD (n - 1).toNat 0 : Nat) : Int)) (by omega) (by omega) (hx2 _ (by omega)) ?_
    rw [if_pos ⟨q1, q3⟩] at h
    repeat' cell_call
  · rename_i q1 q2
    have q2 := of_decide_eq_false q2
    rw [if_neg (by omega)] at h
    exact h
  · rename_i q1
    have q1 := of_decide_eq_false q1
    rw [if_neg (by omega)] at h
    exact h
theorem begin_frame_c (G : Gd w b0) {b e : Int} {begs : List Nat} (hb0 : 0 ≤ b) (hb1 : b < begs.length) (hz : begs.length ≤ 100) (hbg : begA = begs.map fun (l : Nat) => .int (l : Int)) (hf : frl.length ≤ 21)
    (hx : frl.length = 21 → X 53 (MTx p opsA begA place st key word frl log R))
    (h : frl.length < 21 → ∀ x d z, Q .none (MTx p opsA begA ((begs.getD b.toNat 0 : Nat) : Int) st key word (frl ++ [rf x]) log ((x, frO ⟨x, d, z, [], ⟨e, place, fun _ => 0⟩⟩) :: (z, .idict []) :: R))) : WC w b0 3 true (rf 298) [rf p.mc, .tup [sv "perform", .int b, .int e]] (MTx p opsA begA place st key word frl log R) Q X := by
  have hx2 : begA[b.toNat]? = some (.int ((begs.getD b.toNat 0 : Nat) : Int)) := by
    rw [hbg]
    have : b.toNat < begs.length := by omega
    simp [List.getElem?_eq_getElem this]
  refine WC.drop ?_
  refine' wc_def2 (n₁ := Str.ofString "machine") (n₂ := Str.ofString "op") G ?ho ?hcd ?hb ?hs ?hl ?_
  case ho => k_is
  case hcd => k_is
  case hb => exact fun _ _ _ _ => BindsTo.of_eq rfl
  case hs => kernel_rfl
  case hl => kernel_rfl
  intro L fl A hc hh
  repeat' cell_call
  · rename_i q
    have q := of_decide_eq_true q
    exact ⟨_, .refl _, _, .refl _, hx (by omega)⟩
  · rename_i q x d z
    have q := of_decide_eq_false q
    refine i_tupk (a := .int ((begs.getD b.toNat 0 : Nat) : Int)) (by omega) (by omega) hx2 ?_
    repeat' cell_call
    exact ⟨_, Sb.pull (l := [_, _, _, _, _, _, _, _]) (Sb.pull (l := [_, _, _, _, _, _, _]) (Sb.refl _)), h (by omega) x d z⟩
theorem leave_frame_c (G : Gd w b0) {r : FrR} {e : Int} (hf : frl.length ≤ 21)
    (h0 : r.f.last = e → Q .none (MTx p opsA begA r.f.behind st key word frl log ((r.a, frO r) :: (r.sl, .idict r.kvs) :: R)))
    (h1 : r.f.last ≠ e → Q .none (MTx p opsA begA place st key word (frl ++ [rf r.a]) log ((r.a, frO r) :: (r.sl, .idict r.kvs) :: R))) : WC w b0 1 true (rf 305) [rf p.mc, .tup [sv "leave", .int e]] (MTx p opsA begA place st key word (frl ++ [rf r.a]) log ((r.a, frO r) :: (r.sl, .idict r.kvs) :: R)) Q X := by
  refine' wc_def2 (n₁ := Str.ofString "machine") (n₂ := Str.ofString "op") G ?ho ?hcd ?hb ?hs ?hl ?_
  case ho => k_is
  case hcd => k_is
  case hb => exact fun _ _ _ _ => BindsTo.of_eq rfl
  case hs => kernel_rfl
  case hl => kernel_rfl
  intro L fl A hc hh
  repeat' cell_call
  all_goals (rename_i q)
  all_goals first
    | exact h0 (by simpa using q)
    | exact h1 (by simpa using q)
theorem do_count_c (G : Gd w b0) {r : FrR} {n j : Int} (hn : n.natAbs ≤ 8) (hf : frl.length ≤ 21) (hst : st.length ≤ 1000) (hk : r.kvs.length ≤ 16777216)
    (h : Q .none (MTx p opsA begA place st key word (frl ++ [rf r.a]) log ((r.a, frO r) :: (r.sl, .idict (putA r.kvs j (.int n))) :: R))) : WC w b0 4 true (rf 312) [rf p.mc, .tup [sv "count", .int j]] (MTx p opsA begA place (st ++ [.tup [.int n, .int 0]]) key word (frl ++ [rf r.a]) log ((r.a, frO r) :: (r.sl, .idict r.kvs) :: R)) Q X := by
  have sn : Small n := Small.of_lt (n := 2) (by omega)
  refine' wc_def2 (n₁ := Str.ofString "machine") (n₂ := Str.ofString "op") G ?ho ?hcd ?hb ?hs ?hl ?_
  case ho => k_is
  case hcd => k_is
  case hb => exact fun _ _ _ _ => BindsTo.of_eq rfl
  case hs => kernel_rfl
  case hl => kernel_rfl
  intro L fl A hc hh
  repeat' cell_call
  all_goals exact h
theorem do_less_c (G : Gd w b0) {r : FrR} {j v : Int} (hg : (getA r.kvs j).getD (.int 0) = .int v) (hf : frl.length ≤ 21) (hk : r.kvs.length ≤ 16777216)
    (h0 : 0 < v → Q .none (MTx p opsA begA place st key word (frl ++ [rf r.a]) log ((r.a, frO r) :: (r.sl, .idict (putA r.kvs j (.int (v - 1)))) :: R)))
    (h1 : ¬ 0 < v → Q .none (MTx p opsA begA l st key word (frl ++ [rf r.a]) log ((r.a, frO r) :: (r.sl, .idict r.kvs) :: R))) : WC w b0 1 true (rf 319) [rf p.mc, .tup [sv "less", .int j, .int l]] (MTx p opsA begA place st key word (frl ++ [rf r.a]) log ((r.a, frO r) :: (r.sl, .idict r.kvs) :: R)) Q X := by
  refine' wc_def2 (n₁ := Str.ofString "machine") (n₂ := Str.ofString "op") G ?ho ?hcd ?hb ?hs ?hl ?_
  case ho => k_is
  case hcd => k_is
  case hb => exact fun _ _ _ _ => BindsTo.of_eq rfl
  case hs => kernel_rfl
  case hl => kernel_rfl
  intro L fl A hc hh
  repeat' cell_call
  rw [hg]
  repeat' cell_call
  · rename_i q
    have q := of_decide_eq_true q
    have hg' : getA r.kvs j = some (.int v) := by
      cases e : getA r.kvs j with
      | none => rw [e] at hg; injection hg with hg; omega
      | some a => rw [e] at hg; simp at hg; rw [hg]
    refine i_idict (by mem_news) hg' ?_
    have h0 := h0 q
    repeat' cell_call
    all_goals exact h0
  · rename_i q
    exact h1 (of_decide_eq_false q)
end
local macro_rules | `(tactic| kat_tups) => wFirst "k_frame G C d1 h1 F3"
section
theorem strip_neg (u : Int) : ∀ k, strip (-u) k = (-(strip u k).1, (strip u k).2) := by
  intro k
  induction k generalizing u with
  | zero => rfl
  | succ k ih =>
    unfold strip
    have e : Int.fmod (-u) 10 = 0 ↔ Int.fmod u 10 = 0 := by
      rw [Int.fmod_eq_emod_of_nonneg _ (by decide), Int.fmod_eq_emod_of_nonneg _ (by decide)]; omega
    by_cases q : Int.fmod u 10 = 0
    · have e2 : Int.fdiv (-u) 10 = -(Int.fdiv u 10) := by
        have q' := q
        rw [Int.fmod_eq_emod_of_nonneg _ (by decide)] at q'
        rw [Int.fdiv_eq_ediv_of_nonneg _ (by decide), Int.fdiv_eq_ediv_of_nonneg _ (by decide)]; omega
      rw [if_pos q, if_pos (e.mpr q), e2]; exact ih _
    · rw [if_neg q, if_neg (fun z => q (e.mp z))]
theorem told_neg (x : Int) : told (-x) = (-(told x).1, (told x).2) := strip_neg x 30
local macro_rules | `(tactic| kas_types) => wFirst "kli n1 F1"
variable {w : World} {b0 : Heap} {Q : AV → Store → Prop} {X : Addr → Store → Prop} {p : MP} {opsA begA frl log : List AV} {place : Int} {st : List AV} {key word : Str} {R T : Store} {l : Int}
set_option maxHeartbeats 1000000
theorem give_up_c (G : Gd w b0) (h : ∀ z, Q .none (MTx { p with sk := z } opsA begA l [] key word frl log R)) : WC w b0 1 false (rf 221) [rf p.mc, .int l] (MTx p opsA begA place st key word frl log R) Q X := by
  refine WC.drop ?_
  refine' wc_def2 (n₁ := Str.ofString "self") (n₂ := Str.ofString "label") G ?ho ?hcd ?hb ?hs ?hl ?_
  case ho => k_is
  case hcd => k_is
  case hb => exact fun _ _ _ _ => BindsTo.of_eq rfl
  case hs => kernel_rfl
  case hl => kernel_rfl
  intro L fl A hc hh
  repeat' cell_call
  rename_i z
  exact ⟨_, Sb.pull (l := [_]) (Sb.keep (Sb.skip (Sb.refl _))), h z⟩
theorem worth_num (G : Gd w b0) {k way : Int} (hz : log.length ≤ 10000) (h : Q (.tup [.int k, .int 0]) (MTx p opsA begA place st key word frl (log ++ [.tup [sv "number", .tup [sv "number", .int k]]]) R)) : WC w b0 8 true (rf 242) [rf p.mc, .tup [sv "push", .tup [sv "number", .int k], .int way]] (MTx p opsA begA place st key word frl log R) Q X := by
  refine' wc_def2 (n₁ := Str.ofString "machine") (n₂ := Str.ofString "op") G ?ho ?hcd ?hb ?hs ?hl ?_
  case ho => k_is
  case hcd => k_is
  case hb => exact fun _ _ _ _ => BindsTo.of_eq rfl
  case hs => kernel_rfl
  case hl => kernel_rfl
  intro L fl A hc hh
  repeat' cell_call
  all_goals exact h
theorem worth_txt (G : Gd w b0) {way : Int} (hz : log.length ≤ 10000) (h : X 65 (MTx p opsA begA place st key word frl (log ++ [.tup [sv "number", .tup [sv "text", sv "none"]]]) R)) : WC w b0 8 true (rf 242) [rf p.mc, .tup [sv "push", .tup [sv "text", sv "none"], .int way]] (MTx p opsA begA place st key word frl log R) Q X := by
  refine' wc_def2 (n₁ := Str.ofString "machine") (n₂ := Str.ofString "op") G ?ho ?hcd ?hb ?hs ?hl ?_
  case ho => k_is
  case hcd => k_is
  case hb => exact fun _ _ _ _ => BindsTo.of_eq rfl
  case hs => kernel_rfl
  case hl => kernel_rfl
  intro L fl A hc hh
  repeat' cell_call
  all_goals exact ⟨_, .refl _, h⟩
theorem worth_neg (G : Gd w b0) {u s way : Int} (hst : st.length ≤ 1000) (h : Q (.tup [.int (-u), .int s]) (MTx p opsA begA place st key word frl log R)) : WC w b0 8 true (rf 242) [rf p.mc, .tup [sv "calc", sv "neg", .int way]] (MTx p opsA begA place (st ++ [.tup [.int u, .int s]]) key word frl log R) Q X := by
  refine' wc_def2 (n₁ := Str.ofString "machine") (n₂ := Str.ofString "op") G ?ho ?hcd ?hb ?hs ?hl ?_
  case ho => k_is
  case hcd => k_is
  case hb => exact fun _ _ _ _ => BindsTo.of_eq rfl
  case hs => kernel_rfl
  case hl => kernel_rfl
  intro L fl A hc hh
  repeat' cell_call
  all_goals exact h
theorem sgn_neg (sg : Sgn) : (sg.str == Str.ofString "neg") = false := by cases sg <;> decide
theorem worth_calc (G : Gd w b0) {x k way : Int} (sg : Sgn) (hx : x.natAbs ≤ 16777216 * 10 ^ 30) (hk : k.natAbs ≤ 8) (hst : st.length ≤ 1000) (h : ∀ v, calcA sg x k = some v → Q (dec (told v)) (MTx p opsA begA place st key word frl log R)) (h0 : calcA sg x k = none → X 65 (MTx p opsA begA place st key word frl log R)) :
    WC w b0 8 true (rf 242) [rf p.mc, .tup [sv "calc", .str sg.str, .int way]] (MTx p opsA begA place ((st ++ [dec (told x)]) ++ [.tup [.int k, .int 0]]) key word frl log R) Q X := by
  have e := sgn_neg sg
  have hl2 : (st ++ [dec (told x)]).length = st.length + 1 := by simp
  refine' wc_def2 (n₁ := Str.ofString "machine") (n₂ := Str.ofString "op") G ?ho ?hcd ?hb ?hs ?hl ?_
  case ho => k_is
  case hcd => k_is
  case hb => exact fun _ _ _ _ => BindsTo.of_eq rfl
  case hs => kernel_rfl
  case hl => kernel_rfl
  intro L fl A hc hh
  repeat' cell_call
  · rename_i q; rw [e] at q; cases q
  refine k_fn (calculated_c G sg hx hk (fun v e => ?_) (fun e => ?_)) ‹Cx.Ok _ _› (by decide) hh
  · repeat' cell_call
    all_goals exact h v e
  · exact ⟨_, .refl _, h0 e⟩
theorem Cx.Ok.mk' {c : Cx} {n : Nat} (h : c.Ok n) (v : Value) : (c.mk' v).Ok n := ⟨h.frames, h.kind, h.depth, h.units⟩
theorem own65 {w : World} : OwnE w 65 := ownSize w
theorem reck_core (G : Gd w b0) {o : AV} {sg : Str} {way : Int} {st₁ : List AV} {log₁ : List AV} {a : AV} {Y : Prop} {st₀ : List AV} (hst : st₁.length ≤ 1000)
    (hw : ∀ (Q : AV → Store → Prop) (X : Addr → Store → Prop), (Y → Q a (MTx p opsA begA place st₁ key word frl log₁ R)) → (¬ Y → X 65 (MTx p opsA begA place st₁ key word frl log₁ R)) → WC w b0 8 true (rf 242) [rf p.mc, .tup [.str sg, o, .int way]] (MTx p opsA begA place st₀ key word frl log R) Q X)
    (h1 : Y → Q .none (MTx p opsA begA place (st₁ ++ [a]) key word frl log₁ R)) (h2 : ¬ Y → way = -1 → X 65 (MTx p opsA begA place st₁ key word frl log₁ R))
    (h3 : ¬ Y → way ≠ -1 → ∀ z, Q .none (MTx { p with sk := z } opsA begA way [] key word frl log₁ R)) :
    WC w b0 10 true (rf 249) [rf p.mc, .tup [.str sg, o, .int way]] (MTx p opsA begA place st₀ key word frl log R) Q X := by
  refine' wc_def2 (n₁ := Str.ofString "machine") (n₂ := Str.ofString "op") G ?ho ?hcd ?hb ?hs ?hl ?_
  case ho => k_is
  case hcd => k_is
  case hb => exact fun _ _ _ _ => BindsTo.of_eq rfl
  case hs => kernel_rfl
  case hl => kernel_rfl
  intro L fl A hc hh
  refine b_one (s_try G rfl hc ?_)
  repeat' cell_call
  refine k_fn (hw _ _ (fun y => ?_) (fun y => ?_)) hc (by decide) hh
  · repeat' cell_call
    all_goals exact h1 y
  · refine ⟨own65, ?_⟩
    refine' HsQ.hit ?he ?hk ?hd own65 ?hm (fun ea => ?_)
    case he => k_is
    case hk => kernel_rfl
    case hd => kernel_rfl
    case hm => exact of_decide_eq_true (by kernel_rfl)
    refine hd_again rfl rfl ?_
    have hc' := Cx.Ok.mk' hc (.ref ea)
    repeat' cell_call
    · rename_i q
      exact ⟨_, .refl _, h2 y (by simpa using q)⟩
    · rename_i q
      have q : way ≠ -1 := by simpa using q
      refine' me_inst G ?hx (fun h es hF => flds_miss ?hm hF) ?hg ?hf ?ht ?_
      case hx => mem_news
      case hm => kernel_rfl
      case hg => k_is
      case hf => k_is
      case ht => k_is
      repeat' cell_call
      refine k_fn (give_up_c G fun z => ?_) hc' (by decide) nofun
      repeat' cell_call
      all_goals exact h3 y q z
end
local macro_rules | `(tactic| kas_types) => wFirst "kli n1 F1"
section
noncomputable abbrev frlR (rs : List FrR) : List AV := (rs.map fun r => rf r.a).reverse
structure MtR (kb : Nat) (rs : List FrR) (frames : List Fr) : Prop where
  eq : rs.map (·.f) = frames.reverse
  ok : ∀ r ∈ rs, (∀ j, (getA r.kvs j).getD (.int 0) = .int (r.f.slots j)) ∧ r.kvs.length ≤ kb
noncomputable abbrev begsA (begs : List Nat) : List AV := begs.map fun (l : Nat) => .int (l : Int)
noncomputable abbrev opsAV (ops : List Op) : List AV := ops.map Op.av
noncomputable abbrev MS (p : MP) (ops : List Op) (begs : List Nat) (rs : List FrR) (s : St) (R : Store) : Store :=
  MTx p (opsAV ops) (begsA begs) s.place (stkA s.stack) s.key (Str.ofString "") (frlR rs) s.log (FTs rs ++ R)
noncomputable def OutQ (p : MP) (ops : List Op) (begs : List Nat) (R : Store) (kb : Nat) (Q : AV → Store → Prop) (X : Addr → Store → Prop) : Out → Prop
  | .go s' => ∀ z rs', MtR kb rs' s'.frames → Q .none (MS { p with sk := z } ops begs rs' s' R)
  | .word x log => ∀ pl st key frl R', Sb R R' → Q .none (MTx p (opsAV ops) (begsA begs) pl st key x frl log R')
  | .size log => ∀ T', Sb ((p.lg, .list log) :: (p.co, coO p (opsAV ops) (begsA begs)) :: R) T' → X 65 T'
  | .run log => ∀ T', Sb ((p.lg, .list log) :: (p.co, coO p (opsAV ops) (begsA begs)) :: R) T' → X 53 T'
noncomputable def opF : Op → Addr
  | .push .. => 249
  | .neg .. => 249
  | .calc .. => 249
  | .put .. => 256
  | .deed .. => 263
  | .key .. => 270
  | .test .. => 277
  | .jump .. => 284
  | .choose .. => 291
  | .perform .. => 298
  | .leave .. => 305
  | .count .. => 312
  | .less .. => 319
  | .stop .. => 326
section
variable {kb : Nat} {rs : List FrR} {fs : List Fr} {f : Fr}
theorem MtR.mono {kb' : Nat} (h : MtR kb rs fs) (hk : kb ≤ kb') : MtR kb' rs fs := ⟨h.eq, fun r hr => ⟨(h.ok r hr).1, Nat.le_trans (h.ok r hr).2 hk⟩⟩
theorem MtR.len (h : MtR kb rs fs) : rs.length = fs.length := by have := congrArg List.length h.eq; simpa using this
theorem MtR.top (h : MtR kb rs fs) (hf : fs.getLast? = some f) : ∃ r rs', rs = r :: rs' ∧ r.f = f ∧ rs'.map (·.f) = fs.dropLast.reverse := by
  rcases List.eq_nil_or_concat fs with rfl | ⟨fs', g, rfl⟩
  · cases hf
  · rw [List.concat_eq_append] at *
    rw [List.getLast?_append] at hf
    simp only [List.getLast?_singleton, Option.some_or, Option.some.injEq] at hf
    subst hf
    have e := h.eq
    rw [List.reverse_append] at e
    cases rs with
    | nil => cases e
    | cons r rs' =>
      rw [List.map_cons] at e
      injection e with e1 e2
      exact ⟨r, rs', rfl, e1, by rw [List.dropLast_concat]; exact e2⟩
theorem getA_put {kvs : List (Int × AV)} {j n : Int} {slots : Int → Int} (h : ∀ i, (getA kvs i).getD (.int 0) = .int (slots i)) (i : Int) : (getA (putA kvs j (.int n)) i).getD (.int 0) = .int (if i = j then n else slots i) := by
  have key : ∀ l : List (Int × AV), getA (l.map fun kv => if kv.1 = j then (kv.1, AV.int n) else kv) i = if i = j then (getA l i).map (fun _ => .int n) else getA l i := by
    intro l
    induction l with
    | nil => split <;> rfl
    | cons q l ih =>
      unfold getA at *
      rw [List.map_cons, List.find?_cons, List.find?_cons]
      by_cases e1 : q.1 = j
      · rw [if_pos e1]
        by_cases e2 : q.1 = i
        · simp only [e2, decide_true]
          rw [if_pos (by rw [← e2]; exact e1)]; rfl
        · simp only [e2, decide_false]
          exact ih
      · rw [if_neg e1]
        by_cases e2 : q.1 = i
        · simp only [e2, decide_true]
          rw [if_neg (by rw [← e2]; exact e1)]
        · simp only [e2, decide_false]
          exact ih
  unfold putA
  split
  · rename_i ha
    rw [key]
    by_cases e : i = j
    · rw [if_pos e, if_pos e]
      subst e
      have : ∃ a, getA kvs i = some a := by
        unfold getA
        cases hf : kvs.find? (fun kv => decide (kv.1 = i)) with
        | some a => exact ⟨_, rfl⟩
        | none =>
          rw [List.find?_eq_none] at hf
          rw [List.any_eq_true] at ha
          obtain ⟨x, h1, h2⟩ := ha
          exact absurd h2 (hf x h1)
      obtain ⟨a, e⟩ := this
      rw [e]; rfl
    · rw [if_neg e, if_neg e]; exact h i
  · rename_i ha
    by_cases e : i = j
    · subst e
      rw [if_pos rfl]
      have : kvs.find? (fun kv => decide (kv.1 = i)) = none := by
        rw [List.find?_eq_none]
        intro x hx hc
        exact ha (List.any_eq_true.mpr ⟨x, hx, hc⟩)
      unfold getA
      rw [List.find?_append, this]
      simp
    · rw [if_neg e]
      have : getA (kvs ++ [(j, AV.int n)]) i = getA kvs i := by
        unfold getA
        rw [List.find?_append]
        have : [(j, AV.int n)].find? (fun kv => decide (kv.1 = i)) = none := by simp [Ne.symm e]
        rw [this, Option.or_none]
      rw [this]; exact h i
theorem putA_len {kvs : List (Int × AV)} {j : Int} {a : AV} : (putA kvs j a).length ≤ kvs.length + 1 := by
  unfold putA
  split
  · rw [List.length_map]; omega
  · rw [List.length_append]; simp
theorem MtR.push (h : MtR kb rs fs) {r : FrR} (hr : ∀ j, (getA r.kvs j).getD (.int 0) = .int (r.f.slots j)) (hk : r.kvs.length ≤ kb) : MtR kb (r :: rs) (fs ++ [r.f]) :=
  ⟨by rw [List.map_cons, List.reverse_append, h.eq]; rfl, fun x hx => by
    rcases List.mem_cons.mp hx with rfl | hx
    · exact ⟨hr, hk⟩
    · exact h.ok x hx⟩
theorem stk_snoc (st : List Int) (v : Int) : stkA (st ++ [v]) = stkA st ++ [dec (told v)] := by simp [stkA]
end
end
section
theorem sb_tail (p : MP) (opsA begA : List AV) (pl : Int) (st : List AV) (key word : Str) (frl log : List AV) (F R : Store) : Sb ((p.lg, .list log) :: (p.co, coO p opsA begA) :: R) (MTx p opsA begA pl st key word frl log (F ++ R)) :=
  .skip (.skip (.skip (.keep (.keep (.skip (.skip ⟨R, .refl _, List.sublist_append_right F R⟩))))))
theorem WC.up {w : World} {b0 : Heap} {n n' : Nat} {hn : Bool} {f : AV} {xs : List AV} {T : Store} {Q : AV → Store → Prop} {X : Addr → Store → Prop} (hle : n ≤ n') (h : WC w b0 n hn f xs T Q X) : WC w b0 n' hn f xs T Q X :=
  h.mono (fun _ _ h => h) (fun _ _ h => h) hle id
theorem le0 {α : Type} {n : Nat} : ([] : List α).length ≤ n := Nat.zero_le _
section
variable {w : World} {b0 : Heap} {Q : AV → Store → Prop} {X : Addr → Store → Prop} {p : MP} {ops : List Op} {begs : List Nat} {P : Nat → Prop} {s : St} {op : Op} {rs : List FrR} {kb : Nat} {R : Store}
theorem step_c (G : Gd w b0) (C : CodeOk ops begs P) (hbl : begs.length ≤ 100) (S : StOk ops begs P s) (ho : ops[s.place]? = some op) (hM : MtR kb rs s.frames) (hk : kb ≤ 1000) (hlog : s.log.length ≤ 10000)
    (h : OutQ p ops begs R (kb + 1) Q X (stepOp begs s op)) :
    WC w b0 10 true (rf (opF op)) [rf p.mc, op.av] (MTx p (opsAV ops) (begsA begs) ((s.place : Int) + 1) (stkA s.stack) s.key (Str.ofString "") (frlR rs) s.log (FTs rs ++ R)) Q X := by
  obtain ⟨⟨lv, hO, hS⟩, hF, hL⟩ := S
  obtain ⟨op', e1, e2, e3⟩ := okat_op hO
  rw [ho] at e1
  cases e1
  rw [e2] at hO
  have hM1 := hM.mono (kb' := kb + 1) (by omega)
  have hrl : (frlR rs).length ≤ 21 := by rw [List.length_reverse, List.length_map, hM.len]; exact hL
  have weak : ∀ {way : Int}, WayOk P way → ¬ way < 0 → (way.toNat : Int) = way ∧ way ≠ -1 := fun hw hn => by omega
  have weak1 : ∀ {way : Int}, WayOk P way → way < 0 → way = -1 := fun hw hn => by
    rcases hw with q | ⟨l, q, _⟩
    · exact q
    · omega
  cases op with
  | push o way =>
    have hw : WayOk P way := by
      cases lv with
      | e => exact hO.1
      | s1 k => exact hO.1
      | s2 k => exact hO.elim
    have hk2 : OpdOk o := by
      cases lv with
      | e => exact hO.2.1
      | s1 k => exact hO.2.1
      | s2 k => exact hO.elim
    have hst : (stkA s.stack).length ≤ 1000 := by
      rw [List.length_map]
      cases lv with
      | e => rw [show s.stack = [] from hS]; decide
      | s1 k => obtain ⟨v, hS, _⟩ := hS; rw [hS]; exact Nat.le_of_ble_eq_true rfl
      | s2 k => exact hO.elim
    cases o with
    | num k =>
      refine reck_core (a := .tup [.int k, .int 0]) (Y := True) (st₁ := stkA s.stack) (log₁ := s.log ++ [.tup [sv "number", .tup [sv "number", .int k]]]) G hst (fun Q X h1 h2 => worth_num G hlog (h1 trivial)) (fun _ => ?_) (fun q => absurd trivial q) fun q => absurd trivial q
      have := h p.sk rs hM1
      simp only [stepOp, MS] at this
      rw [stk_snoc, told_kint] at this
      exact this
    | txt =>
      refine reck_core (a := .none) (Y := False) (st₁ := stkA s.stack) (log₁ := s.log ++ [.tup [sv "number", .tup [sv "text", sv "none"]]]) G hst (fun Q X h1 h2 => worth_txt G hlog (h2 id)) (fun q => q.elim) (fun _ q => ?_) fun _ q z => ?_
      · have h := h
        simp only [stepOp] at h
        rw [if_pos (by omega)] at h
        exact h _ (sb_tail ..)
      · have hn : ¬ way < 0 := fun z => q (weak1 hw z)
        have h := h
        simp only [stepOp] at h
        rw [if_neg hn] at h
        have := h z rs hM1
        simp only [MS] at this
        rw [(weak hw hn).1] at this
        exact this
  | neg way =>
    cases lv with
    | e => exact hO.elim
    | s2 k => exact hO.elim
    | s1 k =>
      obtain ⟨hw, hr⟩ := hO
      obtain ⟨v, hS, hv⟩ := hS
      have e0 : stkA s.stack = [] ++ [.tup [.int (told v).1, .int (told v).2]] := by rw [hS]; rfl
      rw [e0]
      refine reck_core (a := .tup [.int (-(told v).1), .int (told v).2]) (Y := True) (st₁ := []) (log₁ := s.log) G (by decide) (fun Q X h1 h2 => worth_neg G (by decide) (h1 trivial)) (fun _ => ?_) (fun q => absurd trivial q) fun q => absurd trivial q
      have := h p.sk rs hM1
      simp only [stepOp, MS] at this
      rw [hS, show ([v].dropLast ++ [-([v].getLast?.getD 0)]) = [-v] from rfl] at this
      simp only [stkA, List.map_cons, List.map_nil, told_neg] at this
      exact this
  | «calc» sg way =>
    cases lv with
    | e => exact hO.elim
    | s1 k => exact hO.elim
    | s2 k =>
      obtain ⟨hw, hk', hr⟩ := hO
      obtain ⟨v, n, hS, hv, hn⟩ := hS
      have hb : s.stack.getLast?.getD 0 / one30 = n := by rw [hS]; exact kdiv n
      have ha : s.stack.dropLast.getLast?.getD 0 = v := by rw [hS]; rfl
      have hd : s.stack.dropLast.dropLast = [] := by rw [hS]; rfl
      have e0 : stkA s.stack = ([] ++ [dec (told v)]) ++ [.tup [.int n, .int 0]] := by rw [hS, ← told_kint]; rfl
      rw [e0]
      simp only [stepOp, hb, ha, hd] at h
      cases hc : calcA sg v n with
      | some u =>
        rw [hc] at h
        refine reck_core (a := dec (told u)) (Y := True) (st₁ := []) (log₁ := s.log) G (by decide) (fun Q X h1 h2 => worth_calc G sg (hv.one hk') hn (by decide) (fun u' e => ?_) fun e => ?_) (fun _ => ?_) (fun q => absurd trivial q) fun q => absurd trivial q
        · rw [hc] at e; cases e; exact h1 trivial
        · rw [hc] at e; cases e
        · exact h p.sk rs hM1
      | none =>
        rw [hc] at h
        refine reck_core (a := .none) (Y := False) (st₁ := []) (log₁ := s.log) G (by decide) (fun Q X h1 h2 => worth_calc G sg (hv.one hk') hn (by decide) (fun u' e => ?_) fun e => h2 id) (fun q => q.elim) (fun _ q => ?_) fun _ q z => ?_
        · rw [hc] at e; cases e
        · dsimp only at h
          rw [if_pos (by omega)] at h
          exact h _ (sb_tail ..)
        · have hn : ¬ way < 0 := fun z => q (weak1 hw z)
          dsimp only at h
          rw [if_neg hn] at h
          have := h z rs hM1
          simp only [MS] at this
          rw [(weak hw hn).1] at this
          exact this
  | put l =>
    cases lv with
    | e => exact hO.elim
    | s2 k => exact hO.elim
    | s1 k =>
      obtain ⟨hl, hr⟩ := hO
      obtain ⟨v, hS, hv⟩ := hS
      have e0 : stkA s.stack = [] ++ [dec (told v)] := by rw [hS]; rfl
      rw [e0]
      refine .up (by decide) (do_put_c (st := []) (v := told v) G hlog le0 ?_)
      have := h p.sk rs hM1
      simp only [stepOp, MS] at this
      rw [hS] at this
      rw [show (([v].getLast?).getD 0) = v from rfl, show [v].dropLast = [] from rfl] at this
      split at this
      · rename_i q; rw [if_pos q]; exact this
      · rename_i q; rw [if_neg q]; exact this
  | deed n => exact .up (by decide) (do_deed_c (p := p) G hlog (h p.sk rs hM1))
  | key x l =>
    refine .up (by decide) (do_key_c G ?_)
    have := h p.sk rs hM1
    simp only [stepOp, MS] at this
    split at this
    · rename_i q; rw [if_pos q]; exact this
    · rename_i q; rw [if_neg q]; exact this
  | test n l =>
    refine .up (by decide) (do_test_c G hlog ?_)
    have := h p.sk rs hM1
    simp only [stepOp, MS] at this
    split at this
    · rename_i q; rw [if_pos q]; exact this
    · rename_i q; rw [if_neg q]; exact this
  | jump l => exact .up (by decide) (do_jump_c (p := p) G (h p.sk rs hM1))
  | choose ls =>
    cases lv with
    | e => exact hO.elim
    | s2 k => exact hO.elim
    | s1 k =>
      cases k with
      | succ k => exact hO.elim
      | zero =>
        obtain ⟨hl, hn, hr⟩ := hO
        obtain ⟨v, hS, n, rfl, hv⟩ := hS
        have e0 : stkA s.stack = [] ++ [.tup [.int n, .int 0]] := by rw [hS, ← told_kint]; rfl
        rw [e0]
        refine .up (by decide) (do_choose_c (st := []) G hv hn le0 ?_)
        have := h p.sk rs hM1
        simp only [stepOp, MS] at this
        rw [hS] at this
        rw [show (([n * one30].getLast?).getD 0) / one30 = n from kdiv n, show [n * one30].dropLast = [] from rfl] at this
        split at this
        · rename_i q; rw [if_pos q]; exact this
        · rename_i q; rw [if_neg q]; exact this
  | perform b e =>
    cases lv with
    | s1 k => exact hO.elim
    | s2 k => exact hO.elim
    | e =>
      obtain ⟨hb, he, hr⟩ := hO
      have hfl : (frlR rs).length = s.frames.length := by rw [List.length_reverse, List.length_map, hM.len]
      simp only [stepOp] at h
      refine .up (by decide) (begin_frame_c (b := (b : Int)) (begs := begs) G (Int.natCast_nonneg b) (by omega) hbl rfl hrl (fun q => ?_) fun q x d z => ?_)
      · rw [if_pos (by omega)] at h
        exact h _ (sb_tail ..)
      · rw [if_neg (by omega)] at h
        have := h p.sk _ (hM1.push (r := ⟨x, d, z, [], ⟨e, s.place + 1, fun _ => 0⟩⟩) (fun j => rfl) (Nat.zero_le _))
        simp only [MS] at this
        rw [show frlR (⟨x, d, z, [], ⟨e, (s.place : Int) + 1, fun _ => 0⟩⟩ :: rs) = frlR rs ++ [rf x] by simp [frlR]] at this
        exact this
  | leave e =>
    cases hg : s.frames.getLast? with
    | none =>
      obtain ⟨f, r, e1, _⟩ := hF
      rw [e1] at hg
      simp at hg
    | some f =>
      obtain ⟨r, rs', rfl, hr1, hr2⟩ := hM.top hg
      have hfr : frlR (r :: rs') = frlR rs' ++ [rf r.a] := by simp [frlR]
      rw [hfr] at hrl ⊢
      simp only [stepOp, hg] at h
      refine .up (by decide) (WC.drop (leave_frame_c (frl := frlR rs') (r := r) (R := FTs rs' ++ R) G (by simp at hrl ⊢; omega) (fun q => ?_) fun q => ?_))
      · rw [hr1] at q
        rw [if_pos q] at h
        obtain ⟨f0, r0, e1, e2, e3⟩ := hF
        have hb : ∃ l : Nat, f.behind = l := by
          rcases List.eq_nil_or_concat r0 with rfl | ⟨r1, g, rfl⟩
          · rw [e1] at hg
            simp only [List.getLast?_singleton, Option.some.injEq] at hg
            have : 0 ≤ e := by
              cases lv with
              | e => exact hO.1
              | s1 k => exact hO.elim
              | s2 k => exact hO.elim
            rw [← hg] at q
            omega
          · rw [List.concat_eq_append] at *
            rw [e1, ← List.cons_append, List.getLast?_append] at hg
            simp only [List.getLast?_singleton, Option.some_or, Option.some.injEq] at hg
            obtain ⟨l, h1, _⟩ := e3 g (List.mem_append_right _ (.head _))
            exact ⟨l, hg ▸ h1⟩
        obtain ⟨l, hb⟩ := hb
        have := h p.sk rs' ⟨hr2, fun x hx => hM1.ok x (.tail _ hx)⟩
        simp only [MS] at this
        rw [hb] at this
        rw [hr1, hb]
        exact ⟨_, .keep (.keep (.keep (.keep (.keep (.keep (.keep (.skip (.skip (.refl _))))))))), this⟩
      · rw [hr1] at q
        rw [if_neg q] at h
        have := h p.sk _ hM1
        simp only [MS] at this
        rw [hfr] at this
        exact ⟨_, .refl _, this⟩
  | count j =>
    cases lv with
    | e => exact hO.elim
    | s2 k => exact hO.elim
    | s1 k =>
      cases k with
      | succ k => exact hO.elim
      | zero =>
        obtain ⟨v, hS, n, rfl, hv⟩ := hS
        have e0 : stkA s.stack = [] ++ [.tup [.int n, .int 0]] := by rw [hS, ← told_kint]; rfl
        rw [e0]
        cases hg : s.frames.getLast? with
        | none =>
          obtain ⟨f, r, e1, _⟩ := hF
          rw [e1] at hg
          simp at hg
        | some f =>
          obtain ⟨r, rs', rfl, hr1, hr2⟩ := hM.top hg
          subst hr1
          have hfr : frlR (r :: rs') = frlR rs' ++ [rf r.a] := by simp [frlR]
          rw [hfr] at hrl ⊢
          have hrk := hM.ok r (.head _)
          simp only [stepOp, hg] at h
          rw [show (s.stack.getLast?.getD 0) / one30 = n by rw [hS]; exact kdiv n] at h
          refine .up (by decide) (do_count_c (st := []) (frl := frlR rs') (r := r) (R := FTs rs' ++ R) G hv (by simp at hrl ⊢; omega) le0 (by omega) ?_)
          have hr2' : rs'.map (·.f) = s.frames.dropLast.reverse := hr2
          have := h p.sk (⟨r.a, r.d, r.sl, putA r.kvs j (.int n), { r.f with slots := fun i => if i = j then n else r.f.slots i }⟩ :: rs') (MtR.push ⟨hr2', fun x hx => hM1.ok x (.tail _ hx)⟩ (fun i => by
            dsimp only
            exact getA_put hrk.1 i) (by have := putA_len (kvs := r.kvs) (j := j) (a := .int n); dsimp only; omega))
          simp only [MS, hS] at this
          rw [show frlR (⟨r.a, r.d, r.sl, putA r.kvs j (.int n), { r.f with slots := fun i => if i = j then n else r.f.slots i }⟩ :: rs') = frlR rs' ++ [rf r.a] by simp [frlR]] at this
          exact this
  | less j l =>
    cases hg : s.frames.getLast? with
    | none =>
      obtain ⟨f, r, e1, _⟩ := hF
      rw [e1] at hg
      simp at hg
    | some f =>
      obtain ⟨r, rs', rfl, hr1, hr2⟩ := hM.top hg
      subst hr1
      have hfr : frlR (r :: rs') = frlR rs' ++ [rf r.a] := by simp [frlR]
      rw [hfr] at hrl ⊢
      have hrk := hM.ok r (.head _)
      simp only [stepOp, hg] at h
      refine .up (by decide) (do_less_c (frl := frlR rs') (r := r) (R := FTs rs' ++ R) G (hrk.1 j) (by simp at hrl ⊢; omega) (by omega) (fun q => ?_) fun q => ?_)
      · rw [if_pos q] at h
        have := h p.sk (⟨r.a, r.d, r.sl, putA r.kvs j (.int (r.f.slots j - 1)), { r.f with slots := fun i => if i = j then r.f.slots j - 1 else r.f.slots i }⟩ :: rs') (MtR.push ⟨hr2, fun x hx => hM1.ok x (.tail _ hx)⟩ (fun i => by
          dsimp only
          exact getA_put hrk.1 i) (by have := putA_len (kvs := r.kvs) (j := j) (a := .int (r.f.slots j - 1)); dsimp only; omega))
        simp only [MS] at this
        rw [show frlR (⟨r.a, r.d, r.sl, putA r.kvs j (.int (r.f.slots j - 1)), { r.f with slots := fun i => if i = j then r.f.slots j - 1 else r.f.slots i }⟩ :: rs') = frlR rs' ++ [rf r.a] by simp [frlR]] at this
        exact this
      · rw [if_neg q] at h
        have := h p.sk _ hM1
        simp only [MS] at this
        rw [hfr] at this
        exact this
  | stop x => exact .up (by decide) (do_stop_c G (h _ _ _ _ _ ⟨R, .refl _, List.sublist_append_right _ R⟩))
end
end
section
variable {w : World} {b0 : Heap} {Q : AV → Store → Prop} {X : Addr → Store → Prop} {R T : Store}
set_option maxHeartbeats 1000000
theorem mach_init (G : Gd w b0) {x d co cx de dx lg cA : Addr} (h : ∀ sk fr fd fz frs, Q .none ((x, mcO ⟨x, d, co, cx, de, dx, sk, frs, lg, cA⟩ 0 (Str.ofString "") (Str.ofString "")) :: (sk, .list []) :: (frs, .list [rf fr]) :: (fr, frO ⟨fr, fd, fz, [], ⟨-1, -1, fun _ => 0⟩⟩) :: (fz, .idict []) :: T)) :
    WC w b0 3 true (rf 214) [rf x, rf co, rf de] ((x, .inst 224 d []) :: T) Q X := by
  refine WC.drop ?_
  refine' wc_def3 (n₁ := Str.ofString "self") (n₂ := Str.ofString "code") (n₃ := Str.ofString "deeds") G ?ho ?hcd ?hb ?hs ?hl ?_
  case ho => k_is
  case hcd => k_is
  case hb => exact fun _ _ _ _ _ => BindsTo.of_eq rfl
  case hs => kernel_rfl
  case hl => kernel_rfl
  intro L fl A hc hh
  repeat' cell_call
  exact ⟨_, Sb.pull (l := [_, _]) (Sb.pull (l := [_, _, _]) (Sb.pull (l := [_, _]) (Sb.pull (l := [_]) (Sb.refl _)))), h _ _ _ _ _⟩
theorem k_machine {c : Cx} {n : Nat} {m : Loc} {Q : AV → Loc → Store → Prop} {X : Addr → Loc → Store → Prop} (G : Gd w b0) {co cx de dx lg cA : Addr} (hc : c.Ok n) (hle : 4 ≤ n) (hh : c.A.handled = none)
    (h : ∀ x d sk fr fd fz frs, Q (rf x) m ((x, mcO ⟨x, d, co, cx, de, dx, sk, frs, lg, cA⟩ 0 (Str.ofString "") (Str.ofString "")) :: (sk, .list []) :: (frs, .list [rf fr]) :: (fr, frO ⟨fr, fd, fz, [], ⟨-1, -1, fun _ => 0⟩⟩) :: (fz, .idict []) :: T)) : CallQ w b0 c (rf 224) [rf co, rf de] m T Q X := by
  refine' k_make (n := 3) (hn := true) G ?hm ?hi ?hf (fun x d => ?_) hc hle (fun _ => hh)
  case hm => k_is
  case hi => k_is
  case hf => k_is
  exact mach_init G fun sk fr fd fz frs => ⟨rfl, h x d sk fr fd fz frs⟩
/- the table of ops -/
noncomputable abbrev tabA : List (Str × AV) := [(nm "push", rf 249), (nm "calc", rf 249), (nm "put", rf 256), (nm "do", rf 263), (nm "key", rf 270), (nm "test", rf 277), (nm "jump", rf 284), (nm "choose", rf 291), (nm "perform", rf 298), (nm "leave", rf 305), (nm "count", rf 312), (nm "less", rf 319), (nm "stop", rf 326)]
theorem ex_str {x : Str} {P : Str → Prop} (h : P x) : ∃ y, AV.str x = .str y ∧ P y := ⟨x, rfl, h⟩
local macro_rules | `(tactic| kas_types) => wFirst "dp_cons _|dp_nil _|ex_str _"
theorem op_table_c (G : Gd w b0) (h : ∀ z, Q (rf z) ((z, .sdict tabA) :: T)) : WC w b0 1 true (rf 333) [] T Q X := by
  refine' wc_def0 G ?ho ?hcd ?hb ?hs ?_
  case ho => k_is
  case hcd => k_is
  case hb => exact fun _ _ => BindsTo.of_eq rfl
  case hs => kernel_rfl
  intro L fl A hc hh
  repeat' cell_call
  refine' e_sdict G ?h1 ?h2 ?h3 ?h4 (fun z => ?_)
  case h1 => kernel_rfl
  case h2 => kernel_rfl
  case h3 => exact fun e => nomatch e
  case h4 => exact Nat.le_of_ble_eq_true (by kernel_rfl)
  repeat' cell_call
  refine ⟨nodup_of (by kernel_rfl), _, TU.head, ?_⟩
  repeat' cell_call
  all_goals exact h z
end
section
inductive Fin4 where
  | word (x : Str)
  | size
  | run
  | step
noncomputable def Fin4.str : Fin4 → Str
  | .word x => x
  | .size => Str.ofString "size fault"
  | .run => Str.ofString "run fault"
  | .step => Str.ofString "step fault"
/-- a run of at most so many steps -/
noncomputable def runF (ops : List Op) (begins : List Nat) : Nat → St → Fin4 × List AV
  | 0, s => (.step, s.log)
  | n + 1, s => match ops[s.place]? with
    | none => (.run, s.log)
    | some op => match stepOp begins s op with
      | .go s' => runF ops begins n s'
      | .word x log => (.word x, log)
      | .size log => (.size, log)
      | .run log => (.run, log)
noncomputable def st0 : St := ⟨0, [], Str.ofString "", [⟨-1, -1, fun _ => 0⟩], []⟩
theorem st0_ok {ops : List Op} {begins : List Nat} {P : Nat → Prop} (C : CodeOk ops begins P) : StOk ops begins P st0 :=
  ⟨⟨.e, C.at_ 0 C.zero, rfl⟩, ⟨_, [], rfl, rfl, fun _ h => (nomatch h)⟩, by decide⟩
theorem runF_succ {ops : List Op} {begins : List Nat} {n : Nat} {s : St} {op : Op} (h : ops[s.place]? = some op) : runF ops begins (n + 1) s = match stepOp begins s op with
      | .go s' => runF ops begins n s'
      | .word x log => (.word x, log)
      | .size log => (.size, log)
      | .run log => (.run, log) := by
  conv => lhs; unfold runF
  rw [h]
noncomputable def Op.name : Op → Str
  | .push .. => Str.ofString "push"
  | .neg .. => Str.ofString "calc"
  | .calc .. => Str.ofString "calc"
  | .put .. => Str.ofString "put"
  | .deed .. => Str.ofString "do"
  | .key .. => Str.ofString "key"
  | .test .. => Str.ofString "test"
  | .jump .. => Str.ofString "jump"
  | .choose .. => Str.ofString "choose"
  | .perform .. => Str.ofString "perform"
  | .leave .. => Str.ofString "leave"
  | .count .. => Str.ofString "count"
  | .less .. => Str.ofString "less"
  | .stop .. => Str.ofString "stop"
theorem Op.av_name (op : Op) : ∃ r, op.av = .tup (.str op.name :: r) := by
  cases op <;> exact ⟨_, rfl⟩
/-- the log grows by one at most -/
theorem step_log {begins : List Nat} {s s' : St} {op : Op} (h : stepOp begins s op = .go s') : s'.log.length ≤ s.log.length + 1 := by
  cases op with
  | push o way =>
    cases o with
    | num k => simp only [stepOp, Out.go.injEq] at h; subst h; simp
    | txt =>
      simp only [stepOp] at h
      split at h
      · cases h
      · simp only [Out.go.injEq] at h; subst h; simp
  | «calc» sg way =>
    simp only [stepOp] at h
    split at h
    · simp only [Out.go.injEq] at h; subst h; simp
    · split at h
      · cases h
      · simp only [Out.go.injEq] at h; subst h; simp
  | perform b e =>
    simp only [stepOp] at h
    split at h
    · cases h
    · simp only [Out.go.injEq] at h; subst h; simp
  | leave e =>
    simp only [stepOp] at h
    split at h
    · split at h <;> (simp only [Out.go.injEq] at h; subst h; simp)
    · simp only [Out.go.injEq] at h; subst h; simp
  | count n =>
    simp only [stepOp] at h
    split at h <;> (simp only [Out.go.injEq] at h; subst h; simp)
  | less n l =>
    simp only [stepOp] at h
    split at h
    · split at h <;> (simp only [Out.go.injEq] at h; subst h; simp)
    · simp only [Out.go.injEq] at h; subst h; simp
  | stop x => simp only [stepOp] at h; cases h
  | _ => simp only [stepOp, Out.go.injEq] at h; subst h; simp
end
section
variable {w : World} {b0 : Heap} {Q : AV → Store → Prop} {X : Addr → Store → Prop} {R T : Store}
set_option maxHeartbeats 1000000
local macro_rules | `(tactic| kat_tups) => wFirst "k_machine G C d1 h1 F7|$op_table_c G F1"
noncomputable def EndR (lg : Addr) (cp : Addr × AO) (R : Store) (Q : AV → Store → Prop) (X : Addr → Store → Prop) : Fin4 × List AV → Prop
  | (.word x, log) => ∀ T', Sb ((lg, .list log) :: cp :: R) T' → Q (.str x) T'
  | (.size, log) => ∀ T', Sb ((lg, .list log) :: cp :: R) T' → X 65 T'
  | (.run, log) => ∀ T', Sb ((lg, .list log) :: cp :: R) T' → X 53 T'
  | (.step, log) => ∀ T', Sb ((lg, .list log) :: cp :: R) T' → X 77 T'
theorem tab_get (op : Op) : getA tabA op.name = some (rf (opF op)) := by cases op <;> rfl
theorem keep249 {w : World} : KeepQ w (rf 249) := by refine' keep_fn ?hk; case hk => k_is
theorem keep256 {w : World} : KeepQ w (rf 256) := by refine' keep_fn ?hk; case hk => k_is
theorem keep263 {w : World} : KeepQ w (rf 263) := by refine' keep_fn ?hk; case hk => k_is
theorem keep270 {w : World} : KeepQ w (rf 270) := by refine' keep_fn ?hk; case hk => k_is
theorem keep277 {w : World} : KeepQ w (rf 277) := by refine' keep_fn ?hk; case hk => k_is
theorem keep284 {w : World} : KeepQ w (rf 284) := by refine' keep_fn ?hk; case hk => k_is
theorem keep291 {w : World} : KeepQ w (rf 291) := by refine' keep_fn ?hk; case hk => k_is
theorem keep298 {w : World} : KeepQ w (rf 298) := by refine' keep_fn ?hk; case hk => k_is
theorem keep305 {w : World} : KeepQ w (rf 305) := by refine' keep_fn ?hk; case hk => k_is
theorem keep312 {w : World} : KeepQ w (rf 312) := by refine' keep_fn ?hk; case hk => k_is
theorem keep319 {w : World} : KeepQ w (rf 319) := by refine' keep_fn ?hk; case hk => k_is
theorem keep326 {w : World} : KeepQ w (rf 326) := by refine' keep_fn ?hk; case hk => k_is
theorem keep_op {w : World} (op : Op) : KeepQ w (rf (opF op)) := by
  cases op
  · exact keep249
  · exact keep249
  · exact keep249
  · exact keep256
  · exact keep263
  · exact keep270
  · exact keep277
  · exact keep284
  · exact keep291
  · exact keep298
  · exact keep305
  · exact keep312
  · exact keep319
  · exact keep326
theorem stop_word {ops : List Op} {begs : List Nat} {P : Nat → Prop} {s : St} {op : Op} {x : Str} {log : List AV} (S : StOk ops begs P s) (ho : ops[s.place]? = some op) (h : stepOp begs s op = .word x log) : (x == Str.ofString "") = false := by
  obtain ⟨⟨lv, hO, hS⟩, hF, hL⟩ := S
  obtain ⟨op', e1, e2, e3⟩ := okat_op hO
  rw [ho] at e1
  cases e1
  rw [e2] at hO
  cases op with
  | stop y =>
    simp only [stepOp, Out.word.injEq] at h
    rw [← h.1]
    cases lv with
    | e => exact hO.2
    | s1 k => exact hO.elim
    | s2 k => exact hO.elim
  | push o way =>
    cases o with
    | num k => simp only [stepOp] at h; cases h
    | txt =>
      simp only [stepOp] at h
      split at h <;> cases h
  | «calc» sg way =>
    simp only [stepOp] at h
    split at h
    · cases h
    · split at h <;> cases h
  | perform b e => simp only [stepOp] at h; split at h <;> cases h
  | leave e =>
    simp only [stepOp] at h
    split at h
    · split at h <;> cases h
    · cases h
  | count n => simp only [stepOp] at h; split at h <;> cases h
  | less n l =>
    simp only [stepOp] at h
    split at h
    · split at h <;> cases h
    · cases h
  | _ => simp only [stepOp] at h; cases h
noncomputable abbrev rcM (co de x tb : Addr) (limit : Nat) (n : Nat) : Loc := [(nm "code", rf co), (nm "deeds", rf de), (nm "limit", .int limit), (nm "machine", rf x), (nm "table", rf tb), (nm "steps", .int ((limit : Int) - n))]
noncomputable def RcJ (ops : List Op) (begs : List Nat) (P : Nat → Prop) (p : MP) (tb : Addr) (limit : Nat) (R : Store) (Q : AV → Store → Prop) (X : Addr → Store → Prop) (k : Nat) (m : Loc) (T : Store) : Prop :=
  (∃ (n : Nat) (s : St) (z : Addr) (rs : List FrR) (kb : Nat), k = n + 1 ∧ n ≤ limit ∧ (∀ q ∈ rcM p.co p.de p.mc tb limit n, q ∈ m) ∧ Sb (MS { p with sk := z } ops begs rs s ((tb, .sdict tabA) :: R)) T ∧ StOk ops begs P s ∧ MtR kb rs s.frames ∧ kb + n ≤ 600 ∧ s.log.length + n ≤ 600 ∧ EndR p.lg (p.co, coO p (opsAV ops) (begsA begs)) R Q X (runF ops begs n s))
  ∨ (∃ (x : Str) (z : Addr) (pl : Int) (st : List AV) (key : Str) (frl log : List AV) (n : Nat) (R' : Store), (∀ q ∈ rcM p.co p.de p.mc tb limit n, q ∈ m) ∧ (x == Str.ofString "") = false ∧ Sb (MTx { p with sk := z } (opsAV ops) (begsA begs) pl st key x frl log R') T ∧ Sb R R' ∧ EndR p.lg (p.co, coO p (opsAV ops) (begsA begs)) R Q X (.word x, log))
theorem sb_end {p : MP} {opsA begA : List AV} {pl : Int} {st : List AV} {key word : Str} {frl log : List AV} {R R' : Store} (h : Sb R R') : Sb ((p.lg, .list log) :: (p.co, coO p opsA begA) :: R) (MTx p opsA begA pl st key word frl log R') :=
  .skip (.skip (.skip (.keep (.keep (.skip (.skip h))))))
theorem run_code_c (G : Gd w b0) {lg co cx de dx cA : Addr} {ops : List Op} {begs : List Nat} {P : Nat → Prop} (C : CodeOk ops begs P) (hbl : begs.length ≤ 100) {limit : Nat} (hlim : limit ≤ 500) (p : MP) (hp : p = ⟨0, 0, co, cx, de, dx, 0, 0, lg, cA⟩)
    (h : EndR lg (co, coO p (opsAV ops) (begsA begs)) R Q X (runF ops begs limit st0)) : WC w b0 12 true (rf 340) [rf co, rf de, .int limit] ((lg, .list []) :: (co, coO p (opsAV ops) (begsA begs)) :: (de, deO p) :: (cA, .cell (some (rf lg))) :: R) Q X := by
  subst hp
  refine' wc_def3 (n₁ := Str.ofString "code") (n₂ := Str.ofString "deeds") (n₃ := Str.ofString "limit") G ?ho ?hcd ?hb ?hs ?hl ?_
  case ho => k_is
  case hcd => k_is
  case hb => exact fun _ _ _ _ _ => BindsTo.of_eq rfl
  case hs => kernel_rfl
  case hl => kernel_rfl
  intro L fl A hc hh
  repeat' cell_call
  rename_i x d sk fr fd fz frs tb
  refine s_while rfl hc.frames (RcJ ops begs P ⟨x, d, co, cx, de, dx, sk, frs, lg, cA⟩ tb limit R Q X) (limit + 1) (.inl ⟨limit, st0, sk, [⟨fr, fd, fz, [], ⟨-1, -1, fun _ => 0⟩⟩], 0, rfl, Nat.le_refl _, ?_, ?_, st0_ok C, ⟨rfl, fun r hr => ?_⟩, by omega, by show 0 + _ ≤ _; omega, h⟩) ?_
  · intro q hq
    have e : rcM co de x tb limit limit = [(nm "code", rf co), (nm "deeds", rf de), (nm "limit", .int limit), (nm "machine", rf x), (nm "table", rf tb), (nm "steps", .int 0)] := by unfold rcM; rw [Int.sub_self]
    rw [e] at hq
    exact hq
  · exact Sb.pull (l := [_, _, _, _, _, _, _, _, _]) (.keep (.keep (.keep (Sb.pull (l := [_, _, _, _]) (Sb.pull (l := [_, _, _, _]) (Sb.refl _))))))
  · rw [List.mem_singleton.mp hr]
    exact ⟨fun j => rfl, Nat.zero_le _⟩
  · have hol : (opsAV ops).length ≤ 100000 := by rw [List.length_map]; exact C.small
    rintro k m T (⟨n, s, z, rs, kb, rfl, hn, hm, hT, S, M, hk, hlg, hE⟩ | ⟨y, z, pl, st, key, frl, log, n, R', hm, hy, hT, hR, hE⟩)
    · refine W.less (m' := _) (T' := _) ?_ hm hT
      obtain ⟨lv, hO, hS⟩ := S.at_
      obtain ⟨op, ho, e2, e3⟩ := okat_op hO
      obtain ⟨r, hav⟩ := op.av_name
      have hgo : (opsAV ops)[((s.place : Nat) : Int).toNat]? = some (.tup (.str op.name :: r)) := by rw [Int.toNat_natCast, List.getElem?_map, ho, ← hav]; rfl
      have hpl : s.place < (opsAV ops).length := by rw [List.length_map]; exact e3
      cases n with
      | zero =>
        repeat' cell_call
        exact ⟨_, .refl _, hE _ (Sb.trans (.keep (.keep (.skip (.refl _)))) (sb_tail ⟨x, d, co, cx, de, dx, z, frs, lg, cA⟩ _ _ _ _ _ _ _ _ _ ((tb, .sdict tabA) :: R)))⟩
      | succ n =>
        repeat' cell_call
        refine i_tupk (a := .tup (.str op.name :: r)) (by omega) (by omega) hgo ?_
        repeat' cell_call
        refine i_sdict (kvs := tabA) (.tail _ (.tail _ (.tail _ (.tail _ (.tail _ (.tail _ (.tail _ (List.mem_append_right _ (.head _))))))))) (tab_get op) ?_
        refine ⟨keep_op op, ?_⟩
        repeat' cell_call
        rw [← hav]
        refine k_fn (.up (by decide) (step_c (p := ⟨x, d, co, cx, de, dx, z, frs, lg, cA⟩) (R := (tb, .sdict tabA) :: R) G C hbl S ho M (by omega) (by omega) ?_)) hc (Nat.le_refl _) hh
        rw [runF_succ ho] at hE
        cases hst : stepOp begs s op with
        | go s' =>
          rw [hst] at hE
          intro z' rs' M'
          repeat' cell_call
          have hlg' := step_log hst
          refine ⟨n + 1, Nat.lt_succ_self _, .inl ⟨n, s', z', rs', kb + 1, rfl, by omega, fun q hq => ?_, .refl _, step_ok C S ho hst, M', by omega, by omega, hE⟩⟩
          have e : rcM co de x tb limit n = [(nm "code", rf co), (nm "deeds", rf de), (nm "limit", .int limit), (nm "machine", rf x), (nm "table", rf tb), (nm "steps", .int ((limit : Int) - ((n + 1 : Nat) : Int) + 1))] := by unfold rcM; rw [show (limit : Int) - ((n + 1 : Nat) : Int) + 1 = limit - n by omega]
          rw [e] at hq
          exact List.mem_append_left [_] hq
        | word y log =>
          rw [hst] at hE
          intro pl st key frl R' hR
          repeat' cell_call
          refine ⟨0, Nat.zero_lt_succ _, .inr ⟨y, z, pl, st, key, frl, log, n, R', fun q hq => ?_, stop_word S ho hst, .refl _, Sb.trans (.skip (.refl _)) hR, hE⟩⟩
          have e : rcM co de x tb limit n = [(nm "code", rf co), (nm "deeds", rf de), (nm "limit", .int limit), (nm "machine", rf x), (nm "table", rf tb), (nm "steps", .int ((limit : Int) - ((n + 1 : Nat) : Int) + 1))] := by unfold rcM; rw [show (limit : Int) - ((n + 1 : Nat) : Int) + 1 = limit - n by omega]
          rw [e] at hq
          exact List.mem_append_left [_] hq
        | size log =>
          rw [hst] at hE
          exact fun T' hT' => ⟨_, .refl _, hE _ (Sb.trans (.keep (.keep (.skip (.refl _)))) hT')⟩
        | run log =>
          rw [hst] at hE
          exact fun T' hT' => ⟨_, .refl _, hE _ (Sb.trans (.keep (.keep (.skip (.refl _)))) hT')⟩
    · refine W.less (m' := _) (T' := _) ?_ hm hT
      repeat' cell_call
      all_goals first
        | exact absurd (hy.symm.trans ‹(y == Str.ofString "") = true›) (by decide)
        | exact hE _ (sb_end (p := ⟨x, d, co, cx, de, dx, z, frs, lg, cA⟩) hR)
end
section
variable {w : World} {b0 : Heap} {Q : AV → Store → Prop} {X : Addr → Store → Prop} {R T : Store}
set_option maxHeartbeats 1000000
theorem law_seen_c (G : Gd w b0) {lg co cx de dx cA : Addr} {ops : List Op} {begs : List Nat} {P : Nat → Prop} (C : CodeOk ops begs P) (hbl : begs.length ≤ 100) {limit : Nat} (hlim : limit ≤ 500) (p : MP) (hp : p = ⟨0, 0, co, cx, de, dx, 0, 0, lg, cA⟩)
    (h : ∀ T', Sb ((lg, .list (runF ops begs limit st0).2) :: (co, coO p (opsAV ops) (begsA begs)) :: R) T' → Q (.str (runF ops begs limit st0).1.str) T') : WC w b0 14 true (rf 480) [rf co, rf de, .int limit] ((lg, .list []) :: (co, coO p (opsAV ops) (begsA begs)) :: (de, deO p) :: (cA, .cell (some (rf lg))) :: R) Q X := by
  refine' wc_def3 (n₁ := Str.ofString "code") (n₂ := Str.ofString "deeds") (n₃ := Str.ofString "limit") G ?ho ?hcd ?hb ?hs ?hl ?_
  case ho => k_is
  case hcd => k_is
  case hb => exact fun _ _ _ _ _ => BindsTo.of_eq rfl
  case hs => kernel_rfl
  case hl => kernel_rfl
  intro L fl A hc hh
  refine b_one (s_try G rfl hc ?_)
  repeat' cell_call
  refine k_fn (run_code_c G C hbl hlim p hp ?_) hc (by decide) hh
  generalize runF ops begs limit st0 = z at h
  obtain ⟨f, log⟩ := z
  cases f with
  | word x =>
    intro T' hT'
    repeat' cell_call
    exact h T' hT'
  | size =>
    intro T' hT'
    refine ⟨ownSize w, ?_⟩
    refine' HsQ.hit ?he ?hk ?hd (ownSize w) ?hm (fun ea => ?_)
    case he => k_is
    case hk => kernel_rfl
    case hd => kernel_rfl
    case hm => exact of_decide_eq_true (by kernel_rfl)
    refine hd_plain ?_
    repeat' cell_call
    exact h T' hT'
  | run =>
    intro T' hT'
    refine ⟨ownRun w, ?_⟩
    refine' HsQ.miss ?he ?hk ?hd (ownSize w) ?hm ?_
    case he => k_is
    case hk => kernel_rfl
    case hd => kernel_rfl
    case hm => exact of_decide_eq_true (by kernel_rfl)
    refine' HsQ.hit ?he ?hk ?hd (ownRun w) ?hm (fun ea => ?_)
    case he => k_is
    case hk => kernel_rfl
    case hd => kernel_rfl
    case hm => exact of_decide_eq_true (by kernel_rfl)
    refine hd_plain ?_
    repeat' cell_call
    exact h T' hT'
  | step =>
    intro T' hT'
    refine ⟨ownStep w, ?_⟩
    refine' HsQ.miss ?he ?hk ?hd (ownSize w) ?hm ?_
    case he => k_is
    case hk => kernel_rfl
    case hd => kernel_rfl
    case hm => exact of_decide_eq_true (by kernel_rfl)
    refine' HsQ.miss ?he ?hk ?hd (ownRun w) ?hm ?_
    case he => k_is
    case hk => kernel_rfl
    case hd => kernel_rfl
    case hm => exact of_decide_eq_true (by kernel_rfl)
    refine' HsQ.hit ?he ?hk ?hd (ownStep w) ?hm (fun ea => ?_)
    case he => k_is
    case hk => kernel_rfl
    case hd => kernel_rfl
    case hm => exact of_decide_eq_true (by kernel_rfl)
    refine hd_plain ?_
    repeat' cell_call
    exact h T' hT'
end
section
section
variable {w : World} {b0 : Heap} {c : Cx} {m : Loc} {T : Store} {Q : AV → Loc → Store → Prop} {X : Addr → Loc → Store → Prop}
theorem i_neg {x : Addr} {xs : List AV} {a : AV} {k : Int} (hx : (x, .list xs) ∈ T) (hk : k < 0) (hlo : -(2 ^ 63) ≤ k) (h0 : 0 ≤ k + xs.length) (hn : xs[(k + xs.length).toNat]? = some a) (h : Q a m T) : ItemQ w b0 c (rf x) (.int k) m T Q X := fun va vk => ⟨⟨fun s O ⟨ra, rk⟩ => by
  cases ra; cases rk
  obtain ⟨vs, h1, r1⟩ := listAt (O.1.rep _ hx)
  have hl := r1.length
  obtain ⟨v, h2, h3⟩ := r1.get hn
  with_reducible exact PySem.wpAny_getItem_list_neg h1 hk (by rw [List.size_toArray, hl]; omega) hlo (by rw [List.size_toArray, hl]; simpa using h2) (res_same O h3 h)⟩, fun s O ra => by
  cases ra
  obtain ⟨vs, h1, r1⟩ := listAt (O.1.rep _ hx)
  exact ⟨_, _, h1.typeIs, slot_list_getitem.lookup⟩⟩
/-- a slice from the start -/
noncomputable def SliQ (a k : AV) (m : Loc) (T : Store) (Q : AV → Loc → Store → Prop) : Prop :=
  ∃ (x : Addr) (xs : List AV) (n : Int), a = rf x ∧ k = .int n ∧ (x, .list xs) ∈ T ∧ xs.length ≤ 16777216 ∧ ∀ z, Q (rf z) m ((z, .list (xs.take (kms_hi (some n) xs.length))) :: T)
theorem sli_q {x : Addr} {xs : List AV} {n : Int} {ys : List AV} (hx : (x, .list xs) ∈ T) (hz : xs.length ≤ 16777216) (he : xs.take (kms_hi (some n) xs.length) = ys) (h : ∀ z, Q (rf z) m ((z, .list ys) :: T)) : SliQ (rf x) (.int n) m T Q :=
  ⟨x, xs, n, rfl, rfl, hx, hz, fun z => he ▸ h z⟩
section
variable (w : World) (b0 : Heap) (c : Cx) (X : Addr → Loc → Store → Prop)
noncomputable abbrev KS2 (Q : AV → Loc → Store → Prop) (a : AV) : AV → Loc → Store → Prop := fun k m T => SliQ a k m T Q
noncomputable abbrev KS1 (Q : AV → Loc → Store → Prop) (e : Expr) : AV → Loc → Store → Prop := fun a m T => WE w b0 c e m T (KS2 Q a) X
end
theorem e_slice1 {v e : Expr} {sp pos : Pos} (h : WE w b0 c v m T (KS1 w b0 c X Q e) X) (ht : ∀ o r, letTemporaryGo v o r = pure ()) : WE w b0 c (.Subscript v (.Slice none (some e) none sp) pos) m T Q X := e_sliceTo h ht
end
theorem hi_m1 (n : Nat) : kms_hi (some (-1)) (n + 1) = n := by unfold kms_hi; simp
theorem hi_m2 (n : Nat) : kms_hi (some (-2)) (n + 2) = n := by unfold kms_hi; simp
noncomputable abbrev intsA (st : List Int) : List AV := st.map AV.int
/-- the law's own machine's part of the store -/
noncomputable abbrev LTx (p : MP) (opsA begA : List AV) (st frl log : List AV) (R : Store) : Store :=
  (p.sk, .list st) :: (p.frs, .list frl) :: (p.lg, .list log) :: (p.co, coO p opsA begA) :: (p.de, deO p) :: (p.cA, .cell (some (rf p.lg))) :: R
variable {w : World} {b0 : Heap} {Q : AV → Store → Prop} {X : Addr → Store → Prop} {R T : Store} {p : MP} {opsA begA st frl log : List AV}
set_option maxHeartbeats 1000000
local macro_rules | `(tactic| kqd_in) => wFirst "b_addl m1 m2 s1 F1"
local macro_rules | `(tactic| kat_tups) => wFirst "$reckoned_c G - g1 g2 _@2"
local macro_rules | `(tactic| ke_read) => wFirst "e_slice1 _ j1"
theorem lone_num (G : Gd w b0) {k way : Int} (hz : log.length ≤ 10000) (hs : st.length ≤ 1000) (h : ∀ z, Q (rf z) ((z, .list (st ++ [.int (k * one30)])) :: LTx p opsA begA st frl (log ++ [.tup [sv "number", .tup [sv "number", .int k]]]) R)) (hk : k.natAbs ≤ 8) :
    WC w b0 7 true (rf 466) [rf p.sk, .tup [sv "push", .tup [sv "number", .int k], .int way], rf p.de] (LTx p opsA begA st frl log R) Q X := by
  refine WC.drop ?_
  refine' wc_def3 (n₁ := Str.ofString "stack") (n₂ := Str.ofString "op") (n₃ := Str.ofString "deeds") G ?ho ?hcd ?hb ?hs ?hl ?_
  case ho => k_is
  case hcd => k_is
  case hb => exact fun _ _ _ _ _ => BindsTo.of_eq rfl
  case hs => kernel_rfl
  case hl => kernel_rfl
  intro L fl A hc hh
  refine' b_cons (s_if ?_)
  repeat' cell_call
  refine s_try G rfl hc ?_
  repeat' cell_call
  · exact ⟨_, .keep (.skip (.refl _)), h _⟩
  · exact mulOk (Small.of_lt (n := 2) (by omega)) small_one30
theorem lone_txt (G : Gd w b0) {way : Int} (hz : log.length ≤ 10000) (h : Q .none (LTx p opsA begA st frl (log ++ [.tup [sv "number", .tup [sv "text", sv "none"]]]) R)) :
    WC w b0 7 true (rf 466) [rf p.sk, .tup [sv "push", .tup [sv "text", sv "none"], .int way], rf p.de] (LTx p opsA begA st frl log R) Q X := by
  refine' wc_def3 (n₁ := Str.ofString "stack") (n₂ := Str.ofString "op") (n₃ := Str.ofString "deeds") G ?ho ?hcd ?hb ?hs ?hl ?_
  case ho => k_is
  case hcd => k_is
  case hb => exact fun _ _ _ _ _ => BindsTo.of_eq rfl
  case hs => kernel_rfl
  case hl => kernel_rfl
  intro L fl A hc hh
  refine' b_cons (s_if ?_)
  repeat' cell_call
  refine s_try G rfl hc ?_
  repeat' cell_call
  refine ⟨ownSize w, ?_⟩
  refine' HsQ.hit ?he ?hk ?hd (ownSize w) ?hm (fun ea => ?_)
  case he => k_is
  case hk => kernel_rfl
  case hd => kernel_rfl
  case hm => exact of_decide_eq_true (by kernel_rfl)
  refine hd_plain ?_
  repeat' cell_call
  all_goals exact h
theorem lone_neg (G : Gd w b0) {v way : Int} (h : ∀ z, Q (rf z) ((z, .list [.int (-v)]) :: LTx p opsA begA [.int v] frl log R)) :
    WC w b0 7 true (rf 466) [rf p.sk, .tup [sv "calc", sv "neg", .int way], rf p.de] (LTx p opsA begA [.int v] frl log R) Q X := by
  refine WC.drop ?_
  refine' wc_def3 (n₁ := Str.ofString "stack") (n₂ := Str.ofString "op") (n₃ := Str.ofString "deeds") G ?ho ?hcd ?hb ?hs ?hl ?_
  case ho => k_is
  case hcd => k_is
  case hb => exact fun _ _ _ _ _ => BindsTo.of_eq rfl
  case hs => kernel_rfl
  case hl => kernel_rfl
  intro L fl A hc hh
  repeat' cell_call
  refine' sli_q (ys := []) ?hx ?hz ?he (fun z => ?_)
  case hx => mem_news
  case hz => exact Nat.le_of_ble_eq_true rfl
  case he => rw [show ([AV.int v] : List AV).length = 0 + 1 from rfl, hi_m1]; rfl
  repeat' cell_call
  refine i_neg (a := .int v) (by mem_news) (by decide) (by decide) (by simp) rfl ?_
  repeat' cell_call
  exact ⟨_, .keep (.skip (.skip (.refl _))), h _⟩
theorem lone_calc (G : Gd w b0) {x k way : Int} (sg : Sgn) (hx : x.natAbs ≤ 16777216 * 10 ^ 30) (hk : k.natAbs ≤ 8) (h : ∀ v z, calcA sg x k = some v → Q (rf z) ((z, .list [.int v]) :: LTx p opsA begA [.int x, .int (k * one30)] frl log R))
    (h0 : calcA sg x k = none → Q .none (LTx p opsA begA [.int x, .int (k * one30)] frl log R)) :
    WC w b0 7 true (rf 466) [rf p.sk, .tup [sv "calc", .str sg.str, .int way], rf p.de] (LTx p opsA begA [.int x, .int (k * one30)] frl log R) Q X := by
  have e := sgn_neg sg
  refine WC.drop ?_
  refine' wc_def3 (n₁ := Str.ofString "stack") (n₂ := Str.ofString "op") (n₃ := Str.ofString "deeds") G ?ho ?hcd ?hb ?hs ?hl ?_
  case ho => k_is
  case hcd => k_is
  case hb => exact fun _ _ _ _ _ => BindsTo.of_eq rfl
  case hs => kernel_rfl
  case hl => kernel_rfl
  intro L fl A hc hh
  repeat' cell_call
  · rename_i q; rw [e] at q; cases q
  refine i_neg (a := .int x) (by mem_news) (by decide) (by decide) (by simp) rfl ?_
  repeat' cell_call
  refine i_neg (a := .int (k * one30)) (by mem_news) (by decide) (by decide) (by simp) rfl ?_
  repeat' cell_call
  · cases hcq : calcA sg x k with
    | none =>
      simp only [optA]
      repeat' cell_call
      exact ⟨_, .refl _, h0 hcq⟩
    | some v =>
      simp only [optA]
      repeat' cell_call
      refine' sli_q (ys := []) ?hx ?hz ?he (fun z => ?_)
      case hx => mem_news
      case hz => exact Nat.le_of_ble_eq_true rfl
      case he => rw [show ([AV.int x, AV.int (k * one30)] : List AV).length = 0 + 2 from rfl, hi_m2]; rfl
      repeat' cell_call
      exact ⟨_, .keep (.skip (.skip (.refl _))), h _ _ hcq⟩
  all_goals assumption
end
section
/-- the law's own run: its name, scope, and the body of its loop -/
noncomputable def forBody : Option Stmt → List Stmt
  | some (.For _ _ body _ _) => body
  | _ => []
noncomputable def lrF : Str × Scope × List Stmt := match pr.main.body.find? (fun s => match s with | .FunctionDef n .. => n == Str.ofString "_law_run" | _ => false) with
  | some (.FunctionDef n _ b _ _ _ sc _ _ _) => (n, sc, forBody b[1]?)
  | _ => (Str.empty, ⟨.function, [], false, false, []⟩, [])
theorem lit_use {w : World} {P : Str → Scope → List Stmt → Prop} {name qual : Str} {params : Arguments} {bl body orelse : List Stmt} {scope : Scope} {dV kV doc pm cdv ct oc : Value} {an od : Option Addr} {osl : Array (Option Value)} {tx it : Expr} {pos : Pos}
    (ho : (hd.heap_39 w.params).lookup 473 = some ⟨oc, od, .func (fnOf name qual params bl scope dV kV doc pm an cdv ct), osl⟩) (hbl : bl[1]? = some (.For tx it body orelse pos)) (hcf : lrF = (qual, scope, body)) (h : P qual scope body) : P lrF.1 lrF.2.1 lrF.2.2 := by
  rw [hcf]; exact h
theorem lit_back {P : Str → Scope → List Stmt → Prop} {q : Str} {s : Scope} {b : List Stmt} (hcf : lrF = (q, s, b)) (h : P lrF.1 lrF.2.1 lrF.2.2) : P q s b := by
  rw [hcf] at h; exact h
noncomputable abbrev frlL (rs : List FrR) : List AV := (rs.map fun r => AV.tup [.int r.f.last, .int r.f.behind, rf r.sl]).reverse
noncomputable def LFs (rs : List FrR) : Store := rs.map fun r => (r.sl, .idict r.kvs)
noncomputable abbrev lrM (p : MP) (place : Int) (key : Str) : Loc := [(nm "code", rf p.co), (nm "deeds", rf p.de), (nm "place", .int place), (nm "stack", rf p.sk), (nm "key", .str key), (nm "frames", rf p.frs)]
noncomputable abbrev lrM1 (p : MP) (place : Int) (key : Str) (i : Nat) : Loc := [(nm "code", rf p.co), (nm "deeds", rf p.de), (nm "place", .int place), (nm "stack", rf p.sk), (nm "key", .str key), (nm "frames", rf p.frs), (nm "turn", .int i)]
noncomputable abbrev LS (p : MP) (ops : List Op) (begs : List Nat) (rs : List FrR) (s : St) (R : Store) : Store :=
  LTx p (opsAV ops) (begsA begs) (intsA s.stack) (frlL rs) s.log (LFs rs ++ R)
noncomputable def LrE (p : MP) (ops : List Op) (begs : List Nat) (R : Store) (kb : Nat) : Out → FA → Loc → Store → Prop
  | .go s', .next, m, T => ∃ sk fr rs, MtR kb rs s'.frames ∧ m = lrM { p with sk := sk, frs := fr } s'.place s'.key ∧ T = LS { p with sk := sk, frs := fr } ops begs rs s' R
  | .word x log, .ret v, _, T => v = .str x ∧ T = (p.lg, .list log) :: R
  | .size log, .ret v, _, T => v = .str (nm "size fault") ∧ T = (p.lg, .list log) :: R
  | .run log, .ret v, _, T => v = .str (nm "run fault") ∧ T = (p.lg, .list log) :: R
  | _, _, _, _ => False
noncomputable abbrev LrB (w : World) (b0 : Heap) (p : MP) (ops : List Op) (begs : List Nat) (R : Store) (kb i : Nat) (place : Int) (key : Str) (st frl log : List AV) (F : Store) (o : Out) : Str → Scope → List Stmt → Prop := fun q sc body =>
  ∀ (L : Addr) (cdv : Value) (fl : List Env) (A : Around), (Cx.mk q sc L 473 cdv [] fl A none).Ok 10 → (true = true → A.handled = none) →
    WB w b0 ⟨q, sc, L, 473, cdv, [], fl, A, none⟩ body (lrM1 p place key i) (LTx p (opsAV ops) (begsA begs) st frl log F) (Dr (LrE p ops begs R kb o)) XF
section
variable {w : World} {b0 : Heap} {c : Cx} {m : Loc} {T : Store} {X : Addr → Loc → Store → Prop}
theorem t_if {t x y : Expr} {pos : Pos} {Qb : Bool → Loc → Store → Prop} (h : WT w b0 c t m T (KTI w b0 c X Qb x y) X) : WT w b0 c (.IfExp t x y pos) m T Qb X := ⟨fun s O _ =>
  isTrue_IfExp (h.then s O trivial fun va a m₁ T₁ s₁ ra O₁ _ x₁ hq => by
    subst ra
    cases va with
    | true => exact wp_res x₁ ((hq.1 rfl).run s₁ O₁ trivial)
    | false => exact wp_res x₁ ((hq.2 rfl).run s₁ O₁ trivial))⟩
end
section
variable {R : Store} {p : MP} {ops : List Op} {begs : List Nat} {kb : Nat} {rs : List FrR} {m : Loc} {T : Store}
theorem dr_go {sk fr : Addr} {s' : St} (M : MtR kb rs s'.frames) (hm : ∀ q ∈ lrM { p with sk := sk, frs := fr } s'.place s'.key, q ∈ m) (hT : Sb (LS { p with sk := sk, frs := fr } ops begs rs s' R) T) : Dr (LrE p ops begs R kb (.go s')) .next m T :=
  ⟨_, _, hm, hT, sk, fr, rs, M, rfl, rfl⟩
theorem lr_end {st frl log : List AV} {opsA begA : List AV} {F : Store} (hF : Sb R F) : Sb ((p.lg, .list log) :: R) (LTx p opsA begA st frl log F) := .skip (.skip (.keep (.skip (.skip (.skip hF)))))
theorem sb_F : Sb R (LFs rs ++ R) := ⟨R, .refl _, List.sublist_append_right _ R⟩
end
variable {w : World} {b0 : Heap} {R F : Store} {p : MP} {ops : List Op} {begs : List Nat} {kb i place : Nat} {rs : List FrR} {key : Str} {st frl log : List AV} {o : Out}
set_option maxHeartbeats 1000000
local macro_rules | `(tactic| kat_tups) => wFirst "$law_told G _"
local macro_rules | `(tactic| keq_rows) => wFirst "t_if _"
theorem lr_jump (G : Gd w b0) {l : Nat} (hgo : (opsAV ops)[((place : Nat) : Int).toNat]? = some (.tup [sv "jump", .int l])) (hpl : place < 100000) 
    (h : ∀ m T, Sb (LTx p (opsAV ops) (begsA begs) st frl log F) T → (∀ q ∈ lrM p (l : Int) key, q ∈ m) → Dr (LrE p ops begs R kb o) .next m T) :
    LrB w b0 p ops begs R kb i place key st frl log F o lrF.1 lrF.2.1 lrF.2.2 := by
  refine' lit_use (w := w) (P := LrB w b0 p ops begs R kb i place key st frl log F o) ?ho ?hbl ?hcf ?_
  case ho => k_is
  case hbl => exact rfl
  case hcf => kernel_rfl
  intro L cdv fl A hc hh
  repeat' cell_call
  refine i_tupk (a := .tup [sv "jump", .int l]) (by omega) (by omega) hgo ?_
  repeat' cell_call
  exact h _ _ (.refl _) (by k_whole)
theorem lr_stop (G : Gd w b0) {x : Str} (hgo : (opsAV ops)[((place : Nat) : Int).toNat]? = some (.tup [sv "stop", .str x])) (hpl : place < 100000) 
    (h : ∀ m T, Sb (LTx p (opsAV ops) (begsA begs) st frl log F) T → Dr (LrE p ops begs R kb o) (.ret (.str x)) m T) :
    LrB w b0 p ops begs R kb i place key st frl log F o lrF.1 lrF.2.1 lrF.2.2 := by
  refine' lit_use (w := w) (P := LrB w b0 p ops begs R kb i place key st frl log F o) ?ho ?hbl ?hcf ?_
  case ho => k_is
  case hbl => exact rfl
  case hcf => kernel_rfl
  intro L cdv fl A hc hh
  repeat' cell_call
  refine i_tupk (a := .tup [sv "stop", .str x]) (by omega) (by omega) hgo ?_
  repeat' cell_call
  all_goals exact h _ _ (.refl _)
theorem lr_key (G : Gd w b0) {x : Str} {l : Nat} (hgo : (opsAV ops)[((place : Nat) : Int).toNat]? = some (.tup [sv "key", .str x, .int l])) (hpl : place < 100000) 
    (h : ∀ m T, Sb (LTx p (opsAV ops) (begsA begs) st frl log F) T → (∀ q ∈ lrM p (if key = x then (place : Int) + 1 else l) key, q ∈ m) → Dr (LrE p ops begs R kb o) .next m T) :
    LrB w b0 p ops begs R kb i place key st frl log F o lrF.1 lrF.2.1 lrF.2.2 := by
  refine' lit_use (w := w) (P := LrB w b0 p ops begs R kb i place key st frl log F o) ?ho ?hbl ?hcf ?_
  case ho => k_is
  case hbl => exact rfl
  case hcf => kernel_rfl
  intro L cdv fl A hc hh
  repeat' cell_call
  refine i_tupk (a := .tup [sv "key", .str x, .int l]) (by omega) (by omega) hgo ?_
  repeat' cell_call
  · rename_i q
    rw [if_pos (by simpa using q)] at h
    exact h _ _ (.refl _) (by k_whole)
  · rename_i q
    rw [if_neg (by simpa using q)] at h
    exact h _ _ (.refl _) (by k_whole)
theorem lr_test (G : Gd w b0) {n : Int} {l : Nat} (hgo : (opsAV ops)[((place : Nat) : Int).toNat]? = some (.tup [sv "test", .int n, .int l])) (hpl : place < 100000) (hz : log.length ≤ 10000) 
    (h : ∀ m T, Sb (LTx p (opsAV ops) (begsA begs) st frl (log ++ [.tup [sv "test", .int n]]) F) T → (∀ q ∈ lrM p (if Int.fmod (n + (log ++ [AV.tup [sv "test", .int n]]).length) 3 ≠ 0 then (place : Int) + 1 else l) key, q ∈ m) → Dr (LrE p ops begs R kb o) .next m T) :
    LrB w b0 p ops begs R kb i place key st frl log F o lrF.1 lrF.2.1 lrF.2.2 := by
  refine' lit_use (w := w) (P := LrB w b0 p ops begs R kb i place key st frl log F o) ?ho ?hbl ?hcf ?_
  case ho => k_is
  case hbl => exact rfl
  case hcf => kernel_rfl
  intro L cdv fl A hc hh
  repeat' cell_call
  refine i_tupk (a := .tup [sv "test", .int n, .int l]) (by omega) (by omega) hgo ?_
  repeat' cell_call
  · rename_i q
    rw [if_pos (by simpa using q)] at h
    exact h _ _ (.refl _) (by k_whole)
  · rename_i q
    rw [if_neg (by simpa using q)] at h
    exact h _ _ (.refl _) (by k_whole)
theorem lr_do (G : Gd w b0) {n : Int} (hgo : (opsAV ops)[((place : Nat) : Int).toNat]? = some (.tup [sv "do", .tup [sv "deed", .int n]])) (hpl : place < 100000) (hz : log.length ≤ 10000) 
    (h : ∀ m T, Sb (LTx p (opsAV ops) (begsA begs) st frl (log ++ [.tup [sv "do", .tup [sv "deed", .int n]]]) F) T → (∀ q ∈ lrM p ((place : Int) + 1) (words4 (n + (log ++ [AV.tup [sv "do", .tup [sv "deed", .int n]]]).length)), q ∈ m) → Dr (LrE p ops begs R kb o) .next m T) :
    LrB w b0 p ops begs R kb i place key st frl log F o lrF.1 lrF.2.1 lrF.2.2 := by
  refine' lit_use (w := w) (P := LrB w b0 p ops begs R kb i place key st frl log F o) ?ho ?hbl ?hcf ?_
  case ho => k_is
  case hbl => exact rfl
  case hcf => kernel_rfl
  intro L cdv fl A hc hh
  repeat' cell_call
  refine i_tupk (a := .tup [sv "do", .tup [sv "deed", .int n]]) (by omega) (by omega) hgo ?_
  repeat' cell_call
  exact h _ _ (.refl _) (by k_whole)
theorem lr_put (G : Gd w b0) {v : Int} {l : Nat} (hgo : (opsAV ops)[((place : Nat) : Int).toNat]? = some (.tup [sv "put", sv "rows", .int l])) (hpl : place < 100000) (hz : log.length ≤ 10000) (hs : st.length ≤ 1000) 
    (h : ∀ m T, Sb (LTx p (opsAV ops) (begsA begs) st frl (log ++ [.tup [sv "put", sv "rows", dec (told v)]]) F) T → (∀ q ∈ lrM p (if Int.fmod (told v).1 7 = 0 then (l : Int) else (place : Int) + 1) key, q ∈ m) → Dr (LrE p ops begs R kb o) .next m T) :
    LrB w b0 p ops begs R kb i place key (st ++ [.int v]) frl log F o lrF.1 lrF.2.1 lrF.2.2 := by
  refine' lit_use (w := w) (P := LrB w b0 p ops begs R kb i place key (st ++ [.int v]) frl log F o) ?ho ?hbl ?hcf ?_
  case ho => k_is
  case hbl => exact rfl
  case hcf => kernel_rfl
  intro L cdv fl A hc hh
  repeat' cell_call
  refine i_tupk (a := .tup [sv "put", sv "rows", .int l]) (by omega) (by omega) hgo ?_
  repeat' cell_call
  · rename_i q
    rw [if_pos (by simpa using q)] at h
    exact h _ _ (.refl _) (by k_whole)
  · rename_i q
    rw [if_neg (by simpa using q)] at h
    exact h _ _ (.refl _) (by k_whole)
end
section
variable {w : World} {b0 : Heap} {R F : Store} {p : MP} {ops : List Op} {begs : List Nat} {kb i place : Nat} {rs : List FrR} {key : Str} {st frl log : List AV} {o : Out}
set_option maxHeartbeats 1000000
local macro_rules | `(tactic| kqd_in) => wFirst "b_addl m1 m2 s1 F1"
local macro_rules | `(tactic| keq_rows) => wFirst "t_if _"
local macro_rules | `(tactic| ke_read) => wFirst "e_slice1 _ j1"
theorem cut_one (n : Int) : Int.tdiv (n * one30) one30 = n := Int.mul_tdiv_cancel _ (by decide)
theorem lr_num (G : Gd w b0) {k way : Int} (hgo : (opsAV ops)[((place : Nat) : Int).toNat]? = some (.tup [sv "push", .tup [sv "number", .int k], .int way])) (hpl : place < 100000)
    (hk : k.natAbs ≤ 8) (hz : log.length ≤ 10000) (hs : st.length ≤ 1000)
    (h : ∀ z m T, Sb (LTx { p with sk := z } (opsAV ops) (begsA begs) (st ++ [.int (k * one30)]) frl (log ++ [.tup [sv "number", .tup [sv "number", .int k]]]) F) T → (∀ q ∈ lrM { p with sk := z } ((place : Int) + 1) key, q ∈ m) → Dr (LrE p ops begs R kb o) .next m T) :
    LrB w b0 p ops begs R kb i place key st frl log F o lrF.1 lrF.2.1 lrF.2.2 := by
  refine' lit_use (w := w) (P := LrB w b0 p ops begs R kb i place key st frl log F o) ?ho ?hbl ?hcf ?_
  case ho => k_is
  case hbl => exact rfl
  case hcf => kernel_rfl
  intro L cdv fl A hc hh
  repeat' cell_call
  refine i_tupk (a := .tup [sv "push", .tup [sv "number", .int k], .int way]) (by omega) (by omega) hgo ?_
  repeat' cell_call
  refine k_fn (lone_num G hz hs (fun z => ?_) hk) hc (by decide) hh
  repeat' cell_call
  exact h z _ _ (.keep (.skip (.refl _))) (by k_whole)
theorem lr_txt (G : Gd w b0) {way : Int} (hgo : (opsAV ops)[((place : Nat) : Int).toNat]? = some (.tup [sv "push", .tup [sv "text", sv "none"], .int way])) (hpl : place < 100000)
    (hz : log.length ≤ 10000)
    (h0 : way < 0 → ∀ m T, Sb (LTx p (opsAV ops) (begsA begs) st frl (log ++ [.tup [sv "number", .tup [sv "text", sv "none"]]]) F) T → Dr (LrE p ops begs R kb o) (.ret (.str (nm "size fault"))) m T)
    (h1 : ¬ way < 0 → ∀ z m T, Sb (LTx { p with sk := z } (opsAV ops) (begsA begs) [] frl (log ++ [.tup [sv "number", .tup [sv "text", sv "none"]]]) F) T → (∀ q ∈ lrM { p with sk := z } way key, q ∈ m) → Dr (LrE p ops begs R kb o) .next m T) :
    LrB w b0 p ops begs R kb i place key st frl log F o lrF.1 lrF.2.1 lrF.2.2 := by
  refine' lit_use (w := w) (P := LrB w b0 p ops begs R kb i place key st frl log F o) ?ho ?hbl ?hcf ?_
  case ho => k_is
  case hbl => exact rfl
  case hcf => kernel_rfl
  intro L cdv fl A hc hh
  repeat' cell_call
  refine i_tupk (a := .tup [sv "push", .tup [sv "text", sv "none"], .int way]) (by omega) (by omega) hgo ?_
  repeat' cell_call
  refine k_fn (lone_txt G hz ?_) hc (by decide) hh
  repeat' cell_call
  · rename_i q
    exact h0 (of_decide_eq_true q) _ _ (.refl _)
  · rename_i q z
    exact h1 (of_decide_eq_false q) z _ _ (.keep (.skip (.refl _))) (by k_whole)
theorem lr_neg (G : Gd w b0) {v way : Int} (hgo : (opsAV ops)[((place : Nat) : Int).toNat]? = some (.tup [sv "calc", sv "neg", .int way])) (hpl : place < 100000)
    (h : ∀ z m T, Sb (LTx { p with sk := z } (opsAV ops) (begsA begs) [.int (-v)] frl log F) T → (∀ q ∈ lrM { p with sk := z } ((place : Int) + 1) key, q ∈ m) → Dr (LrE p ops begs R kb o) .next m T) :
    LrB w b0 p ops begs R kb i place key [.int v] frl log F o lrF.1 lrF.2.1 lrF.2.2 := by
  refine' lit_use (w := w) (P := LrB w b0 p ops begs R kb i place key [.int v] frl log F o) ?ho ?hbl ?hcf ?_
  case ho => k_is
  case hbl => exact rfl
  case hcf => kernel_rfl
  intro L cdv fl A hc hh
  repeat' cell_call
  refine i_tupk (a := .tup [sv "calc", sv "neg", .int way]) (by omega) (by omega) hgo ?_
  repeat' cell_call
  refine k_fn (lone_neg G (fun z => ?_)) hc (by decide) hh
  repeat' cell_call
  exact h z _ _ (.keep (.skip (.refl _))) (by k_whole)
theorem lr_calc (G : Gd w b0) {x k way : Int} (sg : Sgn) (hgo : (opsAV ops)[((place : Nat) : Int).toNat]? = some (.tup [sv "calc", .str sg.str, .int way])) (hpl : place < 100000)
    (hx : x.natAbs ≤ 16777216 * 10 ^ 30) (hk : k.natAbs ≤ 8)
    (h : ∀ v, calcA sg x k = some v → ∀ z m T, Sb (LTx { p with sk := z } (opsAV ops) (begsA begs) [.int v] frl log F) T → (∀ q ∈ lrM { p with sk := z } ((place : Int) + 1) key, q ∈ m) → Dr (LrE p ops begs R kb o) .next m T)
    (h0 : calcA sg x k = none → way < 0 → ∀ m T, Sb (LTx p (opsAV ops) (begsA begs) [.int x, .int (k * one30)] frl log F) T → Dr (LrE p ops begs R kb o) (.ret (.str (nm "size fault"))) m T)
    (h1 : calcA sg x k = none → ¬ way < 0 → ∀ z m T, Sb (LTx { p with sk := z } (opsAV ops) (begsA begs) [] frl log F) T → (∀ q ∈ lrM { p with sk := z } way key, q ∈ m) → Dr (LrE p ops begs R kb o) .next m T) :
    LrB w b0 p ops begs R kb i place key [.int x, .int (k * one30)] frl log F o lrF.1 lrF.2.1 lrF.2.2 := by
  refine' lit_use (w := w) (P := LrB w b0 p ops begs R kb i place key [.int x, .int (k * one30)] frl log F o) ?ho ?hbl ?hcf ?_
  case ho => k_is
  case hbl => exact rfl
  case hcf => kernel_rfl
  intro L cdv fl A hc hh
  repeat' cell_call
  refine i_tupk (a := .tup [sv "calc", .str sg.str, .int way]) (by omega) (by omega) hgo ?_
  repeat' cell_call
  refine k_fn (lone_calc G sg hx hk (fun v z e => ?_) (fun e => ?_)) hc (by decide) hh
  · repeat' cell_call
    exact h v e z _ _ (.keep (.skip (.refl _))) (by k_whole)
  · repeat' cell_call
    · rename_i q
      exact h0 e (of_decide_eq_true q) _ _ (.refl _)
    · rename_i q z
      exact h1 e (of_decide_eq_false q) z _ _ (.keep (.skip (.refl _))) (by k_whole)
end
section
variable {w : World} {b0 : Heap} {R F : Store} {p : MP} {ops : List Op} {begs : List Nat} {kb i place : Nat} {rs : List FrR} {key : Str} {st frl log : List AV} {o : Out}
set_option maxHeartbeats 1000000
local macro_rules | `(tactic| kqd_in) => wFirst "b_addl m1 m2 s1 F1"
local macro_rules | `(tactic| keq_rows) => wFirst "t_if _"
local macro_rules | `(tactic| ke_read) => wFirst "e_slice1 _ j1"
theorem cut_one9 (n : Int) : Int.tdiv (n * one30) one30 = n := Int.mul_tdiv_cancel _ (by decide)
theorem lr_perform (G : Gd w b0) {b e : Int}  (hgo : (opsAV ops)[((place : Nat) : Int).toNat]? = some (.tup [sv "perform", .int b, .int e])) (hpl : place < 100000)
    (hb0 : 0 ≤ b) (hb1 : b < begs.length) (hz : begs.length ≤ 100) (hf : frl.length ≤ 21)
    (h0 : frl.length = 21 → ∀ m T, Sb (LTx p (opsAV ops) (begsA begs) st frl log F) T → Dr (LrE p ops begs R kb o) (.ret (.str (nm "run fault"))) m T)
    (h1 : frl.length < 21 → ∀ d, ∀ z m T, Sb (LTx { p with frs := z } (opsAV ops) (begsA begs) st (frl ++ [.tup [.int e, .int ((place : Int) + 1), rf d]]) log ((d, .idict []) :: F)) T → (∀ q ∈ lrM { p with frs := z } ((begs.getD b.toNat 0 : Nat) : Int) key, q ∈ m) → Dr (LrE p ops begs R kb o) .next m T) :
    LrB w b0 p ops begs R kb i place key st frl log F o lrF.1 lrF.2.1 lrF.2.2 := by
  refine' lit_use (w := w) (P := LrB w b0 p ops begs R kb i place key st frl log F o) ?ho ?hbl ?hcf ?_
  case ho => k_is
  case hbl => exact rfl
  case hcf => kernel_rfl
  intro L cdv fl A hc hh
  repeat' cell_call
  refine i_tupk (a := .tup [sv "perform", .int b, .int e]) (by omega) (by omega) hgo ?_
  repeat' cell_call
  · rename_i q
    exact h0 (by have := eq_of_beq q; omega) _ _ (.refl _)
  · rename_i q d z y
    have hx2 : (begsA begs)[b.toNat]? = some (.int ((begs.getD b.toNat 0 : Nat) : Int)) := by
      have : b.toNat < begs.length := by omega
      simp [List.getElem?_eq_getElem this]
    refine i_tupk (a := .int ((begs.getD b.toNat 0 : Nat) : Int)) (by omega) (by omega) hx2 ?_
    repeat' cell_call
    exact h1 (by have : ¬ ((frl.length : Int) = 21) := (by simpa using q); omega) d y _ _ (Sb.pull (l := [_]) (.skip (Sb.pull (l := [_, _, _, _, _]) (.keep (.skip (.refl _)))))) (by k_whole)
theorem lr_leave (G : Gd w b0) {r : FrR} {e : Int} (hgo : (opsAV ops)[((place : Nat) : Int).toNat]? = some (.tup [sv "leave", .int e])) (hpl : place < 100000)
    (hf : frl.length ≤ 21)
    (h0 : r.f.last = e → ∀ z m T, Sb (LTx { p with frs := z } (opsAV ops) (begsA begs) st frl log F) T → (∀ q ∈ lrM { p with frs := z } r.f.behind key, q ∈ m) → Dr (LrE p ops begs R kb o) .next m T)
    (h1 : r.f.last ≠ e → ∀ m T, Sb (LTx p (opsAV ops) (begsA begs) st (frl ++ [.tup [.int r.f.last, .int r.f.behind, rf r.sl]]) log F) T → (∀ q ∈ lrM p ((place : Int) + 1) key, q ∈ m) → Dr (LrE p ops begs R kb o) .next m T) :
    LrB w b0 p ops begs R kb i place key st (frl ++ [.tup [.int r.f.last, .int r.f.behind, rf r.sl]]) log F o lrF.1 lrF.2.1 lrF.2.2 := by
  refine' lit_use (w := w) (P := LrB w b0 p ops begs R kb i place key st (frl ++ [.tup [.int r.f.last, .int r.f.behind, rf r.sl]]) log F o) ?ho ?hbl ?hcf ?_
  case ho => k_is
  case hbl => exact rfl
  case hcf => kernel_rfl
  intro L cdv fl A hc hh
  repeat' cell_call
  refine i_tupk (a := .tup [sv "leave", .int e]) (by omega) (by omega) hgo ?_
  repeat' cell_call
  · rename_i q
    have q := eq_of_beq q
    refine' sli_q (ys := frl) ?hx ?hz ?he (fun z => ?_)
    case hx => mem_news
    case hz => simp only [List.length_append, List.length_cons, List.length_nil]; omega
    case he => rw [List.length_append, List.length_singleton, hi_m1, List.take_left']; rfl
    repeat' cell_call
    exact h0 q z _ _ (Sb.pull (l := [_]) (.keep (.skip (.refl _)))) (by k_whole)
  · rename_i q
    exact h1 (by simpa using q) _ _ (.refl _) (by k_whole)
end
section
variable {w : World} {b0 : Heap} {R F : Store} {p : MP} {ops : List Op} {begs : List Nat} {kb i place : Nat} {rs : List FrR} {key : Str} {st frl log : List AV} {o : Out}
set_option maxHeartbeats 1000000
local macro_rules | `(tactic| kqd_in) => wFirst "b_addl m1 m2 s1 F1"
local macro_rules | `(tactic| keq_rows) => wFirst "t_if _"
local macro_rules | `(tactic| ke_read) => wFirst "e_slice1 _ j1"
theorem cut_one0 (n : Int) : Int.tdiv (n * one30) one30 = n := Int.mul_tdiv_cancel _ (by decide)
theorem lr_count (G : Gd w b0) {r : FrR} {n j : Int} (hgo : (opsAV ops)[((place : Nat) : Int).toNat]? = some (.tup [sv "count", .int j])) (hpl : place < 100000)
    (hn : n.natAbs ≤ 8) (hf : frl.length ≤ 21) (hs : st.length ≤ 1000) (hk : r.kvs.length ≤ 16777216)
    (h : ∀ m T, Sb (LTx p (opsAV ops) (begsA begs) st (frl ++ [.tup [.int r.f.last, .int r.f.behind, rf r.sl]]) log ((r.sl, .idict (putA r.kvs j (.int n))) :: F)) T → (∀ q ∈ lrM p ((place : Int) + 1) key, q ∈ m) → Dr (LrE p ops begs R kb o) .next m T) :
    LrB w b0 p ops begs R kb i place key (st ++ [.int (n * one30)]) (frl ++ [.tup [.int r.f.last, .int r.f.behind, rf r.sl]]) log ((r.sl, .idict r.kvs) :: F) o lrF.1 lrF.2.1 lrF.2.2 := by
  refine' lit_use (w := w) (P := LrB w b0 p ops begs R kb i place key (st ++ [.int (n * one30)]) (frl ++ [.tup [.int r.f.last, .int r.f.behind, rf r.sl]]) log ((r.sl, .idict r.kvs) :: F) o) ?ho ?hbl ?hcf ?_
  case ho => k_is
  case hbl => exact rfl
  case hcf => kernel_rfl
  intro L cdv fl A hc hh
  repeat' cell_call
  refine i_tupk (a := .tup [sv "count", .int j]) (by omega) (by omega) hgo ?_
  repeat' cell_call
  · rw [cut_one0]
    exact h _ _ (.refl _) (by k_whole)
  all_goals first | exact small_one30 | exact (by decide : one30 ≠ 0)
theorem lr_less (G : Gd w b0) {r : FrR} {j v : Int} {l : Nat} (hgo : (opsAV ops)[((place : Nat) : Int).toNat]? = some (.tup [sv "less", .int j, .int l])) (hpl : place < 100000)
    (hg : (getA r.kvs j).getD (.int 0) = .int v) (hf : frl.length ≤ 21) (hk : r.kvs.length ≤ 16777216)
    (h0 : 0 < v → ∀ m T, Sb (LTx p (opsAV ops) (begsA begs) st (frl ++ [.tup [.int r.f.last, .int r.f.behind, rf r.sl]]) log ((r.sl, .idict (putA r.kvs j (.int (v - 1)))) :: F)) T → (∀ q ∈ lrM p ((place : Int) + 1) key, q ∈ m) → Dr (LrE p ops begs R kb o) .next m T)
    (h1 : ¬ 0 < v → ∀ m T, Sb (LTx p (opsAV ops) (begsA begs) st (frl ++ [.tup [.int r.f.last, .int r.f.behind, rf r.sl]]) log ((r.sl, .idict (putA r.kvs j (.int v))) :: F)) T → (∀ q ∈ lrM p (l : Int) key, q ∈ m) → Dr (LrE p ops begs R kb o) .next m T) :
    LrB w b0 p ops begs R kb i place key st (frl ++ [.tup [.int r.f.last, .int r.f.behind, rf r.sl]]) log ((r.sl, .idict r.kvs) :: F) o lrF.1 lrF.2.1 lrF.2.2 := by
  refine' lit_use (w := w) (P := LrB w b0 p ops begs R kb i place key st (frl ++ [.tup [.int r.f.last, .int r.f.behind, rf r.sl]]) log ((r.sl, .idict r.kvs) :: F) o) ?ho ?hbl ?hcf ?_
  case ho => k_is
  case hbl => exact rfl
  case hcf => kernel_rfl
  intro L cdv fl A hc hh
  repeat' cell_call
  refine i_tupk (a := .tup [sv "less", .int j, .int l]) (by omega) (by omega) hgo ?_
  repeat' cell_call
  rw [hg]
  repeat' cell_call
  all_goals first
    | exact absurd (of_decide_eq_true ‹decide (0 < v) = true›) (of_decide_eq_false ‹decide (0 < v) = false›)
    | (rename_i q1 q2
       exact h0 (of_decide_eq_true q1) _ _ (.refl _) (by k_whole))
    | (rename_i q1 q2
       exact h1 (of_decide_eq_false q1) _ _ (.refl _) (by k_whole))
theorem fdiv_one9 (n : Int) : Int.fdiv (n * one30) one30 = n := by
  rw [Int.fdiv_eq_ediv_of_nonneg _ (by decide)]; exact kdiv n
theorem lt_one9 {n : Int} (h : 0 < n * one30) : 1 ≤ n := by
  have h : 0 < n * (10 ^ 30 : Int) := h
  omega
theorem le_one9 {n m : Int} (h : n * one30 ≤ m * one30) : n ≤ m := by
  have h : n * (10 ^ 30 : Int) ≤ m * (10 ^ 30 : Int) := h
  omega
theorem le_one8 {n m : Int} (h : n ≤ m) : n * one30 ≤ m * one30 := by
  show n * (10 ^ 30 : Int) ≤ m * (10 ^ 30 : Int)
  omega
theorem lt_one8 {n : Int} (h : 1 ≤ n) : 0 < n * one30 := by
  show 0 < n * (10 ^ 30 : Int)
  omega
theorem lr_choose (G : Gd w b0) {ls : List Nat} {n : Int} (hgo : (opsAV ops)[((place : Nat) : Int).toNat]? = some (.tup [sv "choose", .tup (ls.map fun (l : Nat) => .int (l : Int))])) (hpl : place < 100000)
    (hn : n.natAbs ≤ 8) (hl : ls.length ≤ 100) (hs : st.length ≤ 1000)
    (h : ∀ m T, Sb (LTx p (opsAV ops) (begsA begs) st frl log F) T → (∀ q ∈ lrM p (if 1 ≤ n ∧ n ≤ ls.length then ((ls.getD (n - 1).toNat 0 : Nat) : Int) else (place : Int) + 1) key, q ∈ m) → Dr (LrE p ops begs R kb o) .next m T) :
    LrB w b0 p ops begs R kb i place key (st ++ [.int (n * one30)]) frl log F o lrF.1 lrF.2.1 lrF.2.2 := by
  have hx1 : (ls.map fun (l : Nat) => AV.int (l : Int)).length = ls.length := by simp
  have hx2 : ∀ k : Nat, k < ls.length → (ls.map fun (l : Nat) => AV.int (l : Int))[k]? = some (.int ((ls.getD k 0 : Nat) : Int)) := fun k hk => by simp [List.getElem?_eq_getElem hk]
  generalize (ls.map fun (l : Nat) => AV.int (l : Int)) = xs at hx1 hx2 hgo
  refine' lit_use (w := w) (P := LrB w b0 p ops begs R kb i place key (st ++ [.int (n * one30)]) frl log F o) ?ho ?hbl ?hcf ?_
  case ho => k_is
  case hbl => exact rfl
  case hcf => kernel_rfl
  intro L cdv fl A hc hh
  repeat' cell_call
  refine i_tupk (a := .tup [sv "choose", .tup xs]) (by omega) (by omega) hgo ?_
  repeat' cell_call
  · rename_i q1 q2 q3
    have q2 := lt_one9 (of_decide_eq_true q2)
    have q3 := le_one9 (of_decide_eq_true q3)
    have q3 : n ≤ ls.length := by omega
    rw [fdiv_one9]
    refine i_tupk (a := .int ((ls.getD (n - 1).toNat 0 : Nat) : Int)) (by omega) (by omega) (hx2 _ (by omega)) ?_
    rw [if_pos ⟨q2, q3⟩] at h
    repeat' cell_call
    exact h _ _ (.refl _) (by k_whole)
  all_goals first
    | exact (by decide : one30 ≠ 0)
    | exact small_one30
    | exact mulOk (Small.of_lt (n := 3) (by omega)) small_one30
    | (rename_i q1
       exact absurd (fmod_one n) (by simpa using q1))
    | (rename_i q1 q2
       rw [if_neg (fun z => of_decide_eq_false q2 (lt_one8 z.1))] at h
       exact h _ _ (.refl _) (by k_whole))
    | (rename_i q1 q2 q3
       rw [if_neg (fun z => of_decide_eq_false q3 (le_one8 (by omega)))] at h
       exact h _ _ (.refl _) (by k_whole))
end
section
section
variable {w : World} {b0 : Heap} {R : Store} {p : MP} {ops : List Op} {begs : List Nat} {P : Nat → Prop} {kb i : Nat} {rs : List FrR} {s : St} {op : Op}
theorem dr_go2 {sk fr : Addr} {m : Loc} {T : Store} {s' : St} {frl : List AV} (e : frlL rs = frl) (M : MtR kb rs s'.frames) (hm : ∀ q ∈ lrM { p with sk := sk, frs := fr } s'.place s'.key, q ∈ m) (hT : Sb (LTx { p with sk := sk, frs := fr } (opsAV ops) (begsA begs) (intsA s'.stack) frl s'.log (LFs rs ++ R)) T) : Dr (LrE p ops begs R kb (.go s')) .next m T := by
  subst e
  exact dr_go M hm hT
theorem lr_step (G : Gd w b0) (C : CodeOk ops begs P) (hbl : begs.length ≤ 100) (S : StOk ops begs P s) (ho : ops[s.place]? = some op) (hM : MtR kb rs s.frames) (hk : kb ≤ 1000) (hlog : s.log.length ≤ 10000) :
    LrB w b0 p ops begs R (kb + 1) i s.place s.key (intsA s.stack) (frlL rs) s.log (LFs rs ++ R) (stepOp begs s op) lrF.1 lrF.2.1 lrF.2.2 := by
  obtain ⟨⟨lv, hO, hS⟩, hF, hL⟩ := S
  obtain ⟨op', e1, e2, e3⟩ := okat_op hO
  rw [ho] at e1
  cases e1
  rw [e2] at hO
  have hM1 := hM.mono (kb' := kb + 1) (by omega)
  have hrl : (frlL rs).length ≤ 21 := by rw [List.length_reverse, List.length_map, hM.len]; exact hL
  have hpl : s.place < 100000 := Nat.lt_of_lt_of_le e3 C.small
  have hgo : (opsAV ops)[((s.place : Nat) : Int).toNat]? = some op.av := by rw [Int.toNat_natCast, List.getElem?_map, ho]; rfl
  have weak : ∀ {way : Int}, WayOk P way → ¬ way < 0 → (way.toNat : Int) = way := fun hw hn => by omega
  have endT : ∀ {st frl log : List AV} {T : Store}, Sb (LTx p (opsAV ops) (begsA begs) st frl log (LFs rs ++ R)) T → Sb ((p.lg, .list log) :: R) T := fun hT => (lr_end (p := p) sb_F).trans hT
  cases op with
  | push o way =>
    have hw : WayOk P way := by
      cases lv with
      | e => exact hO.1
      | s1 k => exact hO.1
      | s2 k => exact hO.elim
    have hk2 : OpdOk o := by
      cases lv with
      | e => exact hO.2.1
      | s1 k => exact hO.2.1
      | s2 k => exact hO.elim
    have hst : (intsA s.stack).length ≤ 1000 := by
      rw [List.length_map]
      cases lv with
      | e => rw [show s.stack = [] from hS]; decide
      | s1 k => obtain ⟨v, hS, _⟩ := hS; rw [hS]; exact Nat.le_of_ble_eq_true rfl
      | s2 k => exact hO.elim
    cases o with
    | num k =>
      refine lr_num G hgo hpl hk2 hlog hst fun z m T hT hm => ?_
      refine dr_go (sk := z) (fr := p.frs) (s' := { s with place := s.place + 1, stack := s.stack ++ [k * one30], log := s.log ++ [.tup [sv "number", .tup [sv "number", .int k]]] }) hM1 hm ?_
      have e : intsA (s.stack ++ [k * one30]) = intsA s.stack ++ [.int (k * one30)] := by simp [intsA]
      rw [← e] at hT
      exact hT
    | txt =>
      refine lr_txt G hgo hpl hlog (fun q m T hT => ?_) (fun q z m T hT hm => ?_)
      · show Dr (LrE p ops begs R (kb + 1) (if way < 0 then _ else _)) _ _ _
        rw [if_pos q]
        exact ⟨[], _, sub_nil, endT hT, rfl, rfl⟩
      · show Dr (LrE p ops begs R (kb + 1) (if way < 0 then _ else _)) _ _ _
        rw [if_neg q]
        rw [← weak hw q] at hm
        exact dr_go (sk := z) (fr := p.frs) (s' := { s with place := way.toNat, stack := [], log := s.log ++ [.tup [sv "number", .tup [sv "text", sv "none"]]] }) hM1 hm hT
  | neg way =>
    cases lv with
    | e => exact hO.elim
    | s2 k => exact hO.elim
    | s1 k =>
      obtain ⟨v, hS, hv⟩ := hS
      have e0 : intsA s.stack = [.int v] := by rw [hS]; rfl
      rw [e0]
      refine lr_neg G hgo hpl fun z m T hT hm => ?_
      refine dr_go (sk := z) (fr := p.frs) (s' := { s with place := s.place + 1, stack := s.stack.dropLast ++ [-(s.stack.getLast?.getD 0)] }) hM1 hm ?_
      rw [hS]
      exact hT
  | «calc» sg way =>
    cases lv with
    | e => exact hO.elim
    | s1 k => exact hO.elim
    | s2 k =>
      obtain ⟨hw, hk', hr⟩ := hO
      obtain ⟨v, n, hS, hv, hn⟩ := hS
      have e0 : intsA s.stack = [.int v, .int (n * one30)] := by rw [hS]; rfl
      rw [e0]
      have hb : s.stack.getLast?.getD 0 / one30 = n := by rw [hS]; exact kdiv n
      have ha : s.stack.dropLast.getLast?.getD 0 = v := by rw [hS]; rfl
      have hd : s.stack.dropLast.dropLast = [] := by rw [hS]; rfl
      refine lr_calc G sg hgo hpl (hv.one hk') hn (fun u e z m T hT hm => ?_) (fun e q m T hT => ?_) (fun e q z m T hT hm => ?_)
      · simp only [stepOp, hb, ha, hd, e]
        exact dr_go (sk := z) (fr := p.frs) (s' := { s with place := s.place + 1, stack := [] ++ [u] }) hM1 hm hT
      · simp only [stepOp, hb, ha, hd, e]
        rw [if_pos q]
        exact ⟨[], _, sub_nil, endT hT, rfl, rfl⟩
      · simp only [stepOp, hb, ha, hd, e]
        rw [if_neg q]
        rw [← weak hw q] at hm
        exact dr_go (sk := z) (fr := p.frs) (s' := { s with place := way.toNat, stack := [] }) hM1 hm hT
  | put l =>
    cases lv with
    | e => exact hO.elim
    | s2 k => exact hO.elim
    | s1 k =>
      obtain ⟨v, hS, hv⟩ := hS
      have e0 : intsA s.stack = [] ++ [.int v] := by rw [hS]; rfl
      rw [e0]
      refine lr_put (st := []) (v := v) G hgo hpl hlog le0 fun m T hT hm => ?_
      have ev : s.stack.getLast?.getD 0 = v := by rw [hS]; rfl
      have ed : s.stack.dropLast = [] := by rw [hS]; rfl
      simp only [stepOp, ev, ed]
      refine dr_go (sk := p.sk) (fr := p.frs) (s' := { s with place := if Int.fmod (told v).1 7 = 0 then l else s.place + 1, stack := [], log := s.log ++ [.tup [sv "put", sv "rows", dec (told v)]] }) hM1 ?_ hT
      split at hm
      · rename_i q; rw [if_pos q]; exact hm
      · rename_i q; rw [if_neg q]; exact hm
  | deed n =>
    refine lr_do G hgo hpl hlog fun m T hT hm => ?_
    exact dr_go (sk := p.sk) (fr := p.frs) (s' := { s with place := s.place + 1, key := words4 (n + (s.log ++ [AV.tup [sv "do", .tup [sv "deed", .int n]]]).length), log := s.log ++ [.tup [sv "do", .tup [sv "deed", .int n]]] }) hM1 hm hT
  | key x l =>
    refine lr_key G hgo hpl fun m T hT hm => ?_
    refine dr_go (sk := p.sk) (fr := p.frs) (s' := { s with place := if s.key = x then s.place + 1 else l }) hM1 ?_ hT
    split at hm
    · rename_i q; rw [if_pos q]; exact hm
    · rename_i q; rw [if_neg q]; exact hm
  | test n l =>
    refine lr_test G hgo hpl hlog fun m T hT hm => ?_
    refine dr_go (sk := p.sk) (fr := p.frs) (s' := { s with place := if Int.fmod (n + (s.log ++ [AV.tup [sv "test", .int n]]).length) 3 ≠ 0 then s.place + 1 else l, log := s.log ++ [.tup [sv "test", .int n]] }) hM1 ?_ hT
    split at hm
    · rename_i q; rw [if_pos q]; exact hm
    · rename_i q; rw [if_neg q]; exact hm
  | jump l => exact lr_jump G hgo hpl fun m T hT hm => dr_go (sk := p.sk) (fr := p.frs) (s' := { s with place := l }) hM1 hm hT
  | choose ls =>
    cases lv with
    | e => exact hO.elim
    | s2 k => exact hO.elim
    | s1 k =>
      cases k with
      | succ k => exact hO.elim
      | zero =>
        obtain ⟨hl, hn, hr⟩ := hO
        obtain ⟨v, hS, n, rfl, hv⟩ := hS
        have e0 : intsA s.stack = [] ++ [.int (n * one30)] := by rw [hS]; rfl
        rw [e0]
        refine lr_choose (st := []) G hgo hpl hv hn le0 fun m T hT hm => ?_
        have ev : s.stack.getLast?.getD 0 / one30 = n := by rw [hS]; exact kdiv n
        have ed : s.stack.dropLast = [] := by rw [hS]; rfl
        simp only [stepOp, ev, ed]
        refine dr_go (sk := p.sk) (fr := p.frs) (s' := { s with stack := [], place := if 1 ≤ n ∧ n ≤ ls.length then ls.getD (n - 1).toNat 0 else s.place + 1 }) hM1 ?_ hT
        split at hm
        · rename_i q; rw [if_pos q]; exact hm
        · rename_i q; rw [if_neg q]; exact hm
  | perform b e =>
    cases lv with
    | s1 k => exact hO.elim
    | s2 k => exact hO.elim
    | e =>
      obtain ⟨hb, he, hr⟩ := hO
      have hfl : (frlL rs).length = s.frames.length := by rw [List.length_reverse, List.length_map, hM.len]
      refine lr_perform (b := (b : Int)) (e := e) G hgo hpl (Int.natCast_nonneg b) (by omega) hbl hrl (fun q m T hT => ?_) fun q d z m T hT hm => ?_
      · show Dr (LrE p ops begs R (kb + 1) (if s.frames.length = 21 then _ else _)) _ _ _
        rw [if_pos (by omega)]
        exact ⟨[], _, sub_nil, endT hT, rfl, rfl⟩
      · show Dr (LrE p ops begs R (kb + 1) (if s.frames.length = 21 then _ else _)) _ _ _
        rw [if_neg (by omega)]
        exact dr_go2 (show frlL (⟨0, 0, d, [], ⟨e, (s.place : Int) + 1, fun _ => 0⟩⟩ :: rs) = frlL rs ++ [.tup [.int e, .int ((s.place : Int) + 1), rf d]] by simp [frlL]) (sk := p.sk) (fr := z) (s' := { s with frames := s.frames ++ [⟨e, s.place + 1, fun _ => 0⟩], place := begs.getD b 0 }) (hM1.push (r := ⟨0, 0, d, [], ⟨e, s.place + 1, fun _ => 0⟩⟩) (fun j => rfl) (Nat.zero_le _)) hm hT
  | leave e =>
    cases hg : s.frames.getLast? with
    | none =>
      obtain ⟨f, r, e1, _⟩ := hF
      rw [e1] at hg
      simp at hg
    | some f =>
      obtain ⟨r, rs', rfl, hr1, hr2⟩ := hM.top hg
      subst hr1
      have hfr : frlL (r :: rs') = frlL rs' ++ [.tup [.int r.f.last, .int r.f.behind, rf r.sl]] := by simp [frlL]
      rw [hfr] at hrl ⊢
      refine lr_leave (r := r) G hgo hpl (by simp at hrl ⊢; omega) (fun q z m T hT hm => ?_) (fun q m T hT hm => ?_)
      · simp only [stepOp, hg]
        rw [if_pos q]
        have hb : ∃ l : Nat, r.f.behind = l := by
          obtain ⟨f0, r0, e1, e2, e3⟩ := hF
          rcases List.eq_nil_or_concat r0 with rfl | ⟨r1, g, rfl⟩
          · rw [e1] at hg
            simp only [List.getLast?_singleton, Option.some.injEq] at hg
            have : 0 ≤ e := by
              cases lv with
              | e => exact hO.1
              | s1 k => exact hO.elim
              | s2 k => exact hO.elim
            rw [← hg] at q
            omega
          · rw [List.concat_eq_append] at *
            rw [e1, ← List.cons_append, List.getLast?_append] at hg
            simp only [List.getLast?_singleton, Option.some_or, Option.some.injEq] at hg
            obtain ⟨l, h1, _⟩ := e3 g (List.mem_append_right _ (.head _))
            exact ⟨l, hg ▸ h1⟩
        obtain ⟨l, hb⟩ := hb
        refine dr_go (sk := p.sk) (fr := z) (rs := rs') (s' := { s with frames := s.frames.dropLast, place := r.f.behind.toNat }) ⟨hr2, fun x hx => hM1.ok x (.tail _ hx)⟩ ?_ (Sb.trans (.keep (.keep (.keep (.keep (.keep (.keep (.skip (.refl _)))))))) hT)
        rw [hb] at hm ⊢
        exact hm
      · simp only [stepOp, hg]
        rw [if_neg q]
        exact dr_go2 hfr (sk := p.sk) (fr := p.frs) (s' := { s with place := s.place + 1 }) hM1 hm hT
  | count j =>
    cases lv with
    | e => exact hO.elim
    | s2 k => exact hO.elim
    | s1 k =>
      cases k with
      | succ k => exact hO.elim
      | zero =>
        obtain ⟨v, hS, n, rfl, hv⟩ := hS
        have e0 : intsA s.stack = [] ++ [.int (n * one30)] := by rw [hS]; rfl
        rw [e0]
        cases hg : s.frames.getLast? with
        | none =>
          obtain ⟨f, r, e1, _⟩ := hF
          rw [e1] at hg
          simp at hg
        | some f =>
          obtain ⟨r, rs', rfl, hr1, hr2⟩ := hM.top hg
          subst hr1
          have hfr : frlL (r :: rs') = frlL rs' ++ [.tup [.int r.f.last, .int r.f.behind, rf r.sl]] := by simp [frlL]
          rw [hfr] at hrl ⊢
          have hrk := hM.ok r (.head _)
          have ev : s.stack.getLast?.getD 0 / one30 = n := by rw [hS]; exact kdiv n
          have ed : s.stack.dropLast = [] := by rw [hS]; rfl
          refine lr_count (st := []) (r := r) G hgo hpl hv (by simp at hrl ⊢; omega) le0 (by omega) fun m T hT hm => ?_
          simp only [stepOp, hg, ev, ed]
          exact dr_go2 (show frlL (⟨r.a, r.d, r.sl, putA r.kvs j (.int n), { r.f with slots := fun i => if i = j then n else r.f.slots i }⟩ :: rs') = frlL rs' ++ [.tup [.int r.f.last, .int r.f.behind, rf r.sl]] by simp [frlL]) (sk := p.sk) (fr := p.frs) (rs := ⟨r.a, r.d, r.sl, putA r.kvs j (.int n), { r.f with slots := fun i => if i = j then n else r.f.slots i }⟩ :: rs') (s' := { s with place := s.place + 1, stack := [], frames := setTop s.frames { r.f with slots := fun i => if i = j then n else r.f.slots i } }) (MtR.push ⟨hr2, fun x hx => hM1.ok x (.tail _ hx)⟩ (fun i => by
            dsimp only
            exact getA_put hrk.1 i) (by have := putA_len (kvs := r.kvs) (j := j) (a := .int n); dsimp only; omega)) hm hT
  | less j l =>
    cases hg : s.frames.getLast? with
    | none =>
      obtain ⟨f, r, e1, _⟩ := hF
      rw [e1] at hg
      simp at hg
    | some f =>
      obtain ⟨r, rs', rfl, hr1, hr2⟩ := hM.top hg
      subst hr1
      have hfr : frlL (r :: rs') = frlL rs' ++ [.tup [.int r.f.last, .int r.f.behind, rf r.sl]] := by simp [frlL]
      rw [hfr] at hrl ⊢
      have hrk := hM.ok r (.head _)
      have put : ∀ n : Int, MtR (kb + 1) (⟨r.a, r.d, r.sl, putA r.kvs j (.int n), { r.f with slots := fun i => if i = j then n else r.f.slots i }⟩ :: rs') (setTop s.frames { r.f with slots := fun i => if i = j then n else r.f.slots i }) := fun n => MtR.push ⟨hr2, fun x hx => hM1.ok x (.tail _ hx)⟩ (fun i => by
            dsimp only
            exact getA_put hrk.1 i) (by have := putA_len (kvs := r.kvs) (j := j) (a := .int n); dsimp only; omega)
      have hfl : ∀ n : Int, frlL (⟨r.a, r.d, r.sl, putA r.kvs j (.int n), { r.f with slots := fun i => if i = j then n else r.f.slots i }⟩ :: rs') = frlL rs' ++ [.tup [.int r.f.last, .int r.f.behind, rf r.sl]] := fun n => by simp [frlL]
      refine lr_less (r := r) (v := r.f.slots j) G hgo hpl (hrk.1 j) (by simp at hrl ⊢; omega) (by omega) (fun q m T hT hm => ?_) (fun q m T hT hm => ?_)
      · simp only [stepOp, hg]
        rw [if_pos q]
        exact dr_go2 (hfl _) (sk := p.sk) (fr := p.frs) (s' := { s with place := s.place + 1, frames := setTop s.frames { r.f with slots := fun i => if i = j then r.f.slots j - 1 else r.f.slots i } }) (put (r.f.slots j - 1)) hm hT
      · simp only [stepOp, hg]
        rw [if_neg q]
        have hM2 : MtR (kb + 1) (⟨r.a, r.d, r.sl, putA r.kvs j (.int (r.f.slots j)), r.f⟩ :: rs') s.frames := by
          have h2 := hM1.eq
          refine ⟨h2, fun x hx => ?_⟩
          rcases List.mem_cons.mp hx with rfl | hx
          · refine ⟨fun i => ?_, by have := putA_len (kvs := r.kvs) (j := j) (a := .int (r.f.slots j)); dsimp only; omega⟩
            have := getA_put (j := j) (n := r.f.slots j) hrk.1 i
            dsimp only
            rw [this]
            by_cases e : i = j
            · rw [if_pos e, e]
            · rw [if_neg e]
          · exact hM1.ok x (.tail _ hx)
        exact dr_go2 (show frlL (⟨r.a, r.d, r.sl, putA r.kvs j (.int (r.f.slots j)), r.f⟩ :: rs') = frlL rs' ++ [.tup [.int r.f.last, .int r.f.behind, rf r.sl]] by simp [frlL]) (sk := p.sk) (fr := p.frs) (s' := { s with place := l }) hM2 hm hT
  | stop x => exact lr_stop G hgo hpl fun m T hT => ⟨[], _, sub_nil, endT hT, rfl, rfl⟩
end
end
section
variable {w : World} {b0 : Heap} {Q : AV → Store → Prop} {X : Addr → Store → Prop} {R : Store}
set_option maxHeartbeats 1000000
noncomputable def LrJ (p : MP) (ops : List Op) (begs : List Nat) (P : Nat → Prop) (limit : Nat) (R : Store) (i : Nat) (m : Loc) (T : Store) : Prop :=
  ∃ (s : St) (sk fr : Addr) (rs : List FrR), m = lrM { p with sk := sk, frs := fr } s.place s.key ∧ T = LS { p with sk := sk, frs := fr } ops begs rs s R ∧ StOk ops begs P s ∧ MtR i rs s.frames ∧ s.log.length ≤ i ∧ runF ops begs (limit - i) s = runF ops begs limit st0
theorem law_run_c (G : Gd w b0) {lg co cx de dx cA : Addr} {ops : List Op} {begs : List Nat} {P : Nat → Prop} (C : CodeOk ops begs P) (hbl : begs.length ≤ 100) {limit : Nat} (hlim : limit ≤ 500) (p : MP) (hp : p = ⟨0, 0, co, cx, de, dx, 0, 0, lg, cA⟩)
    (h : ∀ T', Sb ((lg, .list (runF ops begs limit st0).2) :: R) T' → Q (.str (runF ops begs limit st0).1.str) T') : WC w b0 14 true (rf 473) [rf co, rf de, .int limit] ((lg, .list []) :: (co, coO p (opsAV ops) (begsA begs)) :: (de, deO p) :: (cA, .cell (some (rf lg))) :: R) Q X := by
  subst hp
  refine' wc_def3 (n₁ := Str.ofString "code") (n₂ := Str.ofString "deeds") (n₃ := Str.ofString "limit") G ?ho ?hcd ?hb ?hs ?hl ?_
  case ho => k_is
  case hcd => k_is
  case hb => exact fun _ _ _ _ _ => BindsTo.of_eq rfl
  case hs => kernel_rfl
  case hl => kernel_rfl
  intro L fl A hc hh
  repeat' cell_call
  rename_i z1 z2 z3
  refine' s_for ?hk ?hh (W.drop ?_) ?hs
  case hk => kernel_rfl
  case hh => exact hh rfl
  case hs => exact fun _ => rfl
  repeat' cell_call
  have els : (Src.rng limit).els.length = limit := by simp [Src.els]
  refine ⟨lrM ⟨0, 0, co, cx, de, dx, z1, z3, lg, cA⟩ 0 (Str.ofString ""), LS ⟨0, 0, co, cx, de, dx, z1, z3, lg, cA⟩ ops begs [⟨0, 0, z2, [], ⟨-1, -1, fun _ => 0⟩⟩] st0 R, ?_, Sb.pull (l := [_]) (Sb.pull (l := [_, _, _, _, _]) (.refl _)), .rng limit, LrJ ⟨0, 0, co, cx, de, dx, 0, 0, lg, cA⟩ ops begs P limit R,
    .rng (by omega), ⟨st0, z1, z3, [⟨0, 0, z2, [], ⟨-1, -1, fun _ => 0⟩⟩], rfl, rfl, st0_ok C, ⟨rfl, fun r hr => ?_⟩, Nat.le_refl _, rfl⟩, fun _ _ _ _ => trivial, ?_, ?_⟩
  · k_whole
  · rw [List.mem_singleton.mp hr]
    exact ⟨fun j => rfl, Nat.le_refl _⟩
  · rintro i e m T' he ⟨s, sk, fr, rs, rfl, rfl, S, M, hlg, hrun⟩
    have hi : i < limit := by
      have := (List.getElem?_eq_some_iff.mp he).1
      rwa [els] at this
    obtain rfl : e = .int i := by
      have h2 : (Src.rng limit).els[i]? = some (.int (i : Int)) := by simp [Src.els, hi]
      rw [h2] at he
      exact (Option.some.inj he).symm
    obtain ⟨lv, hO, hS⟩ := S.at_
    obtain ⟨op, ho, -, -⟩ := okat_op hO
    refine' ⟨_, _, ?hn, W.drop ?_⟩
    case hn => k_fold
    refine' ((lit_back (P := LrB w b0 ⟨0, 0, co, cx, de, dx, sk, fr, lg, cA⟩ ops begs R (i + 1) i s.place s.key (intsA s.stack) (frlL rs) s.log (LFs rs ++ R) (stepOp begs s op)) ?hcf (lr_step G C hbl S ho M (by omega) (by omega))) L (.ref 472) fl A (hc.le (by decide)) hh).mono ?_ ?_
    case hcf => kernel_rfl
    · rintro b m' T'' ⟨m2, T2, h1, h2, hE⟩
      refine ⟨m2, T2, h1, h2, ?_⟩
      rw [show limit - i = (limit - (i + 1)) + 1 by omega, runF_succ ho] at hrun
      cases hst : stepOp begs s op with
      | go s' =>
        rw [hst] at hE hrun
        cases b with
        | next =>
          obtain ⟨sk', fr', rs', M', rfl, rfl⟩ := hE
          exact ⟨s', sk', fr', rs', rfl, rfl, step_ok C S ho hst, M', by have := step_log hst; omega, hrun⟩
        | _ => exact hE.elim
      | word x log =>
        rw [hst] at hE hrun
        cases b with
        | ret v =>
          obtain ⟨rfl, rfl⟩ := hE
          rw [← hrun] at h
          exact ⟨_, .refl _, h _ (.refl _)⟩
        | _ => exact hE.elim
      | size log =>
        rw [hst] at hE hrun
        cases b with
        | ret v =>
          obtain ⟨rfl, rfl⟩ := hE
          rw [← hrun] at h
          exact ⟨_, .refl _, h _ (.refl _)⟩
        | _ => exact hE.elim
      | run log =>
        rw [hst] at hE hrun
        cases b with
        | ret v =>
          obtain ⟨rfl, rfl⟩ := hE
          rw [← hrun] at h
          exact ⟨_, .refl _, h _ (.refl _)⟩
        | _ => exact hE.elim
    · exact fun _ _ _ z => z.elim
  · rintro m T' ⟨s, sk, fr, rs, rfl, rfl, S, M, hlg, hrun⟩
    rw [els, Nat.sub_self] at hrun
    repeat' cell_call
    rw [← hrun] at h
    exact h _ (lr_end (p := ⟨0, 0, co, cx, de, dx, sk, fr, lg, cA⟩) sb_F)
end
section
/-- the cells of a tape -/
structure CellsOk (xs : List AV) : Prop where
  num : ∀ i, i < xs.length → ∃ v : Int, xs[i]? = some (.int v)
  pos : 0 < xs.length
  few : xs.length ≤ 100
noncomputable abbrev TpO (cl : Addr) (k : Int) : AO := .list [rf cl, .int k]
variable {w : World} {b0 : Heap} {Q : AV → Store → Prop} {X : Addr → Store → Prop} {T T' : Store} {tp cl : Addr} {xs : List AV} {k : Int}
set_option maxHeartbeats 1000000
theorem fdiv_le {k d : Int} (h0 : 0 ≤ k) (hd : 0 < d) : 0 ≤ Int.fdiv k d ∧ Int.fdiv k d ≤ k := by
  rw [Int.fdiv_eq_ediv_of_nonneg _ (by omega)]
  exact ⟨Int.ediv_nonneg h0 (by omega), Int.ediv_le_self _ h0⟩
theorem law_draw_c (G : Gd w b0) {many : Int} (U : TU tp (TpO cl k) (TpO cl (k + 1)) T T') (h1 : (cl, .list xs) ∈ T) (h2 : (cl, .list xs) ∈ T') (C : CellsOk xs) (h0 : 0 ≤ k) (hz : k ≤ 100000) (hm : 1 ≤ many)
    (h : ∀ v, 0 ≤ v → v < many → Q (.int v) T') : WC w b0 1 true (rf 397) [rf tp, .int many] T Q X := by
  have hU := U.mem
  have hU2 := U.mem2
  have hp := C.pos
  have hf := C.few
  refine' wc_def2 (n₁ := Str.ofString "tape") (n₂ := Str.ofString "many") G ?ho ?hcd ?hb ?hs ?hl ?_
  case ho => k_is
  case hcd => k_is
  case hb => exact fun _ _ _ _ => BindsTo.of_eq rfl
  case hs => kernel_rfl
  case hl => kernel_rfl
  intro L fl A hc hh
  repeat' cell_call
  refine si_list (T' := T') U (by decide) (by decide) (by show (1 : Int) < 2; decide) ?_
  repeat' cell_call
  have hm' := fmod_range k (k := (xs.length : Int)) (by omega)
  obtain ⟨v, hv⟩ := C.num (Int.fmod k xs.length).toNat (by omega)
  have e1 := fdiv_le (d := (xs.length : Int)) h0 (by omega)
  have e2 := fdiv_le (d := 2) h0 (by decide)
  refine i_list (a := .int v) h2 hm'.1 (by omega) hv ?_
  repeat' cell_call
  all_goals first
    | exact h _ (fmod_range _ (by omega)).1 (fmod_range _ (by omega)).2
    | exact Small.of_lt (n := 3) (by omega)
    | exact (by unfold Small; decide : Small 2)
    | exact mulOk (Small.of_lt (n := 10) (by omega)) (Small.of_lt (n := 10) (by omega))
    | omega
theorem law_push_c (G : Gd w b0) (U : TU tp (TpO cl k) (TpO cl (k + 1)) T T') (h1 : (cl, .list xs) ∈ T) (h2 : (cl, .list xs) ∈ T') (C : CellsOk xs) (h0 : 0 ≤ k) (hz : k ≤ 100000)
    (h : ∀ o, OpdOk o → Q (.tup [sv "push", o.av]) T') : WC w b0 2 true (rf 404) [rf tp] T Q X := by
  refine' wc_def1 (n₁ := Str.ofString "tape") G ?ho ?hcd ?hb ?hs ?hl ?_
  case ho => k_is
  case hcd => k_is
  case hb => exact fun _ _ _ => BindsTo.of_eq rfl
  case hs => kernel_rfl
  case hl => kernel_rfl
  intro L fl A hc hh
  repeat' cell_call
  refine k_fn (law_draw_c G U h1 h2 C h0 hz (by decide) fun v v0 v1 => ?_) hc (by decide) hh
  repeat' cell_call
  · rename_i q
    have q := of_decide_eq_true q
    exact h (.num (v - 3)) (by show (v - 3).natAbs ≤ 8; omega)
  · exact h .txt trivial
end
section
/-! reckonings, as they are drawn -/
inductive UO where
  | push (o : Opd)
  | neg
  | «calc» (sg : Sgn)
noncomputable def UO.els : UO → List AV
  | .push o => [sv "push", o.av]
  | .neg => [sv "calc", sv "neg"]
  | .calc sg => [sv "calc", .str sg.str]
noncomputable abbrev UO.av (u : UO) : AV := .tup u.els
theorem UO.two (u : UO) : u.els ≠ [] ∧ u.els.length ≤ 2 := by cases u <;> exact ⟨(fun e => (nomatch e)), Nat.le_refl _⟩
noncomputable def UO.op (way : Int) : UO → Op
  | .push o => .push o way
  | .neg => .neg way
  | .calc sg => .calc sg way
theorem UO.put (u : UO) (way : Int) : AV.tup (u.els ++ [.int way]) = (u.op way).av := by cases u <;> rfl
/-- what so many reckonings, one behind the other, are good for -/
noncomputable def RkOk (i : Nat) (us : List UO) : Prop := us.length ≤ 1 + 2 * i ∧ ∃ j, j ≤ i ∧ ∀ (nb : Nat) (P : Nat → Prop) (way : Int) (rest : List Op), WayOk P way → Okat nb P (.s1 j) rest → Okat nb P .e (us.map (UO.op way) ++ rest)
theorem rk_push {o : Opd} (h : OpdOk o) : RkOk 0 [.push o] := ⟨Nat.le_refl _, 0, Nat.le_refl _, fun nb P way rest hw hr => ⟨hw, h, hr⟩⟩
theorem rk_neg {i : Nat} {us : List UO} (h : RkOk i us) : RkOk (i + 1) (us ++ [.neg]) := by
  obtain ⟨h1, j, h2, h3⟩ := h
  refine ⟨by simp; omega, j, by omega, fun nb P way rest hw hr => ?_⟩
  rw [List.map_append, List.append_assoc]
  exact h3 nb P way _ hw ⟨hw, hr⟩
theorem rk_calc {i : Nat} {us : List UO} {o : Opd} {sg : Sgn} (hi : i ≤ 1) (ho : OpdOk o) (h : RkOk i us) : RkOk (i + 1) ((us ++ [.push o]) ++ [.calc sg]) := by
  obtain ⟨h1, j, h2, h3⟩ := h
  refine ⟨by simp; omega, j + 1, by omega, fun nb P way rest hw hr => ?_⟩
  rw [List.append_assoc, List.map_append, List.append_assoc]
  exact h3 nb P way _ hw ⟨hw, ho, by omega, hw, by omega, hr⟩
/-! placing -/
noncomputable def placeW (f : Nat → Nat) (way : Int) : Int := if way < 0 then way else (f way.toNat : Int)
noncomputable def Op.place (f : Nat → Nat) : Op → Op
  | .push o way => .push o (placeW f way)
  | .neg way => .neg (placeW f way)
  | .calc sg way => .calc sg (placeW f way)
  | .put l => .put (f l)
  | .key x l => .key x (f l)
  | .test n l => .test n (f l)
  | .jump l => .jump (f l)
  | .choose ls => .choose (ls.map f)
  | .less n l => .less n (f l)
  | o => o
noncomputable def WayIn (many : Nat) (way : Int) : Prop := way = -1 ∨ (0 ≤ way ∧ way < many)
/-- the labels of an op lie among so many -/
noncomputable def LblOk (many : Nat) : Op → Prop
  | .push _ way => WayIn many way
  | .neg way => WayIn many way
  | .calc _ way => WayIn many way
  | .put l => l < many
  | .key _ l => l < many
  | .test _ l => l < many
  | .jump l => l < many
  | .less _ l => l < many
  | .choose ls => (∀ x ∈ ls, x < many) ∧ ls.length ≤ 10
  | _ => True
theorem lbl1 {many : Nat} {op : Op} (h : LblOk many op) : ∀ x ∈ [op], LblOk many x := fun x hx => by rw [List.mem_singleton.mp hx]; exact h
theorem lbl2 {many : Nat} {op op' : Op} (h : LblOk many op) (h' : LblOk many op') : ∀ x ∈ [op, op'], LblOk many x := fun x hx => by
  rcases List.mem_cons.mp hx with rfl | hx
  · exact h
  · rw [List.mem_singleton.mp hx]; exact h'
/-- a piece: run from its start with an empty stack, it comes to what follows with an empty stack -/
noncomputable def PieceOk (nb many : Nat) (ops : List Op) : Prop := (∀ (P : Nat → Prop) (f : Nat → Nat) (rest : List Op), (∀ l, l < many → P (f l)) → Okat nb P .e rest → Okat nb P .e (ops.map (Op.place f) ++ rest)) ∧ ops.length ≤ 10 ∧ ∀ op ∈ ops, LblOk many op
theorem WayIn.ok {many : Nat} {way : Int} {P : Nat → Prop} {f : Nat → Nat} (h : WayIn many way) (hP : ∀ l, l < many → P (f l)) : WayOk P (placeW f way) := by
  unfold placeW
  rcases h with rfl | ⟨h1, h2⟩
  · rw [if_pos (by decide)]; exact .inl rfl
  · rw [if_neg (by omega)]
    exact .inr ⟨_, rfl, hP _ (by omega)⟩
theorem map_place {us : List UO} {way : Int} {f : Nat → Nat} : (us.map (UO.op way)).map (Op.place f) = us.map (UO.op (placeW f way)) := by
  rw [List.map_map]
  congr 1
  funext u
  cases u <;> rfl
theorem piece_reck {nb many : Nat} {us : List UO} {i : Nat} (hi : i ≤ 2) (h : RkOk i us) {way : Int} (hw : WayIn many way) {l : Nat} (hl : l < many) : PieceOk nb many (us.map (UO.op way) ++ [.put l]) := by
  obtain ⟨h1, j, h2, h3⟩ := h
  refine ⟨fun P f rest hP hr => ?_, by simp; omega, fun op hop => ?_⟩
  · rw [List.map_append, map_place, List.append_assoc]
    exact h3 nb P _ _ (hw.ok hP) ⟨hP l hl, hr⟩
  · rcases List.mem_append.mp hop with q | q
    · obtain ⟨u, hu, rfl⟩ := List.mem_map.mp q
      cases u <;> exact hw
    · rw [List.mem_singleton.mp q]; exact hl
section
variable {w : World} {b0 : Heap} {c : Cx} {m : Loc} {T : Store} {Q : AV → Loc → Store → Prop} {X : Addr → Loc → Store → Prop}
theorem e_compL {cn : Str} {cs : Scope} {L a : Addr} {cd : Value} {cl0 : List (Str × Addr)} {outer : List Env} {A : Around} {elt iter : Expr} {x : Str} {px pos : Pos} {scope : Scope} (cl : List (Str × Addr)) (hh : A.handled = none) (hcl : closureFor scope (Cx.mk cn cs L a cd cl0 outer A none).env = pure cl)
    (hsc : (scope.names.all (fun y => !(y.2 == .cell)) && scope.kind == .function && scope.names.all (fun y => !(y.2 == .local) || scope.names.lookup y.1 == some .local)) = true) (hx : scope.names.lookup x = some .local)
    (h : WE w b0 (Cx.mk cn cs L a cd cl0 outer A none) iter m T (fun v m₁ T₁ => ∃ (src : Src) (J : Nat → List AV → Store → Prop), SR T₁ v src ∧ J 0 [] T₁ ∧ (∀ i ys T, J i ys T → src.In T) ∧ src.els.length ≤ 1000000 ∧
      (∀ i e ys T D C, src.els[i]? = some e → J i ys T → ys.length = i → WE w b0 (Cx.mk cn cs L a cd cl0 outer A (some (relabel scope (Cx.mk cn cs L a cd cl0 outer A none).env, C, cl))) elt [(x, e)] ((D, .list ys) :: T) (fun a _ T' => ∃ T₂, Sb ((D, .list ys) :: T₂) T' ∧ J (i + 1) (ys ++ [a]) T₂) XF) ∧
      (∀ ys T D, J src.els.length ys T → ys.length = src.els.length → Q (rf D) m₁ ((D, .list ys) :: T))) X)
    (hs : ∀ x, foldedSetIterable iter (Cx.mk cn cs L a cd cl0 outer A none).env x = pure x) : WE w b0 (Cx.mk cn cs L a cd cl0 outer A none) (.ListComp elt [⟨.Name x px, iter, [], 0⟩] scope pos) m T Q X :=
  e_comp (c := Cx.mk cn cs L a cd cl0 outer A none) rfl hh hcl hsc hx h hs
noncomputable abbrev signsA : List AV := [sv "+", sv "-", sv "*", sv "/", sv "**", sv "neg"]
theorem signs_of {w : World} {its : Array Value} {n : Nat} (h1 : (hd.heap_39 w.params).lookup 390 = some { cls := .type "tuple", data := .seq its n }) (h2 : ∀ h, RVs h its.toList signsA) :
    ∃ (vs : List Value) (n : Nat), (hd.heap_39 w.params).lookup 390 = some (tupOf vs.toArray n) ∧ ∀ h, RVs h vs signsA := ⟨its.toList, n, h1, h2⟩
theorem signsIn (w : World) : ∃ (vs : List Value) (n : Nat), (hd.heap_39 w.params).lookup 390 = some (tupOf vs.toArray n) ∧ ∀ h, RVs h vs signsA := by
  refine' signs_of ?h1 ?h2
  case h1 => k_is
  case h2 => exact fun h => .cons (.str _ _) (.cons (.str _ _) (.cons (.str _ _) (.cons (.str _ _) (.cons (.str _ _) (.cons (.str _ _) .nil)))))
theorem i_signs (G : Gd w b0) {k : Int} {a : AV} (h0 : 0 ≤ k) (h1 : k < 6) (hn : signsA[k.toNat]? = some a) (h : Q a m T) : ItemQ w b0 c (.raw (.ref 390)) (.int k) m T Q X := fun va vk => by
  obtain ⟨vs, n, e, hr⟩ := signsIn w
  have key : ∀ s : Shared, OkF w b0 c m T s.heap → RV s.heap (.ref 390) (.tup signsA) := fun s O => .tup ((G.K.keeps O.1.stay) _ _ e) (hr _)
  have main := i_tupk (w := w) (b0 := b0) (c := c) (m := m) (T := T) (X := X) (xs := signsA) h0 (by omega) hn h (.ref 390) vk
  refine ⟨⟨fun s O ⟨ra, rk⟩ => ?_⟩, fun s O ra => ?_⟩
  · cases ra
    exact main.1.run s O ⟨key s O, rk⟩
  · cases ra
    exact main.2 s O (key s O)
end
variable {w : World} {b0 : Heap} {Q : AV → Store → Prop} {X : Addr → Store → Prop} {R : Store} {tp cl : Addr} {xs : List AV} {k : Int}
set_option maxHeartbeats 1000000
/-- the tape's part of the store -/
noncomputable abbrev TP (tp cl : Addr) (xs : List AV) (k : Int) (R : Store) : Store := (tp, TpO cl k) :: (cl, .list xs) :: R
local macro_rules | `(tactic| kat_tups) => wFirst "$law_push_c G u1 t1 t2 L o1 o2 F2|$law_draw_c G u1 t1 t2 L o1 o2 o3 F3"
theorem signs_cases {v : Int} (h0 : 0 ≤ v) (h1 : v < 6) : signsA[v.toNat]? = some (sv "neg") ∨ ∃ sg : Sgn, signsA[v.toNat]? = some (.str sg.str) := by
  have : v = 0 ∨ v = 1 ∨ v = 2 ∨ v = 3 ∨ v = 4 ∨ v = 5 := by omega
  rcases this with rfl | rfl | rfl | rfl | rfl | rfl
  · exact .inr ⟨.add, rfl⟩
  · exact .inr ⟨.sub, rfl⟩
  · exact .inr ⟨.mul, rfl⟩
  · exact .inr ⟨.div, rfl⟩
  · exact .inr ⟨.pow, rfl⟩
  · exact .inl rfl
theorem law_reckoning_c (G : Gd w b0) (C : CellsOk xs) {label many : Nat} (hlb : label < many) (h0 : 0 ≤ k) (hz : k ≤ 90000)
    (h : ∀ (us : List UO) (i : Nat) (way : Int) (k' : Int) (z : Addr), i ≤ 2 → RkOk i us → WayIn many way → k ≤ k' → k' ≤ k + 20 → Q (rf z) ((z, .list ((us.map (UO.op way) ++ [Op.put label]).map Op.av)) :: TP tp cl xs k' R)) : WC w b0 4 true (rf 409) [rf tp, .int label] (TP tp cl xs k R) Q X := by
  refine WC.drop ?_
  refine' wc_cell (ps := [(Str.ofString "tape", rf tp), (Str.ofString "label", .int label)]) (m₀ := [(Str.ofString "tape", rf tp), (Str.ofString "label", .int label)]) (cvs := [(Str.ofString "way", none)]) G ?ho ?hcd ?hb ?hchk ?hm ?hcv ?_
  case ho => k_is
  case hcd => k_is
  case hb =>
    intro s vs KI rs
    obtain ⟨v, u, rfl, r, q⟩ := rs.two
    exact ⟨[(Str.ofString "tape", v), (Str.ofString "label", u)], BindsTo.of_eq rfl, ⟨rfl, r, rfl, q, trivial⟩⟩
  case hchk => kernel_rfl
  case hm => kernel_rfl
  case hcv => rfl
  intro L fl A cs hcs hc hh
  obtain ⟨c1, rfl⟩ : ∃ c1, cs = [c1] := List.length_eq_one_iff.mp hcs
  simp only [cellStore, List.map_cons, List.map_nil, List.zip_cons_cons, List.zip_nil_right, List.cons_append, List.nil_append] at hc ⊢
  repeat' cell_call
  rename_i o ho z
  refine' s_for ?hk ?hh ?_ ?hs
  case hk => kernel_rfl
  case hh => exact hh rfl
  case hs => exact fun _ => rfl
  repeat' cell_call
  rename_i n n0 n1
  obtain ⟨n, rfl⟩ := Int.eq_ofNat_of_zero_le n0
  cell_call
  have els : (Src.rng n).els.length = n := by simp [Src.els]
  refine ⟨.rng n, fun i m T' => ∃ (us : List UO) (k' : Int), m = [(Str.ofString "tape", rf tp), (Str.ofString "label", .int label), (Str.ofString "ops", rf z)] ∧ T' = (z, .list (us.map UO.av)) :: (c1, .cell none) :: TP tp cl xs k' R ∧ RkOk i us ∧ k ≤ k' ∧ k' ≤ k + 2 + 2 * i, .rng (by omega), ⟨[.push o], k + 1 + 1, rfl, rfl, rk_push ho, by omega, by omega⟩, fun _ _ _ _ => trivial, ?_, ?_⟩
  · rintro i e m T' he ⟨us, k', rfl, rfl, hu, hk1, hk2⟩
    have hi : i < n := by
      have := (List.getElem?_eq_some_iff.mp he).1
      rwa [els] at this
    have hn : n ≤ 2 := by omega
    have hl1 := hu.1
    have hl2 : (us.map UO.av).length ≤ 10 := by rw [List.length_map]; omega
    refine' ⟨_, _, ?hn, W.drop ?_⟩
    case hn => k_fold
    repeat' cell_call
    rename_i v v0 v1
    rcases signs_cases v0 v1 with q | ⟨sg, q⟩
    · refine i_signs G v0 v1 q ?_
      repeat' cell_call
      refine ⟨_, _, ?_, .refl _, us ++ [.neg], k' + 1, rfl, ?_, rk_neg hu, by omega, by omega⟩
      · k_whole
      · rw [List.map_append]; rfl
    · refine i_signs G v0 v1 q ?_
      repeat' cell_call
      · rename_i o' ho'
        refine ⟨_, _, ?_, .refl _, (us ++ [.push o']) ++ [.calc sg], k' + 1 + 1, rfl, ?_, rk_calc (by omega) ho' hu, by omega, by omega⟩
        · k_whole
        · rw [List.map_append, List.map_append]; rfl
      · rename_i q'
        cases sg <;> exact absurd q' (by decide)
  · rintro m T' ⟨us, k', rfl, rfl, hu, hk1, hk2⟩
    rw [els] at hu hk2
    have hl1 := hu.1
    refine b_cons ?_
    refine' s_assign (W.mono (Q := fun a m₁ T₁ => ∃ way : Int, a = .int way ∧ WayIn many way ∧ m₁ = [(Str.ofString "tape", rf tp), (Str.ofString "label", .int label), (Str.ofString "ops", rf z)] ∧ T₁ = (z, .list (us.map UO.av)) :: (c1, .cell none) :: TP tp cl xs (k' + 1) R) ?_ ?_ (fun _ _ _ h => h)) ?hk ?hs
    case hk => kernel_rfl
    case hs => kernel_rfl
    · repeat' cell_call
      · exact ⟨-1, rfl, .inl rfl, rfl, rfl⟩
      · exact ⟨label, rfl, .inr ⟨Int.natCast_nonneg _, by omega⟩, rfl, rfl⟩
    · rintro a m T' ⟨way, rfl, hw, rfl, rfl⟩
      repeat' cell_call
      refine' e_compL [(Str.ofString "way", c1)] ?hh ?hcl ?hsc ?hx ?_ ?hs
      case hh => exact hh rfl
      case hcl => rfl
      case hsc => kernel_rfl
      case hx => kernel_rfl
      case hs => exact fun _ => rfl
      repeat' cell_call
      refine ⟨.list z (us.map UO.av), fun i ys T' => ys = (us.take i).map (fun u => (u.op way).av) ∧ T' = (z, .list (us.map UO.av)) :: (c1, .cell (some (.int way))) :: TP tp cl xs (k' + 1) R, .list (.head _), ⟨rfl, rfl⟩, ?_, ?_, ?_, ?_⟩
      · rintro i ys T' ⟨_, rfl⟩
        exact List.Mem.head _
      · show (us.map UO.av).length ≤ 1000000
        rw [List.length_map]; omega
      · rintro i e ys T' D C he ⟨rfl, rfl⟩ hlen
        have he : (us.map UO.av)[i]? = some e := he
        rw [List.getElem?_map] at he
        obtain ⟨u, hu1, hu2⟩ := Option.map_eq_some_iff.mp he
        subst hu2
        repeat' cell_call
        refine b_addt u.two.1 (fun e => (nomatch e)) (by have := u.two.2; simp; omega) ?_
        refine ⟨_, .refl _, ?_, rfl⟩
        rw [u.put, List.take_add_one, hu1]
        simp
      · rintro ys T' D ⟨rfl, rfl⟩ hlen
        repeat' cell_call
        have e : us.take (Src.list z (us.map UO.av)).els.length = us := by
          show us.take (us.map UO.av).length = us
          rw [List.length_map, List.take_length]
        rw [e]
        refine b_addl (.tail _ (.head _)) (.head _) (by simp; omega) (fun z' => ?_)
        repeat' cell_call
        have h := h us n way (k' + 1) z' (by omega) hu hw (by omega) (by omega)
        rw [List.map_append, List.map_map] at h
        exact ⟨_, .keep (.skip (.skip (.skip (.skip (.refl _))))), h⟩
end
section
section
variable {nb many : Nat} {l : Nat}
theorem p_deed {n : Int} : PieceOk nb many [.deed n] := ⟨fun P f rest hP hr => hr, Nat.le_of_ble_eq_true rfl, lbl1 trivial⟩
theorem p_key {x : Str} (hl : l < many) : PieceOk nb many [.key x l] := ⟨fun P f rest hP hr => ⟨hP l hl, hr⟩, Nat.le_of_ble_eq_true rfl, lbl1 hl⟩
theorem p_test {n : Int} (hl : l < many) : PieceOk nb many [.test n l] := ⟨fun P f rest hP hr => ⟨hP l hl, hr⟩, Nat.le_of_ble_eq_true rfl, lbl1 hl⟩
theorem p_jump (hl : l < many) : PieceOk nb many [.jump l] := ⟨fun P f rest hP hr => hP l hl, Nat.le_of_ble_eq_true rfl, lbl1 hl⟩
theorem p_less {n : Int} (hl : l < many) : PieceOk nb many [.less n l] := ⟨fun P f rest hP hr => ⟨hP l hl, hr⟩, Nat.le_of_ble_eq_true rfl, lbl1 hl⟩
theorem p_perform {b : Nat} {e : Nat} (hb : b < nb) : PieceOk nb many [.perform b e] := ⟨fun P f rest hP hr => ⟨hb, Int.natCast_nonneg _, hr⟩, Nat.le_of_ble_eq_true rfl, lbl1 trivial⟩
theorem p_leave {e : Nat} : PieceOk nb many [.leave e] := ⟨fun P f rest hP hr => ⟨Int.natCast_nonneg _, hr⟩, Nat.le_of_ble_eq_true rfl, lbl1 trivial⟩
theorem p_stop {x : Str} (h : x ≠ Str.ofString "" ∧ (x == Str.ofString "") = false) : PieceOk nb many [.stop x] := ⟨fun P f rest hP hr => h, Nat.le_of_ble_eq_true rfl, lbl1 trivial⟩
theorem p_choose {o : Opd} {ls : List Nat} (ho : OpdOk o) (hl : l < many) (hs : ∀ x ∈ ls, x < many) (hz : ls.length ≤ 10) : PieceOk nb many [.push o l, .choose ls] := ⟨fun P f rest hP hr => by
  refine ⟨WayIn.ok (many := many) (.inr ⟨Int.natCast_nonneg _, by omega⟩) hP, ho, fun x hx => ?_, by rw [List.length_map]; omega, hr⟩
  obtain ⟨y, hy, rfl⟩ := List.mem_map.mp hx
  exact hP y (hs y hy), Nat.le_of_ble_eq_true rfl, lbl2 (.inr ⟨Int.natCast_nonneg _, by omega⟩) ⟨hs, hz⟩⟩
theorem p_count {o : Opd} {n : Int} (ho : OpdOk o) (hl : l < many) : PieceOk nb many [.push o l, .count n] := ⟨fun P f rest hP hr =>
  ⟨WayIn.ok (many := many) (.inr ⟨Int.natCast_nonneg _, by omega⟩) hP, ho, hr⟩, Nat.le_of_ble_eq_true rfl, lbl2 (.inr ⟨Int.natCast_nonneg _, by omega⟩) trivial⟩
theorem keys_get {v : Nat} (h : (v : Int) < 3) : ∃ x : Str, [AV.str (Str.ofString ""), AV.str (Str.ofString "end"), AV.str (Str.ofString "size")][((v : Nat) : Int).toNat]? = some (.str x) := by
  have : v = 0 ∨ v = 1 ∨ v = 2 := by omega
  rcases this with rfl | rfl | rfl <;> exact ⟨_, rfl⟩
theorem stops_get {v : Nat} (h : (v : Int) < 2) : ∃ x : Str, [AV.str (Str.ofString "stop"), AV.str (Str.ofString "exit")][((v : Nat) : Int).toNat]? = some (.str x) ∧ (x ≠ Str.ofString "" ∧ (x == Str.ofString "") = false) := by
  have : v = 0 ∨ v = 1 := by omega
  rcases this with rfl | rfl
  · exact ⟨_, rfl, by decide, by decide⟩
  · exact ⟨_, rfl, by decide, by decide⟩
end
variable {w : World} {b0 : Heap} {Q : AV → Store → Prop} {X : Addr → Store → Prop} {R T T' : Store} {tp cl : Addr} {xs : List AV} {k : Int}
set_option maxHeartbeats 2000000
theorem Cx.Ok.inn {cn : Str} {cs : Scope} {L a : Addr} {cd : Value} {cl0 : List (Str × Addr)} {outer : List Env} {A : Around} {n : Nat} {x : Scope × Addr × List (Str × Addr)} (h : (Cx.mk cn cs L a cd cl0 outer A none).Ok n) (hk : (Cx.mk cn cs L a cd cl0 outer A (some x)).env.scope.kind = .function) : (Cx.mk cn cs L a cd cl0 outer A (some x)).Ok n :=
  ⟨h.frames, hk, h.depth, h.units⟩
theorem two_of {α : Type} {l : List α} (h : l.length = 2) : ∃ a b, l = [a, b] := by
  match l, h with
  | [a, b], _ => exact ⟨a, b, rfl⟩
theorem law_drawN (G : Gd w b0) {many : Int} (U : TU tp (TpO cl k) (TpO cl (k + 1)) T T') (h1 : (cl, .list xs) ∈ T) (h2 : (cl, .list xs) ∈ T') (C : CellsOk xs) (h0 : 0 ≤ k) (hz : k ≤ 100000) (hm : 1 ≤ many)
    (h : ∀ v : Nat, (v : Int) < many → Q (.int v) T') : WC w b0 1 true (rf 397) [rf tp, .int many] T Q X :=
  law_draw_c G U h1 h2 C h0 hz hm fun v v0 v1 => by
    obtain ⟨n, rfl⟩ := Int.eq_ofNat_of_zero_le v0
    exact h n v1
local macro_rules | `(tactic| kat_tups) => wFirst "$law_push_c G u1 t1 t2 L o1 o2 F2|$law_drawN G u1 t1 t2 L o1 o2 o3 F2"
theorem law_piece_c (G : Gd w b0) (C : CellsOk xs) {many nb : Nat} (hmany : 1 ≤ many) (hnb : 1 ≤ nb) (h0 : 0 ≤ k) (hz : k ≤ 80000)
    (h : ∀ (ops : List Op) (k' : Int) (z : Addr), PieceOk nb many ops → k ≤ k' → k' ≤ k + 30 → Q (rf z) ((z, .list (ops.map Op.av)) :: TP tp cl xs k' R)) : WC w b0 6 true (rf 414) [rf tp, .int many, .int nb] (TP tp cl xs k R) Q X := by
  refine WC.drop ?_
  refine' wc_cell (ps := [(Str.ofString "tape", rf tp), (Str.ofString "many", .int many), (Str.ofString "begins", .int nb)]) (m₀ := [(Str.ofString "begins", .int nb)]) (cvs := [(Str.ofString "many", some (.int many)), (Str.ofString "tape", some (rf tp))]) G ?ho ?hcd ?hb ?hchk ?hm ?hcv ?_
  case ho => k_is
  case hcd => k_is
  case hb =>
    intro s vs KI rs
    obtain ⟨v, u, t, rfl, r, q, p⟩ := rs.three
    exact ⟨[(Str.ofString "tape", v), (Str.ofString "many", u), (Str.ofString "begins", t)], BindsTo.of_eq rfl, ⟨rfl, r, rfl, q, rfl, p, trivial⟩⟩
  case hchk => kernel_rfl
  case hm => rfl
  case hcv => rfl
  intro L fl A cs hcs hc hh
  obtain ⟨c1, c2, rfl⟩ := two_of hcs
  simp only [cellStore, List.map_cons, List.map_nil, List.zip_cons_cons, List.zip_nil_right, List.cons_append, List.nil_append] at hc ⊢
  repeat' cell_call
  · exact ⟨_, .keep (.skip (.skip (.refl _))), h [.deed _] _ _ p_deed (by omega) (by omega)⟩
  · refine k_fn (.less (law_reckoning_c (many := many) (R := (c1, .cell (some (.int many))) :: (c2, .cell (some (rf tp))) :: R) G C (by omega) (by omega) (by omega) (fun us i way k' z hi hu hw hk1 hk2 => ?_)) (Sb.pull (l := [_, _]) (Sb.pull (l := [_, _]) (.refl _)))) hc (by decide) hh
    repeat' cell_call
    exact ⟨_, .keep (.keep (.keep (.skip (.skip (.refl _))))), h _ _ _ (piece_reck hi hu hw (by omega)) (by omega) (by omega)⟩
  · rename_i v v1
    obtain ⟨x, hx⟩ := keys_get v1
    refine i_tupk (a := .str x) (by omega) (by omega) hx ?_
    repeat' cell_call
    exact ⟨_, .keep (.skip (.skip (.refl _))), h [.key x _] _ _ (p_key (by omega)) (by omega) (by omega)⟩
  · exact ⟨_, .keep (.skip (.skip (.refl _))), h [.test _ _] _ _ (p_test (by omega)) (by omega) (by omega)⟩
  · exact ⟨_, .keep (.skip (.skip (.refl _))), h [.jump _] _ _ (p_jump (by omega)) (by omega) (by omega)⟩
  · rename_i o ho
    refine b_addt (fun e => (nomatch e)) (fun e => (nomatch e)) (by simp) ?_
    repeat' cell_call
    refine' e_compL _ ?hh ?hcl ?hsc ?hx ?_ ?hs
    case hh => exact hh rfl
    case hcl => rfl
    case hsc => kernel_rfl
    case hx => kernel_rfl
    case hs => exact fun _ => rfl
    repeat' cell_call
    rename_i n n1
    have els : (Src.rng n).els.length = n := by simp [Src.els]
    refine ⟨.rng n, fun i ys T' => ∃ (ls : List Nat) (k' : Int), ys = ls.map (fun (l : Nat) => .int (l : Int)) ∧ ls.length = i ∧ (∀ x ∈ ls, x < many) ∧ k' = k + 4 + i ∧ T' = (c1, .cell (some (.int many))) :: (c2, .cell (some (rf tp))) :: TP tp cl xs k' R, .rng (by omega), ⟨[], _, rfl, rfl, fun _ h => (nomatch h), ?_, rfl⟩, fun _ _ _ _ => trivial, by rw [els]; omega, ?_, ?_⟩
    · omega
    · rintro i e ys T' D C' he ⟨ls, k', rfl, hlen', hm, hk', rfl⟩ hlen
      have hi : i < n := by
        have := (List.getElem?_eq_some_iff.mp he).1
        rwa [els] at this
      repeat' cell_call
      refine' k_fn (law_drawN G (tp := tp) (cl := cl) (k := k') (xs := xs) ?hu ?h1 ?h2 C (by omega) (by omega) (by omega) (fun v v1 => ?_)) (hc.inn ?hki) (by decide) hh
      case hu => k_made
      case h1 => mem_news
      case h2 => mem_news
      case hki => kernel_rfl
      refine ⟨_, .refl _, ls ++ [v], k' + 1, by simp, by simp [hlen'], fun x hx => ?_, by omega, rfl⟩
      rcases List.mem_append.mp hx with hx | hx
      · exact hm x hx
      · rw [List.mem_singleton.mp hx]; omega
    · rintro ys T' D ⟨ls, k', rfl, hlen', hm, hk', rfl⟩ hlen
      rw [els] at hlen'
      repeat' cell_call
      refine k_tuple (.head _) (by simp; omega) ?_
      repeat' cell_call
      exact ⟨_, .keep (.skip (.skip (.skip (.refl _)))), h [.push o _, .choose ls] _ _ (p_choose ho (by omega) hm (by omega)) (by omega) (by omega)⟩
  · exact ⟨_, .keep (.skip (.skip (.refl _))), h [.perform _ _] _ _ (p_perform (by omega)) (by omega) (by omega)⟩
  · exact ⟨_, .keep (.skip (.skip (.refl _))), h [.leave _] _ _ p_leave (by omega) (by omega)⟩
  · rename_i o ho
    refine b_addt (fun e => (nomatch e)) (fun e => (nomatch e)) (by simp) ?_
    repeat' cell_call
    exact ⟨_, .keep (.skip (.skip (.refl _))), h [.push o _, .count _] _ _ (p_count ho (by omega)) (by omega) (by omega)⟩
  · exact ⟨_, .keep (.skip (.skip (.refl _))), h [.less _ _] _ _ (p_less (by omega)) (by omega) (by omega)⟩
  · rename_i v v1
    obtain ⟨x, hx, hx2⟩ := stops_get v1
    refine i_tupk (a := .str x) (by omega) (by omega) hx ?_
    repeat' cell_call
    exact ⟨_, .keep (.skip (.skip (.refl _))), h [.stop x] _ _ (p_stop hx2) (by omega) (by omega)⟩
end
section
variable {w : World} {b0 : Heap} {Q : AV → Store → Prop} {X : Addr → Store → Prop} {T : Store} {sx : Addr} {st : List Nat}
set_option maxHeartbeats 2000000
noncomputable abbrev startF (st : List Nat) : Nat → Nat := fun l => st.getD l 0
theorem starts_get {st : List Nat} {l : Nat} (h : l < st.length) : (begsA st)[((l : Nat) : Int).toNat]? = some (.int ((startF st l : Nat) : Int)) := by
  simp [startF, List.getElem?_eq_getElem h]
theorem law_placed_c (G : Gd w b0) {op : Op} (hx : (sx, .list (begsA st)) ∈ T) (hz : st.length ≤ 100) (ho : LblOk st.length op) (h : Q (op.place (startF st)).av T) : WC w b0 2 true (rf 419) [op.av, rf sx] T Q X := by
  refine WC.drop ?_
  have hl : (begsA st).length = st.length := by simp
  refine' wc_cell (ps := [(Str.ofString "op", op.av), (Str.ofString "starts", rf sx)]) (m₀ := [(Str.ofString "op", op.av)]) (cvs := [(Str.ofString "starts", some (rf sx))]) G ?ho ?hcd ?hb ?hchk ?hm ?hcv ?_
  case ho => k_is
  case hcd => k_is
  case hb =>
    intro s vs KI rs
    obtain ⟨v, u, rfl, r, q⟩ := rs.two
    exact ⟨[(Str.ofString "op", v), (Str.ofString "starts", u)], BindsTo.of_eq rfl, ⟨rfl, r, rfl, q, trivial⟩⟩
  case hchk => kernel_rfl
  case hm => rfl
  case hcv => rfl
  intro L fl A cs hcs hc hh
  obtain ⟨c1, rfl⟩ : ∃ c1, cs = [c1] := List.length_eq_one_iff.mp hcs
  simp only [cellStore, List.map_cons, List.map_nil, List.zip_cons_cons, List.zip_nil_right, List.cons_append, List.nil_append] at hc ⊢
  cases op with
  | put l =>
    simp only [Op.av]
    repeat' cell_call
    refine i_list (k := (l : Int)) (.tail _ hx) (by omega) (by simp only [LblOk] at ho; omega) (starts_get ho) ?_
    repeat' cell_call
    exact ⟨_, .skip (.refl _), h⟩
  | jump l =>
    simp only [Op.av]
    repeat' cell_call
    refine i_list (k := (l : Int)) (.tail _ hx) (by omega) (by simp only [LblOk] at ho; omega) (starts_get ho) ?_
    repeat' cell_call
    exact ⟨_, .skip (.refl _), h⟩
  | push o way =>
    simp only [Op.av]
    repeat' cell_call
    · rename_i q
      obtain ⟨l, rfl⟩ := Int.eq_ofNat_of_zero_le (of_decide_eq_true q)
      have hl2 : l < st.length := by
        rcases ho with e | ⟨_, e⟩ <;> omega
      refine i_list (k := (l : Int)) (.tail _ hx) (by omega) (by omega) (starts_get hl2) ?_
      repeat' cell_call
      have h : Q (Op.av (.push o (placeW (startF st) l))) T := h
      rw [placeW, if_neg (by omega), Int.toNat_natCast] at h
      exact ⟨_, .skip (.refl _), h⟩
    · rename_i q
      have h : Q (Op.av (.push o (placeW (startF st) way))) T := h
      rw [placeW, if_pos (by have := of_decide_eq_false q; omega)] at h
      exact ⟨_, .skip (.refl _), h⟩
  | neg way =>
    simp only [Op.av]
    repeat' cell_call
    · rename_i q
      obtain ⟨l, rfl⟩ := Int.eq_ofNat_of_zero_le (of_decide_eq_true q)
      have hl2 : l < st.length := by
        rcases ho with e | ⟨_, e⟩ <;> omega
      refine i_list (k := (l : Int)) (.tail _ hx) (by omega) (by omega) (starts_get hl2) ?_
      repeat' cell_call
      have h : Q (Op.av (.neg (placeW (startF st) l))) T := h
      rw [placeW, if_neg (by omega), Int.toNat_natCast] at h
      exact ⟨_, .skip (.refl _), h⟩
    · rename_i q
      have h : Q (Op.av (.neg (placeW (startF st) way))) T := h
      rw [placeW, if_pos (by have := of_decide_eq_false q; omega)] at h
      exact ⟨_, .skip (.refl _), h⟩
  | «calc» sg way =>
    simp only [Op.av]
    repeat' cell_call
    · rename_i q
      obtain ⟨l, rfl⟩ := Int.eq_ofNat_of_zero_le (of_decide_eq_true q)
      have hl2 : l < st.length := by
        rcases ho with e | ⟨_, e⟩ <;> omega
      refine i_list (k := (l : Int)) (.tail _ hx) (by omega) (by omega) (starts_get hl2) ?_
      repeat' cell_call
      have h : Q (Op.av (.calc sg (placeW (startF st) l))) T := h
      rw [placeW, if_neg (by omega), Int.toNat_natCast] at h
      exact ⟨_, .skip (.refl _), h⟩
    · rename_i q
      have h : Q (Op.av (.calc sg (placeW (startF st) way))) T := h
      rw [placeW, if_pos (by have := of_decide_eq_false q; omega)] at h
      exact ⟨_, .skip (.refl _), h⟩
  | key x l =>
    simp only [Op.av]
    repeat' cell_call
    refine i_list (k := (l : Int)) (.tail _ hx) (by omega) (by simp only [LblOk] at ho; omega) (starts_get ho) ?_
    repeat' cell_call
    exact ⟨_, .skip (.refl _), h⟩
  | test n l =>
    simp only [Op.av]
    repeat' cell_call
    refine i_list (k := (l : Int)) (.tail _ hx) (by omega) (by simp only [LblOk] at ho; omega) (starts_get ho) ?_
    repeat' cell_call
    exact ⟨_, .skip (.refl _), h⟩
  | less n l =>
    simp only [Op.av]
    repeat' cell_call
    refine i_list (k := (l : Int)) (.tail _ hx) (by omega) (by simp only [LblOk] at ho; omega) (starts_get ho) ?_
    repeat' cell_call
    exact ⟨_, .skip (.refl _), h⟩
  | deed n =>
    simp only [Op.av]
    repeat' cell_call
    exact ⟨_, .skip (.refl _), h⟩
  | perform b e =>
    simp only [Op.av]
    repeat' cell_call
    exact ⟨_, .skip (.refl _), h⟩
  | leave e =>
    simp only [Op.av]
    repeat' cell_call
    exact ⟨_, .skip (.refl _), h⟩
  | count n =>
    simp only [Op.av]
    repeat' cell_call
    exact ⟨_, .skip (.refl _), h⟩
  | choose ls =>
    obtain ⟨ho1, ho2⟩ := ho
    simp only [Op.av]
    repeat' cell_call
    refine' e_compL _ ?hh ?hcl ?hsc ?hx ?_ ?hs
    case hh => exact hh rfl
    case hcl => rfl
    case hsc => kernel_rfl
    case hx => kernel_rfl
    case hs => exact fun _ => rfl
    repeat' cell_call
    have els : (Src.tup (ls.map fun (l : Nat) => AV.int (l : Int))).els.length = ls.length := by
      show (ls.map fun (l : Nat) => AV.int (l : Int)).length = _
      simp
    refine ⟨.tup (ls.map fun (l : Nat) => AV.int (l : Int)), fun i ys T' => ys = (ls.take i).map (fun (l : Nat) => .int ((startF st l : Nat) : Int)) ∧ T' = (c1, .cell (some (rf sx))) :: T, .tup, ⟨rfl, rfl⟩, fun _ _ _ _ => trivial, by rw [els]; omega, ?_, ?_⟩
    · rintro i e ys T' D C' he ⟨rfl, rfl⟩ hlen
      have he : (ls.map fun (l : Nat) => AV.int (l : Int))[i]? = some e := he
      rw [List.getElem?_map] at he
      obtain ⟨l, hl1, hl2⟩ := Option.map_eq_some_iff.mp he
      subst hl2
      have hl3 := ho1 l (List.mem_of_getElem? hl1)
      repeat' cell_call
      refine i_list (k := (l : Int)) (.tail _ (.tail _ hx)) (by omega) (by omega) (starts_get hl3) ?_
      refine ⟨_, .refl _, ?_, rfl⟩
      rw [List.take_add_one, hl1]
      simp
    · rintro ys T' D ⟨rfl, rfl⟩ hlen
      rw [els, List.take_length]
      repeat' cell_call
      refine k_tuple (.head _) (by simp; omega) ?_
      repeat' cell_call
      have h : Q (.tup [sv "choose", .tup ((ls.map (startF st)).map fun (l : Nat) => .int (l : Int))]) T := h
      rw [List.map_map] at h
      exact ⟨_, .skip (.skip (.refl _)), h⟩
  | stop x =>
    simp only [Op.av]
    repeat' cell_call
    exact ⟨_, .skip (.refl _), h⟩
end
section
/-- where each piece begins -/
noncomputable def offs (all : List (List Op)) : List Nat := (List.range all.length).map fun j => ((all.take j).flatten).length
theorem offs_len (all : List (List Op)) : (offs all).length = all.length := by simp [offs]
theorem offs_get {all : List (List Op)} {l : Nat} (h : l < all.length) : startF (offs all) l = ((all.take l).flatten).length := by
  unfold startF offs
  simp [List.getD_eq_getElem?_getD, h]
theorem mem_offs {all : List (List Op)} {l : Nat} (h : l < all.length) : startF (offs all) l ∈ offs all := by
  rw [offs_get h]
  exact List.mem_map.mpr ⟨l, List.mem_range.mpr h, rfl⟩
theorem pieces_ok {nb many : Nat} {P : Nat → Prop} {f : Nat → Nat} {x : Str} (hx : x ≠ Str.ofString "" ∧ (x == Str.ofString "") = false) (hP : ∀ l, l < many → P (f l)) :
    ∀ ps : List (List Op), (∀ p ∈ ps, PieceOk nb many p) → Okat nb P .e (((ps ++ [[Op.stop x]]).flatten).map (Op.place f))
  | [], _ => hx
  | p :: ps, h => by
    rw [List.cons_append, List.flatten_cons, List.map_append]
    exact (h p (.head _)).1 P f _ hP (pieces_ok hx hP ps fun q hq => h q (.tail _ hq))
theorem flat_drop (all : List (List Op)) (j : Nat) : all.flatten.drop ((all.take j).flatten).length = (all.drop j).flatten := by
  conv => lhs; rw [← List.take_append_drop j all, List.flatten_append]
  rw [List.take_append_drop, List.drop_left']
  rfl
theorem flat_len {n : Nat} : ∀ {all : List (List Op)}, (∀ p ∈ all, p.length ≤ n) → all.flatten.length ≤ n * all.length
  | [], _ => Nat.le_refl _
  | p :: ps, h => by
    rw [List.flatten_cons, List.length_append, List.length_cons]
    have := flat_len fun q hq => h q (.tail _ hq)
    have := h p (.head _)
    rw [Nat.mul_add]; omega
theorem code_ok {nb : Nat} {x : Str} (hx : x ≠ Str.ofString "" ∧ (x == Str.ofString "") = false) {ps : List (List Op)} (hp : ∀ p ∈ ps, PieceOk nb (ps ++ [[Op.stop x]]).length p) (hl : ps.length ≤ 100) {begs : List Nat} (hb : ∀ b ∈ begs, b ∈ offs (ps ++ [[Op.stop x]])) (hn : begs.length = nb) :
    CodeOk (((ps ++ [[Op.stop x]]).flatten).map (Op.place (startF (offs (ps ++ [[Op.stop x]]))))) begs (fun l => l ∈ offs (ps ++ [[Op.stop x]])) where
  at_ := fun l hl => by
    obtain ⟨j, hj, rfl⟩ := List.mem_map.mp hl
    have hj := List.mem_range.mp hj
    rw [← List.map_drop, flat_drop, hn]
    have e : (ps ++ [[Op.stop x]]).drop j = ps.drop j ++ [[Op.stop x]] := by
      rw [List.length_append, List.length_singleton] at hj
      rw [List.drop_append_of_le_length (by omega)]
    rw [e]
    exact pieces_ok hx (fun l hl => mem_offs hl) _ fun p h => hp p (List.mem_of_mem_drop h)
  zero := List.mem_map.mpr ⟨0, List.mem_range.mpr (by simp), rfl⟩
  begs := hb
  small := by
    rw [List.length_map]
    have := flat_len (n := 10) (all := ps ++ [[Op.stop x]]) fun p h => by
      rcases List.mem_append.mp h with h | h
      · exact (hp p h).2.1
      · rw [List.mem_singleton.mp h]; exact Nat.le_of_ble_eq_true rfl
    rw [List.length_append, List.length_singleton] at this
    omega
theorem lbl_ok {nb : Nat} {x : Str} {ps : List (List Op)} {many : Nat} (hp : ∀ p ∈ ps, PieceOk nb many p) : ∀ op ∈ (ps ++ [[Op.stop x]]).flatten, LblOk many op := fun op h => by
  obtain ⟨p, h1, h2⟩ := List.mem_flatten.mp h
  rcases List.mem_append.mp h1 with h1 | h1
  · exact (hp p h1).2.2 op h2
  · rw [List.mem_singleton.mp h1] at h2
    rw [List.mem_singleton.mp h2]; trivial
end
section
variable {w : World} {b0 : Heap} {Q : AV → Store → Prop} {X : Addr → Store → Prop} {R T T' : Store} {tp cl : Addr} {xs : List AV} {k : Int}
set_option maxHeartbeats 2000000
theorem code_init (G : Gd w b0) {x d : Addr} {u v : AV} (h : Q .none ((x, .inst 364 d [(Str.ofString "ops", u), (Str.ofString "begins", v)]) :: T)) : WC w b0 1 true (rf 354) [rf x, u, v] ((x, .inst 364 d []) :: T) Q X := by
  refine' wc_def3 (n₁ := Str.ofString "self") (n₂ := Str.ofString "ops") (n₃ := Str.ofString "begins") G ?ho ?hcd ?hb ?hs ?hl ?_
  case ho => k_is
  case hcd => k_is
  case hb => exact fun _ _ _ _ _ => BindsTo.of_eq rfl
  case hs => kernel_rfl
  case hl => kernel_rfl
  intro L fl A hc hh
  repeat' cell_call
  all_goals exact h
theorem k_code {c : Cx} {n : Nat} {m : Loc} {Q : AV → Loc → Store → Prop} {X : Addr → Loc → Store → Prop} (G : Gd w b0) {u v : AV} (hc : c.Ok n) (hle : 2 ≤ n) (hh : c.A.handled = none) (h : ∀ x d, Q (rf x) m ((x, .inst 364 d [(Str.ofString "ops", u), (Str.ofString "begins", v)]) :: T)) : CallQ w b0 c (rf 364) [u, v] m T Q X := by
  refine' k_make (n := 1) (hn := true) G ?hm ?hi ?hf (fun x d => ?_) hc hle (fun _ => hh)
  case hm => k_is
  case hi => k_is
  case hf => k_is
  exact code_init G ⟨rfl, h x d⟩
theorem four_of {α : Type} {l : List α} (h : l.length = 4) : ∃ a b c d, l = [a, b, c, d] := by
  match l, h with
  | [a, b, c, d], _ => exact ⟨a, b, c, d, rfl⟩
noncomputable abbrev PL := List (Addr × List Op)
noncomputable def PLs (q : PL) : Store := q.map fun p => (p.1, .list (p.2.map Op.av))
theorem PLs.mem {q : PL} {p : Addr × List Op} (h : p ∈ q) : (p.1, AO.list (p.2.map Op.av)) ∈ PLs q := List.mem_map.mpr ⟨p, h, rfl⟩
local macro_rules | `(tactic| kat_tups) => wFirst "$law_drawN G u1 t1 t2 L o1 o2 o3 F2"
theorem law_code_c (G : Gd w b0) (C : CellsOk xs) (h0 : 0 ≤ k) (hz : k ≤ 50000)
    (h : ∀ (ops : List Op) (begs : List Nat) (P : Nat → Prop) (k' : Int) (co cx : Addr), CodeOk ops begs P → begs.length ≤ 100 → k ≤ k' → k' ≤ k + 1000 → Q (rf co) ((co, .inst 364 cx [(Str.ofString "ops", .tup (opsAV ops)), (Str.ofString "begins", .tup (begsA begs))]) :: TP tp cl xs k' R)) : WC w b0 8 true (rf 424) [rf tp] (TP tp cl xs k R) Q X := by
  refine WC.drop ?_
  refine' wc_cell (ps := [(Str.ofString "tape", rf tp)]) (m₀ := []) (cvs := [(Str.ofString "starts", none), (Str.ofString "begins", none), (Str.ofString "many", none), (Str.ofString "tape", some (rf tp))]) G ?ho ?hcd ?hb ?hchk ?hm ?hcv ?_
  case ho => k_is
  case hcd => k_is
  case hb =>
    intro s vs KI rs
    obtain ⟨v, rfl, r⟩ := rs.one
    exact ⟨[(Str.ofString "tape", v)], BindsTo.of_eq rfl, ⟨rfl, r, trivial⟩⟩
  case hchk => kernel_rfl
  case hm => rfl
  case hcv => rfl
  intro L fl A cs hcs hc hh
  obtain ⟨c1, c2, c3, c4, rfl⟩ := four_of hcs
  simp only [cellStore, List.map_cons, List.map_nil, List.zip_cons_cons, List.zip_nil_right, List.cons_append, List.nil_append] at hc ⊢
  refine' b_cons (s_unpack2 ?hhx ?hk ?_ ?hs ?hw)
  case hhx => exact hh rfl
  case hk => kernel_rfl
  case hs => kernel_rfl
  case hw => kernel_rfl
  repeat' cell_call
  rename_i v v1 u u1
  obtain ⟨n, hn⟩ : ∃ n : Nat, n = v + 1 := ⟨_, rfl⟩
  obtain ⟨nb, hnb⟩ : ∃ n : Nat, n = u + 1 := ⟨_, rfl⟩
  rw [show (2 : Int) + (v : Int) = ((n + 1 : Nat) : Int) by omega, show (1 : Int) + (u : Int) = ((nb : Nat) : Int) by omega]
  refine' e_compL _ ?hh ?hcl ?hsc ?hx ?_ ?hs
  case hh => exact hh rfl
  case hcl => rfl
  case hsc => kernel_rfl
  case hx => kernel_rfl
  case hs => exact fun _ => rfl
  repeat' cell_call
  rw [show ((n + 1 : Nat) : Int) - 1 = (n : Int) by omega]
  cell_call
  have els : (Src.rng n).els.length = n := by simp [Src.els]
  refine ⟨.rng n, fun i ys T' => ∃ (rq : PL) (k' : Int), ys = (rq.map fun p => rf p.1).reverse ∧ rq.length = i ∧ (∀ p ∈ rq, PieceOk nb (n + 1) p.2) ∧ k + 2 ≤ k' ∧ k' ≤ k + 2 + 30 * i ∧ T' = (c1, .cell none) :: (c2, .cell (some (.int nb))) :: (c3, .cell (some (.int ((n + 1 : Nat) : Int)))) :: (c4, .cell (some (rf tp))) :: TP tp cl xs k' (PLs rq ++ R), .rng (by omega), ⟨[], k + 1 + 1, rfl, rfl, fun _ h => (nomatch h), by omega, by omega, rfl⟩, fun _ _ _ _ => trivial, by rw [els]; omega, ?_, ?_⟩
  · rintro i e ys T' D C' he ⟨rq, k', rfl, hlen', hm, hk1, hk2, rfl⟩ hlen
    have hi : i < n := by
      have := (List.getElem?_eq_some_iff.mp he).1
      rwa [els] at this
    repeat' cell_call
    refine' k_fn (.less (law_piece_c (many := n + 1) (nb := nb) (k := k') (R := (D, .list (rq.map fun p => rf p.1).reverse) :: (c1, .cell none) :: (c2, .cell (some (.int nb))) :: (c3, .cell (some (.int ((n + 1 : Nat) : Int)))) :: (c4, .cell (some (rf tp))) :: (PLs rq ++ R)) G C (by omega) (by omega) (by omega) (by omega) (fun ops k'' z hp hk3 hk4 => ?_)) (Sb.pull (l := [_, _]) (Sb.pull (l := [_, _]) (Sb.pull (l := [_, _]) (Sb.pull (l := [_, _]) (Sb.pull (l := [_, _]) (.refl _))))))) (hc.inn ?hki) (by decide) hh
    case hki => kernel_rfl
    refine ⟨_, ?_, (z, ops) :: rq, k'', by simp, by simp [hlen'], fun p hp' => ?_, by omega, by omega, rfl⟩
    · exact Sb.pull (l := [_, _, _, _, _, _, _]) (Sb.pull (l := [_, _, _, _, _]) (Sb.pull (l := [_, _, _, _, _]) (.refl _)))
    · rcases List.mem_cons.mp hp' with rfl | hp'
      · exact hp
      · exact hm p hp'
  · rintro ys T' D ⟨rq, k', rfl, hlen', hm, hk1, hk2, rfl⟩ hlen
    rw [els] at hlen' hk2
    repeat' cell_call
    rename_i zi zo
    refine b_addl (.tail _ (.tail _ (.head _))) (.head _) (by simp; omega) (fun zp => ?_)
    cell_call
    cell_call
    refine' b_cons (s_unpack2 ?hhx ?hk ?_ ?hs ?hw)
    case hhx => exact hh rfl
    case hk => kernel_rfl
    case hs => kernel_rfl
    case hw => kernel_rfl
    repeat' cell_call
    rename_i zst zops
    refine' s_for ?hk ?hh (W.drop ?_) ?hs
    case hk => kernel_rfl
    case hh => exact hh rfl
    case hs => exact fun _ => rfl
    repeat' cell_call
    obtain ⟨allq, haq⟩ : ∃ q : PL, q = (zi, [Op.stop (Str.ofString "end")]) :: rq := ⟨_, rfl⟩
    obtain ⟨all, hall⟩ : ∃ a : List (List Op), a = (rq.map (·.2)).reverse ++ [[Op.stop (Str.ofString "end")]] := ⟨_, rfl⟩
    have hps : ∀ p ∈ (rq.map (·.2)).reverse, PieceOk nb (n + 1) p := fun p hp => by
      obtain ⟨q, h1, rfl⟩ := List.mem_map.mp (List.mem_reverse.mp hp)
      exact hm q h1
    have hN : all.length = n + 1 := by rw [hall]; simp [hlen']
    have hoN : (offs all).length = n + 1 := by rw [offs_len, hN]
    have hpl : ∀ p ∈ all, p.length ≤ 10 := fun p hp => by
      rw [hall] at hp
      rcases List.mem_append.mp hp with h | h
      · exact (hps p h).2.1
      · rw [List.mem_singleton.mp h]; exact Nat.le_of_ble_eq_true rfl
    have hfl : ∀ i, (opsAV (all.take i).flatten).length ≤ 200 := fun i => by
      rw [List.length_map]
      have h1 := flat_len (n := 10) (all := all.take i) fun p hp => hpl p (List.mem_of_mem_take hp)
      have h2 : (all.take i).length ≤ n + 1 := by rw [List.length_take]; omega
      omega
    have hal : allq.reverse.map (·.2) = all := by rw [haq, hall]; simp
    have hpc : (rq.map fun p => rf p.1).reverse ++ [rf zi] = allq.reverse.map fun p => rf p.1 := by rw [haq]; simp
    rw [hpc]
    refine ⟨[(Str.ofString "pieces", rf zp), (Str.ofString "ops", rf zops)], (zops, .list []) :: (zst, .list []) :: (zp, .list (allq.reverse.map fun p => rf p.1)) :: (c1, .cell (some (rf zst))) :: (c2, .cell (some (.int nb))) :: (c3, .cell (some (.int ((n + 1 : Nat) : Int)))) :: (c4, .cell (some (rf tp))) :: TP tp cl xs k' (PLs allq ++ R), fun _ h => h, ?_, .list zp (allq.reverse.map fun p => rf p.1), fun i m T => m = [(Str.ofString "pieces", rf zp), (Str.ofString "ops", rf zops)] ∧ T = (zops, .list (opsAV (all.take i).flatten)) :: (zst, .list (begsA ((offs all).take i))) :: (zp, .list (allq.reverse.map fun p => rf p.1)) :: (c1, .cell (some (rf zst))) :: (c2, .cell (some (.int nb))) :: (c3, .cell (some (.int ((n + 1 : Nat) : Int)))) :: (c4, .cell (some (rf tp))) :: TP tp cl xs k' (PLs allq ++ R), .list (.tail _ (.tail _ (.head _))), ⟨rfl, rfl⟩, ?_, ?_, ?_⟩
    · rw [haq]
      exact .keep (.keep (.keep (.skip (Sb.pull (l := [_, _, _, _, _, _]) (.skip (.refl _))))))
    · rintro i m T ⟨rfl, rfl⟩
      exact .tail _ (.tail _ (.head _))
    · rintro i e m T' he ⟨rfl, rfl⟩
      have he : (allq.reverse.map fun p => rf p.1)[i]? = some e := he
      rw [List.getElem?_map] at he
      obtain ⟨q, hq1, hq2⟩ := Option.map_eq_some_iff.mp he
      subst hq2
      have hq3 : all[i]? = some q.2 := by rw [← hal, List.getElem?_map, hq1]; rfl
      have hi : i < all.length := (List.getElem?_eq_some_iff.mp hq3).1
      have hq4 : (q.1, AO.list (q.2.map Op.av)) ∈ PLs allq := PLs.mem (List.mem_reverse.mp (List.mem_of_getElem? hq1))
      have hq5 : (q.2.map Op.av).length ≤ 10 := by rw [List.length_map]; exact hpl _ (List.mem_of_getElem? hq3)
      have hf1 := hfl i
      have hf2 : (begsA ((offs all).take i)).length ≤ 20 := by rw [List.length_map, List.length_take]; omega
      refine' ⟨_, _, ?hn, W.drop ?_⟩
      case hn => k_fold
      repeat' cell_call
      refine k_extend .head (by iterate 9 apply List.Mem.tail
                                exact List.mem_append_left _ hq4) (by omega) ?_
      repeat' cell_call
      have e1 : opsAV (all.take (i + 1)).flatten = opsAV (all.take i).flatten ++ q.2.map Op.av := by
        rw [List.take_add_one, hq3, Option.toList_some, List.flatten_append]
        show ((all.take i).flatten ++ [q.2].flatten).map Op.av = (all.take i).flatten.map Op.av ++ _
        rw [List.map_append]; simp
      have e2 : begsA ((offs all).take (i + 1)) = begsA ((offs all).take i) ++ [.int ((opsAV (all.take i).flatten).length : Int)] := by
        have h1 : (offs all)[i]? = some ((all.take i).flatten).length := by
          unfold offs
          simp [hi]
        rw [List.take_add_one, h1, Option.toList_some, show (opsAV (all.take i).flatten).length = (all.take i).flatten.length from List.length_map ..]
        show ((offs all).take i ++ [((all.take i).flatten).length]).map _ = ((offs all).take i).map _ ++ _
        rw [List.map_append]; rfl
      refine ⟨_, _, ?_, .refl _, rfl, ?_⟩
      · k_whole
      · rw [e1, e2]
    · rintro m T' ⟨rfl, rfl⟩
      have elsN : (Src.list zp (allq.reverse.map fun p => rf p.1)).els.length = all.length := by
        show (allq.reverse.map fun p => rf p.1).length = _
        rw [← hal]; simp
      rw [elsN, List.take_length, ← offs_len all, List.take_length]
      have hflN := hfl all.length
      rw [List.take_length] at hflN
      repeat' cell_call
      refine' e_compL _ ?hh ?hcl ?hsc ?hx ?_ ?hs
      case hh => exact hh rfl
      case hcl => rfl
      case hsc => kernel_rfl
      case hx => kernel_rfl
      case hs => exact fun _ => rfl
      repeat' cell_call
      refine ⟨.list zops (opsAV all.flatten), fun i ys T' => ys = (all.flatten.take i).map (fun op => (op.place (startF (offs all))).av) ∧ T' = (zops, .list (opsAV all.flatten)) :: (zst, .list (begsA (offs all))) :: (zp, .list (allq.reverse.map fun p => rf p.1)) :: (c1, .cell (some (rf zst))) :: (c2, .cell (some (.int nb))) :: (c3, .cell (some (.int ((n + 1 : Nat) : Int)))) :: (c4, .cell (some (rf tp))) :: TP tp cl xs k' (PLs allq ++ R), .list (.head _), ⟨rfl, rfl⟩, ?_, ?_, ?_, ?_⟩
      · rintro i ys T ⟨_, rfl⟩
        exact List.Mem.head _
      · show (opsAV all.flatten).length ≤ 1000000
        omega
      · rintro i e ys T' D1 C' he ⟨rfl, rfl⟩ hlen
        have he : (opsAV all.flatten)[i]? = some e := he
        rw [List.getElem?_map] at he
        obtain ⟨op, ho1, ho2⟩ := Option.map_eq_some_iff.mp he
        subst ho2
        have hlb : LblOk (offs all).length op := by
          rw [hoN]
          refine lbl_ok (nb := nb) (ps := (rq.map (·.2)).reverse) (x := Str.ofString "end") hps op ?_
          rw [← hall]
          exact List.mem_of_getElem? ho1
        repeat' cell_call
        refine' k_fn (law_placed_c (sx := zst) (st := offs all) G (.tail _ (.tail _ (.head _))) (by omega) hlb ?_) (hc.inn ?hki) (by decide) hh
        case hki => kernel_rfl
        refine ⟨_, .refl _, ?_, rfl⟩
        rw [List.take_add_one, ho1]
        simp
      · rintro ys T' D1 ⟨rfl, rfl⟩ hlen
        rw [show (Src.list zops (opsAV all.flatten)).els.length = all.flatten.length from List.length_map .., List.take_length]
        repeat' cell_call
        refine k_tuple (.head _) (by rw [List.length_map] at hflN ⊢; omega) ?_
        repeat' cell_call
        refine' e_compL _ ?hh ?hcl ?hsc ?hx ?_ ?hs
        case hh => exact hh rfl
        case hcl => rfl
        case hsc => kernel_rfl
        case hx => kernel_rfl
        case hs => exact fun _ => rfl
        repeat' cell_call
        have els2 : (Src.rng nb).els.length = nb := by simp [Src.els]
        refine ⟨.rng nb, fun i ys T' => ∃ (ls : List Nat) (k'' : Int), ys = begsA ls ∧ ls.length = i ∧ (∀ x ∈ ls, x ∈ offs all) ∧ k' ≤ k'' ∧ k'' ≤ k' + i ∧ T' = (D1, .list (all.flatten.map (fun op => (op.place (startF (offs all))).av))) :: (zops, .list (opsAV all.flatten)) :: (zst, .list (begsA (offs all))) :: (zp, .list (allq.reverse.map fun p => rf p.1)) :: (c1, .cell (some (rf zst))) :: (c2, .cell (some (.int nb))) :: (c3, .cell (some (.int ((n + 1 : Nat) : Int)))) :: (c4, .cell (some (rf tp))) :: TP tp cl xs k'' (PLs allq ++ R), .rng (by omega), ⟨[], k', rfl, rfl, fun _ h => (nomatch h), by omega, by omega, rfl⟩, fun _ _ _ _ => trivial, by rw [els2]; omega, ?_, ?_⟩
        · rintro i e ys T' D2 C' he ⟨ls, k'', rfl, hls, hmem, hk3, hk4, rfl⟩ hlen
          have hi : i < nb := by
            have := (List.getElem?_eq_some_iff.mp he).1
            rwa [els2] at this
          repeat' cell_call
          refine' k_fn (law_drawN G (tp := tp) (cl := cl) (k := k'') (xs := xs) ?hu ?h1 ?h2 C (by omega) (by omega) (by omega) (fun x x1 => ?_)) (hc.inn ?hki) (by decide) hh
          case hu => k_made
          case h1 => mem_news
          case h2 => mem_news
          case hki => kernel_rfl
          refine i_list (k := (x : Int)) (by mem_news) (by omega) (by omega) (starts_get (by omega)) ?_
          refine ⟨_, .refl _, ls ++ [startF (offs all) x], k'' + 1, by simp, by simp [hls], fun y hy => ?_, by omega, by omega, rfl⟩
          rcases List.mem_append.mp hy with hy | hy
          · exact hmem y hy
          · rw [List.mem_singleton.mp hy]; exact mem_offs (by omega)
        · rintro ys T' D2 ⟨ls, k'', rfl, hls, hmem, hk3, hk4, rfl⟩ hlen
          rw [els2] at hls hk4
          repeat' cell_call
          refine k_tuple (.head _) (by rw [List.length_map]; omega) ?_
          repeat' cell_call
          refine k_code G hc (by decide) (hh rfl) (fun co cx => ?_)
          repeat' cell_call
          have hps' : ∀ p ∈ (rq.map (·.2)).reverse, PieceOk nb ((rq.map (·.2)).reverse ++ [[Op.stop (Str.ofString "end")]]).length p := by
            rw [← hall, hN]; exact hps
          have hok := code_ok (nb := nb) (x := Str.ofString "end") ⟨by decide, by decide⟩ hps' (by simp; omega) (begs := ls) (by rw [← hall]; exact hmem) hls
          rw [← hall] at hok
          have h := h _ _ _ k'' co cx hok (by omega) (by omega) (by omega)
          rw [show opsAV (all.flatten.map (Op.place (startF (offs all)))) = all.flatten.map (fun op => (op.place (startF (offs all))).av) from List.map_map ..] at h
          exact ⟨_, .keep (.skip (.skip (.skip (.skip (.skip (.skip (.skip (.skip (.skip (.keep (.keep ⟨R, .refl _, List.sublist_append_right _ R⟩))))))))))), h⟩
end
section
variable {w : World} {b0 : Heap} {Q : AV → Store → Prop} {X : Addr → Store → Prop} {R T T' : Store}
set_option maxHeartbeats 2000000
theorem RVs.five {h : Heap} {vs : List Value} {a b d e f : AV} (r : RVs h vs [a, b, d, e, f]) : ∃ v u x y z, vs = [v, u, x, y, z] ∧ RV h v a ∧ RV h u b ∧ RV h x d ∧ RV h y e ∧ RV h z f := by
  cases r with
  | cons a r =>
    cases r with
    | cons b r =>
      obtain ⟨x, y, z, rfl, r1, r2, r3⟩ := r.three
      exact ⟨_, _, x, y, z, rfl, a, b, r1, r2, r3⟩
noncomputable abbrev deI (dx : Addr) (a b d e : AV) : AO := .inst 385 dx [(Str.ofString "do", a), (Str.ofString "test", b), (Str.ofString "number", d), (Str.ofString "put", e)]
theorem deeds_init (G : Gd w b0) {x dx : Addr} {a b d e : AV} (h : Q .none ((x, deI dx a b d e) :: T)) : WC w b0 1 true (rf 382) [rf x, a, b, d, e] ((x, .inst 385 dx []) :: T) Q X := by
  refine' wc_cell (ps := [(Str.ofString "self", rf x), (Str.ofString "do", a), (Str.ofString "test", b), (Str.ofString "number", d), (Str.ofString "put", e)]) (m₀ := [(Str.ofString "self", rf x), (Str.ofString "do", a), (Str.ofString "test", b), (Str.ofString "number", d), (Str.ofString "put", e)]) (cvs := []) G ?ho ?hcd ?hb ?hchk ?hm ?hcv ?_
  case ho => k_is
  case hcd => k_is
  case hb =>
    intro s vs KI rs
    obtain ⟨v, u, x, y, z, rfl, r1, r2, r3, r4, r5⟩ := rs.five
    exact ⟨[(Str.ofString "self", v), (Str.ofString "do", u), (Str.ofString "test", x), (Str.ofString "number", y), (Str.ofString "put", z)], BindsTo.of_eq rfl, ⟨rfl, r1, rfl, r2, rfl, r3, rfl, r4, rfl, r5, trivial⟩⟩
  case hchk => kernel_rfl
  case hm => rfl
  case hcv => rfl
  intro L fl A cs hcs hc hh
  obtain rfl : cs = [] := List.length_eq_zero_iff.mp hcs
  simp only [cellStore, List.map_nil, List.zip_nil_right, List.nil_append] at hc ⊢
  repeat' cell_call
  all_goals exact h
theorem k_deeds {c : Cx} {n : Nat} {m : Loc} {Q : AV → Loc → Store → Prop} {X : Addr → Loc → Store → Prop} (G : Gd w b0) {a b d e : AV} (hc : c.Ok n) (hle : 2 ≤ n) (hh : c.A.handled = none) (h : ∀ x dx, Q (rf x) m ((x, deI dx a b d e) :: T)) : CallQ w b0 c (rf 385) [a, b, d, e] m T Q X := by
  refine' k_make (n := 1) (hn := true) G ?hm ?hi ?hf (fun x dx => ?_) hc hle (fun _ => hh)
  case hm => k_is
  case hi => k_is
  case hf => k_is
  exact deeds_init G ⟨rfl, h x dx⟩
noncomputable def posOf : Option Stmt → Pos
  | some (.FunctionDef _ _ _ _ _ _ _ _ _ pos) => pos
  | _ => ⟨0, 0, 0, 0⟩
/-- what the table of _law_deeds holds, once it has run -/
noncomputable def dTab : List (Pos × Str) := [(posOf deedsBody[0]?, (CF 0).qual), (posOf deedsBody[1]?, (CF 1).qual), (posOf deedsBody[2]?, (CF 2).qual), (posOf deedsBody[3]?, (CF 3).qual)]
theorem tab_sub {P : Addr} {qs : List (Pos × Str)} (he : qs = dTab) : Sb ((P, .tab dTab) :: R) ((P, .tab qs) :: R) := he ▸ .refl _
theorem law_deeds_1 (G : Gd w b0) {lg : Addr} (h : ∀ de dx cA, Q (rf de) ((de, deI dx (.clo 0 cA) (.clo 1 cA) (.clo 2 cA) (.clo 3 cA)) :: (cA, .cell (some (rf lg))) :: (426, .tab dTab) :: R)) : WC w b0 4 true (rf 431) [rf lg] ((426, .tab []) :: R) Q X := by
  refine WC.drop ?_
  refine' wc_cell (ps := [(Str.ofString "log", rf lg)]) (m₀ := []) (cvs := [(Str.ofString "log", some (rf lg))]) G ?ho ?hcd ?hb ?hchk ?hm ?hcv ?_
  case ho => k_is
  case hcd => k_is
  case hb =>
    intro s vs KI rs
    obtain ⟨v, rfl, r⟩ := rs.one
    exact ⟨[(Str.ofString "log", v)], BindsTo.of_eq rfl, ⟨rfl, r, trivial⟩⟩
  case hchk => kernel_rfl
  case hm => rfl
  case hcv => rfl
  intro L fl A cs hcs hc hh
  obtain ⟨c1, rfl⟩ : ∃ c1, cs = [c1] := List.length_eq_one_iff.mp hcs
  simp only [cellStore, List.map_cons, List.map_nil, List.zip_cons_cons, List.zip_nil_right, List.cons_append, List.nil_append] at hc ⊢
  refine' b_cons (s_def (k := 0) (cc := 430) (P := 426) (ca := c1) (var := Str.ofString "log") (qual := Str.ofString "_law_deeds.<locals>." ++ Str.ofString "do") G ?hi ?hk ?hcd ?hC ?hcf ?hq ?hcl ?hdoc ?hd0 ?hk0 ?ha ?hU ?hn ?_)
  case hi => rfl
  case hk => kernel_rfl
  case hcd => rfl
  case hC => kernel_rfl
  case hcf => kernel_rfl
  case hq => kernel_rfl
  case hcl => rfl
  case hdoc => rfl
  case hd0 => rfl
  case hk0 => rfl
  case ha => rfl
  case hU => k_made
  case hn => kernel_rfl
  cell_call
  cell_call
  refine' b_cons (s_def (k := 1) (cc := 430) (P := 426) (ca := c1) (var := Str.ofString "log") (qual := Str.ofString "_law_deeds.<locals>." ++ Str.ofString "test") G ?hi ?hk ?hcd ?hC ?hcf ?hq ?hcl ?hdoc ?hd0 ?hk0 ?ha ?hU ?hn ?_)
  case hi => rfl
  case hk => kernel_rfl
  case hcd => rfl
  case hC => kernel_rfl
  case hcf => kernel_rfl
  case hq => kernel_rfl
  case hcl => rfl
  case hdoc => rfl
  case hd0 => rfl
  case hk0 => rfl
  case ha => rfl
  case hU => k_made
  case hn => kernel_rfl
  cell_call
  cell_call
  refine' b_cons (s_def (k := 2) (cc := 430) (P := 426) (ca := c1) (var := Str.ofString "log") (qual := Str.ofString "_law_deeds.<locals>." ++ Str.ofString "number") G ?hi ?hk ?hcd ?hC ?hcf ?hq ?hcl ?hdoc ?hd0 ?hk0 ?ha ?hU ?hn ?_)
  case hi => rfl
  case hk => kernel_rfl
  case hcd => rfl
  case hC => kernel_rfl
  case hcf => kernel_rfl
  case hq => kernel_rfl
  case hcl => rfl
  case hdoc => rfl
  case hd0 => rfl
  case hk0 => rfl
  case ha => rfl
  case hU => k_made
  case hn => kernel_rfl
  cell_call
  cell_call
  refine' b_cons (s_def (k := 3) (cc := 430) (P := 426) (ca := c1) (var := Str.ofString "log") (qual := Str.ofString "_law_deeds.<locals>." ++ Str.ofString "put") G ?hi ?hk ?hcd ?hC ?hcf ?hq ?hcl ?hdoc ?hd0 ?hk0 ?ha ?hU ?hn ?_)
  case hi => rfl
  case hk => kernel_rfl
  case hcd => rfl
  case hC => kernel_rfl
  case hcf => kernel_rfl
  case hq => kernel_rfl
  case hcl => rfl
  case hdoc => rfl
  case hd0 => rfl
  case hk0 => rfl
  case ha => rfl
  case hU => k_made
  case hn => kernel_rfl
  cell_call
  cell_call
  repeat' cell_call
  refine k_deeds G hc (by decide) (hh rfl) (fun de dx => ?_)
  repeat' cell_call
  refine' ⟨_, .keep (.keep (tab_sub ?he)), h de dx c1⟩
  case he => kernel_rfl
theorem law_deeds_2 (G : Gd w b0) {lg : Addr} (h : ∀ de dx cA, Q (rf de) ((de, deI dx (.clo 0 cA) (.clo 1 cA) (.clo 2 cA) (.clo 3 cA)) :: (cA, .cell (some (rf lg))) :: (426, .tab dTab) :: R)) : WC w b0 4 true (rf 431) [rf lg] ((426, .tab dTab) :: R) Q X := by
  refine WC.drop ?_
  refine' wc_cell (ps := [(Str.ofString "log", rf lg)]) (m₀ := []) (cvs := [(Str.ofString "log", some (rf lg))]) G ?ho ?hcd ?hb ?hchk ?hm ?hcv ?_
  case ho => k_is
  case hcd => k_is
  case hb =>
    intro s vs KI rs
    obtain ⟨v, rfl, r⟩ := rs.one
    exact ⟨[(Str.ofString "log", v)], BindsTo.of_eq rfl, ⟨rfl, r, trivial⟩⟩
  case hchk => kernel_rfl
  case hm => rfl
  case hcv => rfl
  intro L fl A cs hcs hc hh
  obtain ⟨c1, rfl⟩ : ∃ c1, cs = [c1] := List.length_eq_one_iff.mp hcs
  simp only [cellStore, List.map_cons, List.map_nil, List.zip_cons_cons, List.zip_nil_right, List.cons_append, List.nil_append] at hc ⊢
  refine' b_cons (s_defAgain (k := 0) (cc := 430) (P := 426) (ca := c1) (var := Str.ofString "log") (qual := Str.ofString "_law_deeds.<locals>." ++ Str.ofString "do") G ?hi ?hk ?hcd ?hC ?hcf ?hq ?hcl ?hdoc ?hd0 ?hk0 ?ha ?hU ?hf ?_)
  case hi => rfl
  case hk => kernel_rfl
  case hcd => rfl
  case hC => kernel_rfl
  case hcf => kernel_rfl
  case hq => kernel_rfl
  case hcl => rfl
  case hdoc => rfl
  case hd0 => rfl
  case hk0 => rfl
  case ha => rfl
  case hU => mem_news
  case hf => kernel_rfl
  cell_call
  cell_call
  refine' b_cons (s_defAgain (k := 1) (cc := 430) (P := 426) (ca := c1) (var := Str.ofString "log") (qual := Str.ofString "_law_deeds.<locals>." ++ Str.ofString "test") G ?hi ?hk ?hcd ?hC ?hcf ?hq ?hcl ?hdoc ?hd0 ?hk0 ?ha ?hU ?hf ?_)
  case hi => rfl
  case hk => kernel_rfl
  case hcd => rfl
  case hC => kernel_rfl
  case hcf => kernel_rfl
  case hq => kernel_rfl
  case hcl => rfl
  case hdoc => rfl
  case hd0 => rfl
  case hk0 => rfl
  case ha => rfl
  case hU => mem_news
  case hf => kernel_rfl
  cell_call
  cell_call
  refine' b_cons (s_defAgain (k := 2) (cc := 430) (P := 426) (ca := c1) (var := Str.ofString "log") (qual := Str.ofString "_law_deeds.<locals>." ++ Str.ofString "number") G ?hi ?hk ?hcd ?hC ?hcf ?hq ?hcl ?hdoc ?hd0 ?hk0 ?ha ?hU ?hf ?_)
  case hi => rfl
  case hk => kernel_rfl
  case hcd => rfl
  case hC => kernel_rfl
  case hcf => kernel_rfl
  case hq => kernel_rfl
  case hcl => rfl
  case hdoc => rfl
  case hd0 => rfl
  case hk0 => rfl
  case ha => rfl
  case hU => mem_news
  case hf => kernel_rfl
  cell_call
  cell_call
  refine' b_cons (s_defAgain (k := 3) (cc := 430) (P := 426) (ca := c1) (var := Str.ofString "log") (qual := Str.ofString "_law_deeds.<locals>." ++ Str.ofString "put") G ?hi ?hk ?hcd ?hC ?hcf ?hq ?hcl ?hdoc ?hd0 ?hk0 ?ha ?hU ?hf ?_)
  case hi => rfl
  case hk => kernel_rfl
  case hcd => rfl
  case hC => kernel_rfl
  case hcf => kernel_rfl
  case hq => kernel_rfl
  case hcl => rfl
  case hdoc => rfl
  case hd0 => rfl
  case hk0 => rfl
  case ha => rfl
  case hU => mem_news
  case hf => kernel_rfl
  cell_call
  cell_call
  repeat' cell_call
  refine k_deeds G hc (by decide) (hh rfl) (fun de dx => ?_)
  repeat' cell_call
  exact ⟨_, .refl _, h de dx c1⟩
end
section
/-! what is logged is plain -/
noncomputable def outLog : Out → List AV
  | .go s => s.log
  | .word _ l => l
  | .size l => l
  | .run l => l
theorem ok_opd (o : Opd) : okA 8 (.tup [sv "number", o.av]) := by
  cases o
  · simp [okA, aDat, aDats, kqdOk, Opd.av]; decide +kernel
  · simp [okA, aDat, aDats, kqdOk, Opd.av]; decide +kernel
theorem ok_put (v : Int × Nat) : okA 8 (.tup [sv "put", sv "rows", dec v]) := by simp [okA, aDat, aDats, kqdOk]; decide +kernel
theorem ok_deed (n : Int) : okA 8 (.tup [sv "do", .tup [sv "deed", .int n]]) := by simp [okA, aDat, aDats, kqdOk]; decide +kernel
theorem ok_test (n : Int) : okA 8 (.tup [sv "test", .int n]) := by simp [okA, aDat, aDats, kqdOk]; decide +kernel
theorem step_okA {begs : List Nat} {s : St} (op : Op) (hs : ∀ a ∈ s.log, okA 8 a) : ∀ a ∈ outLog (stepOp begs s op), okA 8 a := by
  have snoc : ∀ {e : AV}, okA 8 e → ∀ a ∈ s.log ++ [e], okA 8 a := fun he a ha => (List.mem_append.mp ha).elim (hs a) fun h => by rw [List.mem_singleton.mp h]; exact he
  cases op with
  | push o way =>
    cases o with
    | num k => exact snoc (ok_opd (.num k))
    | txt =>
      simp only [stepOp]
      split <;> exact snoc (ok_opd .txt)
  | «calc» sg way =>
    simp only [stepOp]
    split
    · exact hs
    · split <;> exact hs
  | perform b e => simp only [stepOp]; split <;> exact hs
  | leave e =>
    simp only [stepOp]
    split
    · split <;> exact hs
    · exact hs
  | count n => simp only [stepOp]; split <;> exact hs
  | less n l =>
    simp only [stepOp]
    split
    · split <;> exact hs
    · exact hs
  | put l => exact snoc (ok_put _)
  | deed n => exact snoc (ok_deed _)
  | test n l => exact snoc (ok_test _)
  | _ => exact hs
theorem log_ok {ops : List Op} {begs : List Nat} : ∀ (n : Nat) (s : St), (∀ a ∈ s.log, okA 8 a) → ∀ a ∈ (runF ops begs n s).2, okA 8 a
  | 0, s, h => h
  | n + 1, s, h => by
    cases ho : ops[s.place]? with
    | none =>
      unfold runF
      rw [ho]
      exact h
    | some op =>
      rw [runF_succ ho]
      have hk := step_okA (begs := begs) op h
      cases hst : stepOp begs s op with
      | go s' => rw [hst] at hk; exact log_ok n s' hk
      | word x l => rw [hst] at hk; exact hk
      | size l => rw [hst] at hk; exact hk
      | run l => rw [hst] at hk; exact hk
variable {w : World} {b0 : Heap}
set_option maxHeartbeats 2000000
local macro_rules | `(tactic| kqd_in) => wFirst "tr_list m1 o1 _"
local macro_rules | `(tactic| kat_tups) => wFirst "$law_drawN G u1 t1 t2 L o1 o2 o3 F2|k_list m1 o1 F1"
section
variable {c : Cx} {m : Loc} {T : Store} {Q : AV → Loc → Store → Prop} {X : Addr → Loc → Store → Prop}
noncomputable def SliB (x : Addr) (xs : List AV) (a k : AV) (m : Loc) (T : Store) (Q : AV → Loc → Store → Prop) : Prop := ∃ (n : Int), a = rf x ∧ k = .int n ∧ ∀ z, Q (rf z) m ((z, .list (xs.take (kms_hi (some n) xs.length))) :: T)
theorem sli_b {x : Addr} {xs : List AV} {n : Int} (h : ∀ z, Q (rf z) m ((z, .list (xs.take (kms_hi (some n) xs.length))) :: T)) : SliB x xs (rf x) (.int n) m T Q := ⟨n, rfl, rfl, h⟩
theorem e_slice2 {v e : Expr} {sp pos : Pos} {x : Addr} {ws : List Value} {xs : List AV} (hb : b0.IsList x ws.toArray) (hr : ∀ h, RVs h ws xs) (hz : xs.length ≤ 16777216)
    (h : WE w b0 c v m T (fun a m₁ T₁ => WE w b0 c e m₁ T₁ (fun k m₂ T₂ => SliB x xs a k m₂ T₂ Q) X) X) (ht : ∀ o r, letTemporaryGo v o r = pure ()) : WE w b0 c (.Subscript v (.Slice none (some e) none sp) pos) m T Q X := e_sliceB hb hr hz h ht
end
theorem cells_of {ns : List Int} (h : ns ≠ []) (hz : ns.length ≤ 100) : CellsOk (ns.map AV.int) where
  num := fun i hi => by
    rw [List.length_map] at hi
    exact ⟨ns[i], by simp [hi]⟩
  pos := by rw [List.length_map]; exact List.length_pos_iff.mpr h
  few := by rw [List.length_map]; exact hz
local macro_rules | `(tactic| kas_types) => wFirst "sli_b F1"
local macro_rules | `(tactic| ke_read) => `(tactic| with_reducible first
  | (refine' e_slice2 ‹Heap.IsList _ _ _› ‹∀ h : Heap, RVs h _ _› ?o1 ?_ ?ht; keq_hits; (case ht => intro _ _; with_unfolding_all rfl))
  | fail)
theorem law_c (G : Gd w b0) {l : Addr} {vs : List Value} {ns : List Int} (hb : b0.IsList l vs.toArray) (hi : IntsAre vs ns) (hz : ns.length ≤ 63) :
    WC w b0 16 true (rf 487) [rf l] [(426, .tab [])] (fun r T => r = .bool true ∧ (426, .tab dTab) ∈ T) (fun _ _ => False) := by
  refine' wc_def1 (n₁ := Str.ofString "script") G ?ho ?hcd ?hb ?hs ?hl ?_
  case ho => k_is
  case hcd => k_is
  case hb => exact fun _ _ _ => BindsTo.of_eq rfl
  case hs => kernel_rfl
  case hl => kernel_rfl
  intro L fl A hc hh
  refine' b_cons (s_assign (W.mono (Q := fun a m₁ T₁ => ∃ tp cl xs, a = rf tp ∧ CellsOk xs ∧ m₁ = [(Str.ofString "script", rf l)] ∧ T₁ = TP tp cl xs 0 [(426, .tab [])]) (W.drop ?_) ?_ (fun _ _ _ h => h)) ?hk ?hs)
  case hk => kernel_rfl
  case hs => kernel_rfl
  · have hr : ∀ h, RVs h vs (ns.map AV.int) := fun h => intsRVs hi
    have hl0 : (ns.map AV.int).length ≤ 63 := by rw [List.length_map]; exact hz
    have hl1 : ∀ k, ((ns.map AV.int).take k).length ≤ 63 := fun k => by rw [List.length_take]; omega
    have hl2 := hl1 (kms_hi (some 60) (ns.map AV.int).length)
    repeat' cell_call
    · rename_i z3 z2 q z1
      have q' : ((ns.map AV.int).take (kms_hi (some 60) (ns.map AV.int).length)).isEmpty = false := by simpa using q
      refine ⟨_, _, fun _ h => h, .keep (.keep (.skip (.refl _))), z1, _, _, rfl, ?_, rfl, rfl⟩
      rw [← List.map_take]
      refine cells_of (fun e => ?_) (by rw [List.length_take]; omega)
      rw [← List.map_take, e] at q'
      cases q'
    · rename_i z4 z3 q z2 z1
      exact ⟨_, _, fun _ h => h, .keep (.keep (.skip (.skip (.refl _)))), z1, z2, _, rfl, cells_of (ns := [2]) (fun e => (nomatch e)) (by decide), rfl, rfl⟩
  · rintro a m T ⟨tp, cl, xs, rfl, C, rfl, rfl⟩
    repeat' cell_call
    refine k_fn (law_code_c G C (by omega) (by omega) (fun ops begs P k' co cx hC hbl hk1 hk2 => ?_)) hc (by decide) hh
    repeat' cell_call
    rename_i v v1 z1 z2
    have hlim : (20 : Int) + (v : Int) = ((20 + v : Nat) : Int) := by omega
    rw [hlim]
    refine k_fn (.less (law_deeds_1 (lg := z1) G (fun de dx cA => ?_)) (Sb.pull (l := [_]) (Sb.pull (l := [_]) (Sb.pull (l := [_]) (Sb.pull (l := [_]) (Sb.pull (l := [_]) (.refl _))))))) hc (by decide) hh
    repeat' cell_call
    refine k_fn (.less (law_seen_c (lg := z1) (R := [(426, .tab dTab), (z2, .list []), (tp, TpO cl (k' + 1)), (cl, .list xs)]) G hC hbl (limit := 20 + v) (by omega) ⟨0, 0, co, cx, de, dx, 0, 0, z1, cA⟩ rfl (fun T' hT' => ?_)) (Sb.pull (l := [_, _]) (Sb.pull (l := [_, _]) (Sb.pull (l := [_, _]) (Sb.pull (l := [_, _]) (.refl _)))))) hc (by decide) hh
    refine W.less (m' := _) (T' := _) ?_ (fun _ h => h) hT'
    repeat' cell_call
    refine k_fn (.less (law_deeds_2 (lg := z2) G (fun de2 dx2 cA2 => ?_)) (Sb.pull (l := [_]) (Sb.pull (l := [_]) (.refl _)))) hc (by decide) hh
    repeat' cell_call
    refine k_fn (.less (law_run_c (lg := z2) (R := [(426, .tab dTab), (z1, .list (runF ops begs (20 + v) st0).2)]) G hC hbl (limit := 20 + v) (by omega) ⟨0, 0, co, cx, de2, dx2, 0, 0, z2, cA2⟩ rfl (fun T'' hT'' => ?_)) (Sb.pull (l := [_, _]) (Sb.pull (l := [_, _]) (Sb.pull (l := [_, _]) (Sb.pull (l := [_, _]) (Sb.pull (l := [_]) (.keep (Sb.nil _)))))))) hc (by decide) hh
    have ok := log_ok (ops := ops) (begs := begs) (20 + v) st0 (fun _ h => (nomatch h))
    generalize runF ops begs (20 + v) st0 = rr at hT'' ok ⊢
    cell_call
    cell_call
    refine and_b_t (beq_self_eq_true _) ?_
    refine W.less (m' := _) (T' := _) ?_ (fun _ h => h) hT''
    repeat' cell_call
    refine c_eqlog hc (xs := rr.2) (.tail _ (.tail _ (.head _))) (.head _) ok ?_
    repeat' cell_call
    exact ⟨rfl, by mem_news⟩
end
section
theorem law_at (w : World) : nsIn (hd.heap_39 w.params) mainGlobals (Str.ofString "law") = some (some (.ref 487)) := by k_is
theorem no_tabs (w : World) : noTabs (hd.heap_39 w.params) = true := by kernel_rfl
theorem end_of {w : World} {s₁ : Shared} {fa l : Addr} {vs : List Value} {ns : List Int} {p : Program} {loose : List Str} {mean : ExcName → Option Value} {mg mb : Str → Option Value} (T : Top p loose mean mg mb s₁.heap) (KX : (KK w).In s₁.heap)
    (hT : TabsAt [(430, 426)] s₁.heap) (hgen : s₁.gens = #[]) (hmg : mg (Str.ofString "law") = some (.ref fa)) (hL : s₁.heap.IsList l vs.toArray) (hI : IntsAre vs ns) (hz : ¬ ((63 : Nat) : Int) < ns.length)
    {cw : ClaimW} {cl : Str → Option Addr} {mean' : ExcName → Option Value} {args : List WData} (hpost : cw.post args (.bool true) args = true) (hr : ∀ x, cw.raises args x = false) :
    codeAny (model pr w) callerA (.call (.ref fa) ⟨[.ref l], []⟩) (fun r s' => GoodW cw cl mean' args { s₁ with heap := ghostOf s₁.heap [(430, 426)] } r s' ∧ GrownAll [(430, 426)] s'.heap) s₁ := by
  have e := mg_of KX T.g (law_at w)
  rw [hmg] at e
  cases e
  have G : Gd w (ghostOf s₁.heap [(430, 426)]) := ⟨ghost_K hT KX (no_tabs w), _, _, _, _, _, ghost_top hT T⟩
  have hP := (hT (430, 426) (.head _)).2
  have hn : (ghostOf s₁.heap [(430, 426)]).get? 426 = none := hideAll_none _ (.head _)
  have O : OkH w (ghostOf s₁.heap [(430, 426)]) [] [(426, .tab [])] s₁.heap := by
    refine ⟨fun b o e => of_hideAll _ e, trivial, fun x hx => (nomatch hx), fun q hq => ?_, by simp [fps, fp], fun x hx => ?_, fun x hx => fun q => (nomatch q)⟩
    · rw [List.mem_singleton.mp hq]
      exact ⟨#[], hP, rfl⟩
    · have : x = 426 := by simpa [fps, fp] using hx
      rw [this]; exact hn
  refine codeAny_mono ((law_c G (ghost_list hT hL) hI (by omega)).run callerA [] s₁ (.ref 487) [.ref l] rfl (fun _ => rfl) ⟨by decide, by decide⟩ O (.raw _) (.cons (.raw _) .nil)) fun r s' z => ?_
  rcases r with e | (_ | _ | _ | v)
  · obtain ⟨_, _, _, _, _, _, _, h⟩ := z
    exact h.elim
  · exact False.elim z
  · exact False.elim z
  · exact False.elim z
  · obtain ⟨r, T', h1, h2, h3, rfl, h4⟩ := z
    cases h1
    obtain ⟨ps, h5, _⟩ := h2.rep _ h4
    exact ⟨⟨.inl ⟨.bool true, .bool true, [], rfl, hr, .bool true, hpost, fun _ => ⟨List.nodup_nil, fun _ h => (nomatch h)⟩⟩, h2.stay, h3.os, h3.gens.trans hgen⟩, ⟨ps, h5⟩, trivial⟩
end
end Mine
set_option maxHeartbeats 8000000 in
theorem PySem.Challenge.cw_pc0128_01_holds : PySem.Challenge.rw_pc0128_01.Holds := by
  refine Mine.hd ?_
  k_fill
  intro w s₀ s₁ mg mb G Y fa o pm cd doc dV kV ho hd hcd hD hmg hg args vals as hpre hlay hrd hwl hlo
  have KX := km_in_of Y
  km_tabs Y
  refine Ground.open G ?_
  intro T B D TE TW
  try (refine guard_noD D (by decide +kernel) ?_; clear D)
  km_lay T hmg ho hd cd
  wrow_args hpre hlay hrd hwl hlo
  all_goals (
    first | refine callC_kw (enter_call ?_) | refine enter_call ?_
    w_top on
    kn_posts)
  refine Mine.end_of T KX hT9 hg hmg (by assumption) (by assumption) (by assumption) ?_ (fun _ => rfl)
  refine' postW_of ?sx ?vx ?ex
  case sx => o_shape
  case vx => wtm_val
  case ex => w_fin
